import PyProof.Rows.All
import Wide.All
import OpenK.AllK
import Wide.FinOn
import KE.KStateDown
import KE.KMathG
import HandS.ForMost
import HandS.Ends
import HandS.Exc
import HandS.ExcOwn
import HandS.ExcIs
import HandS.TryOnly
import HandS.Defaults
import HandS.Lambda
import HandS.EndBits
import HandS.EndTab
import HandS.IsInst
import HandS.Gcd
import HandS.Wide
import HandS.WideMore
import HandS.WordsExc
import HandS.Walk
import HandS.Conv
import HandS.Flow
import Flt.RightSqrt
import HandS.HeadHook1
import HandS.HeadHook4
import Lean
import KE.KNestM
import HandS.Head0
import HandS.Head1
import HandS.Head2
import HandS.Head3
import HandS.HeadWalk
import PySem.Challenge.RW_rulerchest_k53_greatest_squares_first
set_option Elab.async false
set_option linter.all false
set_option maxRecDepth 100000
set_option maxHeartbeats 4000000
namespace Own
open PySem PySem.Spec PyProof.Rows L2 LamX
/-! ### a caught error that is kept as a value -/
/-- an exception object of the class cls (own dict at d) stands at a -/
def Caught (cls : Value) (d : Option Addr) (a : Addr) : HO := .ext fun h => ∃ oe : Obj, h.get? a = some oe ∧ Zc cls d oe ∧ ∃ vs, oe.data = .fields vs
theorem caught_ok {P : Program} {w : World} {H : Hp} {h : Heap} {a : Addr} {cls : Value} {d : Option Addr} {oe : Obj} (e : h.get? a = some oe) (z : Zc cls d oe) (k : ∃ vs, oe.data = .fields vs) : ObjOk P w H h a (Caught cls d a) :=
  ⟨⟨oe, e, z, k⟩, ⟨oe, e⟩, fun _ _ ⟨o1, e1, z1, k1⟩ st => ⟨o1, st _ e1, z1, k1⟩⟩
section
variable {X : Cx} {pins : List (Addr × Obj)}
/-- a new address gets known: nothing of the entry, no cell, no pin stands there -/
theorem note_new {σ : L2.St} {H : Hp} {s : Shared} {a : Addr} {u : HO} (I : Inv X pins σ H s) (na : H a = none) (n0 : X.s_0.heap.get? a = none) (nL : a ≠ X.env.locals) (nC : ∀ x c, X.env.cells.lookup x = some c → c ≠ a) (nP : ∀ p ∈ X.pn ++ pins, p.1 ≠ a)
    (new : ObjOk X.prog X.w (upd H a u) s.heap a u) : Inv X pins σ (upd H a u) s := by
  have apart : ∀ {b : Addr} {o : Obj}, X.s_0.heap.get? b = some o → b ≠ a := fun {b o} e z => by
    rw [z, n0] at e
    cases e
  refine ⟨I.ok, I.os, I.bare, ?_, I.loc, I.cell, ?_, ?_, ?_, ?_, I.len⟩
  · refine ⟨I.base.keep, I.base.slot, fun b o e n hx => ?_, I.base.there, fun b xs e => ?_, fun b o xs e => ?_, fun b ps e => ?_⟩
    · rw [upd_ne (apart e)]
      exact I.base.free b o e n hx
    · have q := I.base.tups b xs e
      rw [upd_ne (ne_of_none q na)]
      exact q
    · have q := I.base.frzs b o xs e
      rw [upd_ne (ne_of_none q na)]
      exact q
    · obtain ⟨more, q⟩ := I.base.tbls b ps e
      exact ⟨more, by rw [upd_ne (ne_of_none q na)]; exact q⟩
  · rw [upd_ne nL.symm]
    exact I.free
  · intro x c e
    rw [upd_ne (nC x c e)]
    exact I.freeC x c e
  · intro p hp
    obtain ⟨h1, h2, h3⟩ := I.pin p hp
    exact ⟨h1, by rw [upd_ne (nP p hp)]; exact h2, h3⟩
  · intro b o e
    by_cases hb : b = a
    · subst hb
      rw [upd_same] at e
      cases e
      exact new
    · rw [upd_ne hb] at e
      exact (I.hok b o e).stay (fun c v _ q => q) (fun c q => by rw [upd_ne (ne_of_none q na)]; exact q) fun c xs q => by rw [upd_ne (ne_of_none q na)]; exact q
/-- what is wished of an error that the clause takes and keeps -/
def wKeep (K : PySem.W.Frag) (c : Value) (i : Nat) (ts : Addr → Value → Option Addr → TS) (D : Ends) : WX := fun cls d σ H =>
  ∃ b, PySem.W.exmOne K cls c = some b ∧ (b = true → ∀ a, H a = none → ts a cls d { nx := fun σ' H' => H' a = none → D.nx (σ'.set i none) (upd H' a (Caught cls d a)), rt := fun _ _ => False } (σ.set i (some (.ref a))) H) ∧ (b = false → False)
/-- try: body / except x as n: suite, the error being known behind it; every error is of that class -/
theorem ps_try_keep {x n : Str} {c : Value} {i : Nat} {body suite : List Stmt} {b0 : Stmt} {np pos pos1 : Pos} {tb : WX → TS} {ts : Addr → Value → Option Addr → TS}
    (hs : X.stack = X.env :: X.outer) (hex : X.ex = []) (hf : X.env.frame = some X.env.locals) (hN : X.N.Nodup) (hi : X.N[i]? = some n) (hln : X.env.kindOf n = some .local) (hc : Names X x c)
    (hb : ∀ (W : WX) (pn : List (Addr × Obj)) (xe : Value → Shared → Prop), Takes (X.tr pn xe) W → PassesOwn (model X.prog X.w) X.A X.env xe → PSs (X.tr pn xe) body (tb W))
    (hsu : ∀ (a : Addr) (oe : Obj) (cls : Value) (d : Option Addr) (pn : List (Addr × Obj)), Zc cls d oe → (∃ vs, oe.data = .fields vs) → PSs (X.suite a ((a, oe) :: pn)) (b0 :: suite) (ts a cls d)) :
    PS X (.Try body [.ExceptHandler (some (.Name x np)) (some n) (b0 :: suite) pos1] [] [] pos) (fun D σ H => tb (wKeep X.K c i ts D) D σ H) := by
  constructor
  intro pins s σ H D I h
  have ok := I.ok
  have frm : X.A.frames = some (X.env :: X.outer) := ok.frames.trans (congrArg some hs)
  refine wpAny_Try_except (wpAny_mono (hb (wKeep X.K c i ts D) (X.pn ++ pins) (fun e t1 => wpAny (model X.prog X.w) X.A (noteFrame e X.env) (fun _ t2 => wpAny (model X.prog X.w) X.A (setFlight e none) (fun _ t3 =>
    wpAny (model X.prog X.w) X.A (handleBy e X.env [.ExceptHandler (some (.Name x np)) (some n) (b0 :: suite) pos1]) (SP X pins D) X.xe t3) X.xe t2) X.xe t1) (fun u t hx => ?_) PassesOwn.looking |>.run [] s σ H D (I.toTry _) h) (fun fl t hq => ?_) (fun _ _ he => he))
  · obtain ⟨a, B, s2, p2, σ2, H2, cls, d, rfl, Jt, nb, up, sky, na, os, ag, b, hb1, hyes, hno⟩ := hx
    have J : Inv X pins σ2 H2 s2 := Jt.ofTry ok
    rw [hs] at sky
    refine Sky.land Zc.steady frm hf sky fun h3 fl3 up3 => ?_
    have J3 : Inv X pins σ2 H2 { t with heap := h3 } := J.landed nb fl3.1 (up.trans up3) os ag
    obtain ⟨oe3, vs3, he3, hz3, hd3⟩ := fl3.there
    have out : a ∉ frs (X.env :: X.outer) := fun hm => by
      obtain ⟨_, o1, e1, no⟩ := fl3.2.2.1.mem hm
      rw [he3] at e1
      cases e1
      exact no _ hd3
    have nL : a ≠ X.env.locals := fun z => out (List.mem_filterMap.mpr ⟨X.env, List.mem_cons_self, by rw [hf, z]⟩)
    have nF : a ∉ X.fs := fun hm => by
      obtain ⟨e1, he1, q⟩ := List.mem_filterMap.mp hm
      exact out (List.mem_filterMap.mpr ⟨e1, List.mem_cons_of_mem _ he1, q⟩)
    -- nothing stood at a when the body was entered
    have nB : B.get? a = none := fl3.2.1
    have n2 : s2.heap.get? a = none := by
      cases q : s2.heap.get? a with
      | none => rfl
      | some o =>
        have z := nb a o q (by rw [hs]; exact out)
        rw [nB] at z
        cases z
    have n0 : X.s_0.heap.get? a = none := by
      cases q : X.s_0.heap.get? a with
      | none => rfl
      | some o =>
        obtain ⟨o1, q1⟩ := J.base.there a o q (by rw [hex]; exact List.not_mem_nil)
        rw [n2] at q1
        cases q1
    have nC : ∀ y c, X.env.cells.lookup y = some c → c ≠ a := fun y c e z => by
      obtain ⟨v, o, q, _⟩ := J.cell y c e
      rw [z, n2] at q
      cases q
    have nP : ∀ p ∈ X.pn ++ pins, p.1 ≠ a := fun p hp z => by
      have q := (J.pin p hp).1
      rw [z, n2] at q
      cases q
    refine wpAny_handleBy_cons (codeAny_handlers_test ?_) (fun z => nomatch z)
    have inS := J3.suite he3 hd3 na nL nF
    have asked : ∀ {Q E : Value → Shared → Prop}, Q c { t with heap := h3 } → wpAny (model X.prog X.w) (X.A.mark (some (.ref a))) (eval (.Name x np) X.env) Q E { t with heap := h3 } := fun {Q E} q => by
      obtain ⟨hg, hdbg, hm⟩ := hc
      rcases hm with hm | ⟨hm, hv, hnn⟩
      · exact ld_glob (X := X.suite a ((a, oe3) :: (X.pn ++ pins))) inS hg hm q hdbg
      · exact ld_blt (X := X.suite a ((a, oe3) :: (X.pn ++ pins))) inS hg hm hv q hnn hdbg
    have kind : PySem.W.Looks (model X.prog X.w) h3 (typeOf (.ref a)) cls := fun A Q E s k q => wpAny_typeOf_ref (k _ _ he3) (by rw [hz3.1]; exact q)
    refine asked ((PySem.W.exm_one (M := model X.prog X.w) (J3.kIn) kind hb1).here ?_)
    cases b with
    | false => exact (hno rfl).elim
    | true =>
      refine codeAny_handlers_suite_as (HandSPX.lands_againZ fl3 fun h4 fl4 up4 => ?_)
      have J4 : Inv X pins σ2 H2 { t with heap := h4 } := J.landed nb fl4.1 ((up.trans up3).trans up4) os ag
      obtain ⟨oe4, vs4, he4, hz4, hd4⟩ := fl4.there
      refine store_ok (X := X.suite a ((a, oe4) :: (X.pn ++ pins))) (v := .ref a) (J4.suite he4 hd4 na nL nF) hN hi (.inl hln) rfl (fun s5 S5 => ?_) (.inr hln)
      refine wpAny_mono ((hsu a oe4 cls d (X.pn ++ pins) hz4 ⟨_, hd4⟩).run [] s5 _ H2 _ S5 (hyes rfl a na)) (fun fl s6 hsp => ?_) (fun _ _ z => False.elim z)
      cases fl with
      | next =>
        obtain ⟨σ6, H6, S6, q6⟩ := hsp
        refine gone_ok (X := X.suite a ((a, oe4) :: (X.pn ++ pins))) S6 hN hi hln fun s7 S7 => ?_
        obtain ⟨e7, n7, _⟩ := S7.pin (a, oe4) (List.mem_append.mpr (.inl List.mem_cons_self))
        exact ⟨_, _, note_new (S7.unsuite ok) n7 n0 nL nC nP (caught_ok e7 hz4 ⟨_, hd4⟩), q6 n7⟩
      | brk =>
        obtain ⟨_, _, _, q6⟩ := hsp
        exact False.elim q6
      | cont =>
        obtain ⟨_, _, _, q6⟩ := hsp
        exact False.elim q6
      | ret u =>
        obtain ⟨_, _, _, _, _, q6⟩ := hsp
        exact False.elim q6
  · cases fl with
    | next =>
      obtain ⟨σ2, H2, J, q⟩ := hq
      exact wpAny_execs_nil ⟨σ2, H2, J.ofTry ok, q⟩
    | brk =>
      obtain ⟨σ2, H2, J, q⟩ := hq
      exact ⟨σ2, H2, J.ofTry ok, q⟩
    | cont =>
      obtain ⟨σ2, H2, J, q⟩ := hq
      exact ⟨σ2, H2, J.ofTry ok, q⟩
    | ret u =>
      obtain ⟨v, σ2, H2, J, r, q⟩ := hq
      exact ⟨v, σ2, H2, J.ofTry ok, r, q⟩
end
theorem tk_len {X : Cx} {W : WX} (tk : Takes X W) {n : Nat} (hn : X.N.length = n) : Takes X (fun cls d σ H => σ.length = n → W cls d σ H) := fun u s' ⟨a, B, sI, pins, σ, H, cls, d, e, I, h1, h2, h3, h4, h5, h6, w⟩ =>
  tk u s' ⟨a, B, sI, pins, σ, H, cls, d, e, I, h1, h2, h3, h4, h5, h6, w (I.len.trans hn)⟩
/-- isinstance(e, c), e an error that was caught and kept, c an own class; or a value of a known kind -/
def rIsX (K : PySem.W.Frag) : List V → Hp → VK → Prop := fun xs H Q => ∃ (a D : Addr) (dd : Option Addr) (c : V) (cv : Value) (b : Bool), xs = [.ref a, c] ∧ H a = some (Caught (.ref D) dd a) ∧ dd = none ∧ ExcC K D ∧ ClsV c cv ∧ PySem.W.kitOne K (.ref D) cv = some b ∧ Q (.bl b) H
theorem call_isX {X : Cx} : CallR X (.builtin "isinstance") (rIsX X.K) := by
  intro pins s σ H xs us Q I r h
  obtain ⟨a, D, dd, c, cv, b, rfl, ha, rfl, C, k, e, q⟩ := h
  obtain ⟨u1, u2, rfl, r1, r2⟩ := vals2 r
  have e2 := k.eq r2
  subst e2
  cases (show u1 = Value.ref a from r1)
  obtain ⟨⟨oe, ho, hz, vs, hv⟩, _, _⟩ := I.hok a _ ha
  have J : PySem.W.InstAt s.heap a oe D none := by
    obtain ⟨oc, od, oda, osl⟩ := oe
    obtain ⟨h1, h2⟩ := hz
    dsimp only at h1 h2 hv
    subst h1 h2 hv
    exact ⟨ho, rfl, rfl, trivial⟩
  exact PySem.W.kia_one (PySem.W.handS_kitx_exc C.hg C.hk C.hs C.hd C.ha C.hn C.ht C.hm) I.kIn J e (fun z => nomatch z) fun tk => ⟨.bl b, H, I.tok tk, rfl, q⟩
/-- f(e, ..) by either of two readings -/
theorem CallR.either {X : Cx} {f : Value} {r1 r2 : List V → Hp → VK → Prop} (h1 : CallR X f r1) (h2 : CallR X f r2) : CallR X f (fun xs H Q => r1 xs H Q ∨ r2 xs H Q) := by
  intro pins s σ H xs us Q I r h
  rcases h with h | h
  · exact h1 pins s σ H xs us Q I r h
  · exact h2 pins s σ H xs us Q I r h
/-! ### the law's own catcher: found = None; try: action() / except E as error: found = error; return found -/
def TKeep (K : PySem.W.Frag) (CS : Addr) : (XK → Hp → VK → Prop) → Hp → VK → Prop := fun tl H Q =>
  tl (fun cls d H' => ∃ b, PySem.W.exmOne K cls (.ref CS) = some b ∧ (b = true → ∀ a, H' a = none → Q (.ref a) (upd H' a (Caught cls d a))) ∧ (b = false → False)) H (fun _ H' => ∃ v, (some (some V.non) : Option (Option V)) = some (some v) ∧ Q v H')
theorem keep_gives {X : Cx} {Ng : List Str} {x a e n f q : Str} {sg : Scope} {g CS : Addr} {cdg : Value} {k1 : Nat} {p1 p2 p3 p4 p5 p6 p7 p8 p9 p10 p11 p12 p13 p14 : Pos}
    (hN : Ng = [a, f, n]) (nd : Ng.Nodup) (hlf : sg.names.lookup f = some .local) (hln : sg.names.lookup n = some .local) (hge : sg.names.lookup e = some .globalImplicit) (hme : X.mg e = some (.ref CS)) (hde : (e == ("__debug__" : Str)) = false)
    (hdf : (f == ("__debug__" : Str)) = false) (hcf : (f == ("__classdict__" : Str)) = false) (hdn : (n == ("__debug__" : Str)) = false) (hcn : (n == ("__classdict__" : Str)) = false) :
    GivesTo X Ng x sg g cdg [.Assign [.Name f p1] (.Constant .none k1 p2) p3, .Try [.Expr (.Call (.Name a p4) [] [] p5) p6] [.ExceptHandler (some (.Name e p7)) (some n) [.Assign [.Name f p8] (.Name n p9) p10] p11] [] [] p12, .Return (some (.Name f p13)) p14] a q (TKeep X.K CS) := by
  subst hN
  intro fa c' s H Q tl act hc h
  have hgl : Gl (cxOf C8.CX0 X.prog X.w X.K X.mg X.base [a, f, n] x sg g cdg X.A X.stack s H C8.E0).nox e := hge
  refine ⟨_, pss_cons (ps_set (X := (cxOf C8.CX0 X.prog X.w X.K X.mg X.base [a, f, n] x sg g cdg X.A X.stack s H C8.E0).nox) (i := 1) nd rfl (Or.inl hlf) pe_non (hf := Or.inr hlf))
    (pss_cons (ps_try_keep (X := (cxOf C8.CX0 X.prog X.w X.K X.mg X.base [a, f, n] x sg g cdg X.A X.stack s H C8.E0).nox) (i := 2) (c := .ref CS)
      (tb := fun W D σ H => ∃ Ech : XK, (∀ cls d σ' H', Ech cls d H' → σ'.length = 3 → W cls d σ' H') ∧ σ[0]? = some (some (.ref fa)) ∧ H c' = some (CodeO c' q) ∧ tl Ech H fun _ H1 => D.nx σ H1)
      (ts := fun a cls d => tAsg (tVar 2) (gName 1))
      rfl rfl rfl nd rfl hln ⟨hgl, hde, .inl hme⟩ (fun W pn xe tk _ => ?_) (fun a oe cls d pn _ _ => pss_one (ps_set (i := 1) nd rfl (Or.inl hlf) (pe_var rfl (Or.inl hln) hdn hcn) (hf := Or.inr hlf))))
    (pss_one (ps_ret (pe_var (i := 1) rfl (Or.inl hlf) hdf hcf)))), ?_⟩
  · refine ⟨fun pins s' σ H' D I h' => ?_⟩
    obtain ⟨Ech, hW, h1, h2, h3⟩ := h'
    have tk2 := tk_len tk (n := 3) rfl
    exact (pss_one (ps_expr (pos := p6) (act (fun cls d σ H => σ.length = 3 → W cls d σ H) pn xe Ech p4 p5 tk2 hW))).run pins s' σ H' D I ⟨h1, h2, h3⟩
  · refine ⟨fun cls d H' => ∃ b, PySem.W.exmOne X.K cls (.ref CS) = some b ∧ (b = true → ∀ a, H' a = none → Q (.ref a) (upd H' a (Caught cls d a))) ∧ (b = false → False), fun cls d σ' H' hE hl => ?_, rfl, hc, h⟩
    obtain ⟨b, e1, e2, e3⟩ := hE
    refine ⟨b, e1, fun hb a na => ?_, e3⟩
    match σ', hl with
    | [u1, u2, u3], _ => exact ⟨_, rfl, fun na => ⟨_, rfl, e2 hb a na⟩⟩
end Own
set_option Elab.async false
set_option linter.all false
set_option maxRecDepth 100000
set_option maxHeartbeats 4000000
namespace Own
open PySem PySem.Spec PyProof.Rows L2 LamX
/-! ### f(k = v, ..), all by keywords -/
section
variable {X : Cx} {CX : CXT} {k : Nat} {f : Addr} {fd : FuncData} {ps ks : List Str} {sp : Sp} {E : XK} {x : Str} {p pos : Pos} {kws : List Keyword} {tk : TA} {g : List Value → List Value → List Value} {gV : List V → List V → List V}
def tCallK0 (m : Nat) (sp : Sp) (gV : List V → List V → List V) (E : XK) (tk : TA) : TE := fun σ H Q => tk σ H fun zs H2 => zs.length = m ∧ sp (gV [] zs) H2 Q E
theorem pe_kw0 (F : FnOk X.prog X.w X.K X.mg X.base CX k f fd ps sp) (hr : Room k X.A) (hg : Gl X x) (hm : X.mg x = some (.ref f)) (hk : PySem.W.keepIn X.K (.ref f) = true) (hb : KBn X.K fd ps 0 ks g gV) (hx : Passes CX X E) (hkw : PK X kws tk)
    (hall : (backToKw pos (keywordEach kws X.env)).all (·.1.isSome) = true := by rfl) (hks : (backToKw pos (keywordEach kws X.env)).filterMap (·.1) = ks := by rfl) (hdb : (x == ("__debug__" : Str)) = false := by decide)
    (hpl : ((backTo pos (starEach [] X.env)).any (·.1) || (backToKw pos (keywordEach kws X.env)).any (·.1.isNone)) = false := by rfl) : PE X (.Call (.Name x p) [] kws pos) (tCallK0 ks.length sp gV E tk) := by
  constructor
  intro pins s σ H Q I h
  refine wpAny_Call_Name_kw (ld_glob I hg hm (PySem.W.callWith_KW0 (h₀ := X.base) I.ok.mod.kin hk hall (thn (hkw.run pos pins s σ H _ I h) fun ws s2 ⟨zs, H2, I2, rz, l2, q2⟩ => ⟨I2.kIn, ?_⟩) hpl) hdb)
  rw [hks]
  exact run_fnN (us := []) (vs := []) F hr hb hx I2 .nil rz rfl l2 q2
end
theorem kb_one {K : PySem.W.Frag} {x qual : Str} {params : Arguments} {body : List Stmt} {scope : Scope} {kws : List (Str × V)} {f : Addr} {fd : FuncData} {p : Str} (F : FunD K x qual params body scope [] kws f fd)
    (h : ∀ (kV doc pm : Value) (an : Option Addr) (cdv ct u : Value), bindArgs (PySem.W.fnOf x qual params body scope .none kV doc pm an cdv ct) ⟨[], [(p, u)]⟩ = pure [(p, u)]) : KBn K fd [p] 0 [p] (fun _ ws => ws) (fun _ zs => zs) := by
  obtain ⟨oc, od, dV, kV, doc, pm, an, cdv, ct, osl, rfl, lk, hcd, hD, hK⟩ := F.ex
  refine ⟨fun s us ws X l1 l2 => ?_, fun _ r => r⟩
  match us, ws, l1, l2 with
  | [], [u], _, _ =>
    rcases hD with ⟨_, rfl⟩ | ⟨e, _⟩
    · exact .of_eq (h kV doc pm an cdv ct u)
    · exact absurd rfl e
/-- len of a list, a tuple, the written part told by its own name -/
theorem call_lenK {X : Cx} {K : PySem.W.Frag} (hK : X.K = K) : CallR X (.builtin "len") (fun xs H Q => ∃ p ys, xs = [.ref p] ∧ (SqL K H p ys ∨ SqT K H p ys) ∧ Q (.int (List.length ys)) H) := by
  subst hK
  exact call_len_seq
end Own
set_option Elab.async false
set_option linter.all false
namespace Own
/-! ### squares, the greatest ones first -/
abbrev isq (n : Nat) : Nat := PySem.Float64.isqrt n
theorem isq_le (n : Nat) : isq n * isq n ≤ n := (PySem.Float64.isqrt_spec n).1
theorem lt_isq (n : Nat) : n < (isq n + 1) * (isq n + 1) := (PySem.Float64.isqrt_spec n).2
theorem isq_eq {n k : Nat} (h1 : k * k ≤ n) (h2 : n < (k + 1) * (k + 1)) : isq n = k := by
  have a := isq_le n
  have b := lt_isq n
  have c1 : ¬ isq n < k := fun h => by
    have : (isq n + 1) * (isq n + 1) ≤ k * k := Nat.mul_le_mul h h
    omega
  have c2 : ¬ k < isq n := fun h => by
    have : (k + 1) * (k + 1) ≤ isq n * isq n := Nat.mul_le_mul h h
    omega
  omega
theorem isq_pos {n : Nat} (h : 0 < n) : 0 < isq n := by
  have b := lt_isq n
  refine Nat.pos_of_ne_zero fun e => ?_
  rw [e] at b
  omega
def ds (n : Nat) : List Nat :=
  if h : 0 < n then isq n :: ds (n - isq n * isq n) else []
termination_by n
decreasing_by
  have a := isq_pos h
  have b : 0 < isq n * isq n := Nat.mul_pos a a
  omega
theorem ds_zero : ds 0 = [] := by
  rw [ds]
  simp
theorem ds_pos {n : Nat} (h : 0 < n) : ds n = isq n :: ds (n - isq n * isq n) := by
  rw [ds]
  simp [h]
/-- what is left is at most twice the item -/
theorem ds_rest (n : Nat) : n - isq n * isq n ≤ 2 * isq n := by
  have b := lt_isq n
  have e : (isq n + 1) * (isq n + 1) = isq n * isq n + 2 * isq n + 1 := by
    rw [Nat.add_mul, Nat.mul_add]
    omega
  omega
theorem ds_len : ∀ (k n : Nat), n < 2 ^ k → (ds n).length ≤ k + 5
  | k, 0, _ => by rw [ds_zero]; simp
  | 0, n + 1, h => by omega
  | k + 1, n + 1, h => by
    rw [ds_pos (Nat.succ_pos n)]
    have r := ds_rest (n + 1)
    have sq := isq_le (n + 1)
    have ps := isq_pos (Nat.succ_pos n)
    show (ds (n + 1 - isq (n + 1) * isq (n + 1))).length + 1 ≤ k + 1 + 5
    by_cases h4 : 4 ≤ isq (n + 1)
    · have : 4 * isq (n + 1) ≤ isq (n + 1) * isq (n + 1) := Nat.mul_le_mul_right _ h4
      have e : 2 ^ (k + 1) = 2 * 2 ^ k := by rw [Nat.pow_succ]; omega
      have ih := ds_len k (n + 1 - isq (n + 1) * isq (n + 1)) (by omega)
      omega
    · have small : ∀ m : Nat, m ≤ 6 → (ds m).length ≤ 4 := by
        intro m hm
        have e0 := ds_zero
        have e1 : ds 1 = [1] := by rw [ds_pos (by omega), show isq 1 = 1 from isq_eq (by omega) (by omega)]; simp [ds_zero]
        have e2 : ds 2 = [1, 1] := by rw [ds_pos (by omega), show isq 2 = 1 from isq_eq (by omega) (by omega)]; simp [e1]
        have e3 : ds 3 = [1, 1, 1] := by rw [ds_pos (by omega), show isq 3 = 1 from isq_eq (by omega) (by omega)]; simp [e2]
        have e4 : ds 4 = [2] := by rw [ds_pos (by omega), show isq 4 = 2 from isq_eq (by omega) (by omega)]; simp [e0]
        have e5 : ds 5 = [2, 1] := by rw [ds_pos (by omega), show isq 5 = 2 from isq_eq (by omega) (by omega)]; simp [e1]
        have e6 : ds 6 = [2, 1, 1] := by rw [ds_pos (by omega), show isq 6 = 2 from isq_eq (by omega) (by omega)]; simp [e2]
        have : m = 0 ∨ m = 1 ∨ m = 2 ∨ m = 3 ∨ m = 4 ∨ m = 5 ∨ m = 6 := by omega
        rcases this with rfl | rfl | rfl | rfl | rfl | rfl | rfl <;> simp [e0, e1, e2, e3, e4, e5, e6]
      have := small (n + 1 - isq (n + 1) * isq (n + 1)) (by omega)
      omega
termination_by k _ => k
/-- the least whole with so many items, as the program reckons it -/
def low : Nat → Nat
  | 0 => 0
  | 1 => 1
  | 2 => 2
  | n + 3 => match n with
    | 0 => 3
    | m + 1 => low (m + 3) + (low (m + 3) + 1) / 2 * ((low (m + 3) + 1) / 2)
theorem low_next (m : Nat) : low (m + 4) = low (m + 3) + (low (m + 3) + 1) / 2 * ((low (m + 3) + 1) / 2) := by
  rw [low]
theorem low_three : low 3 = 3 := by rw [low]
/-- one step up for every count from 1 on -/
theorem low_step : ∀ c : Nat, 0 < c → low (c + 1) = low c + (low c + 1) / 2 * ((low c + 1) / 2)
  | 1, _ => by simp [low]
  | 2, _ => by simp [low]
  | m + 3, _ => low_next m
theorem half_mono {a b : Nat} (h : a ≤ 2 * b) : (a + 1) / 2 ≤ b := by omega
/-- no lesser whole has so many items -/
theorem ds_least : ∀ (n c : Nat), c ≤ (ds n).length → low c ≤ n
  | 0, c, h => by
    rw [ds_zero] at h
    have : c = 0 := by simpa using h
    subst this
    simp [low]
  | n + 1, 0, _ => by simp [low]
  | n + 1, 1, _ => by simp [low]
  | n + 1, c + 2, h => by
    rw [ds_pos (Nat.succ_pos n)] at h
    have h1 : c + 1 ≤ (ds (n + 1 - isq (n + 1) * isq (n + 1))).length := by
      have : (c + 2) ≤ (ds (n + 1 - isq (n + 1) * isq (n + 1))).length + 1 := h
      omega
    have ps := isq_pos (Nat.succ_pos n)
    have pp : 0 < isq (n + 1) * isq (n + 1) := Nat.mul_pos ps ps
    have sq := isq_le (n + 1)
    have ih := ds_least (n + 1 - isq (n + 1) * isq (n + 1)) (c + 1) h1
    have r := ds_rest (n + 1)
    have hm : (low (c + 1) + 1) / 2 ≤ isq (n + 1) := half_mono (Nat.le_trans ih r)
    have hq : (low (c + 1) + 1) / 2 * ((low (c + 1) + 1) / 2) ≤ isq (n + 1) * isq (n + 1) := Nat.mul_le_mul hm hm
    rw [low_step (c + 1) (Nat.succ_pos c)]
    omega
termination_by n => n
decreasing_by
  have ps := isq_pos (Nat.succ_pos n)
  have pp : 0 < isq (n + 1) * isq (n + 1) := Nat.mul_pos ps ps
  omega
/-- it has just so many -/
theorem ds_low : ∀ c : Nat, (ds (low c)).length = c
  | 0 => by simp [low, ds_zero]
  | 1 => by
    rw [show low 1 = 1 by simp [low], ds_pos (by omega), show isq 1 = 1 from isq_eq (by omega) (by omega)]
    simp [ds_zero]
  | c + 2 => by
    have ih := ds_low (c + 1)
    have p1 : 0 < low (c + 1) := by
      refine Nat.pos_of_ne_zero fun e => ?_
      rw [e, ds_zero] at ih
      cases ih
    have e : low (c + 2) = low (c + 1) + (low (c + 1) + 1) / 2 * ((low (c + 1) + 1) / 2) := low_step (c + 1) (Nat.succ_pos c)
    have hh : 0 < (low (c + 1) + 1) / 2 := by omega
    have hsq : ((low (c + 1) + 1) / 2 + 1) * ((low (c + 1) + 1) / 2 + 1) = (low (c + 1) + 1) / 2 * ((low (c + 1) + 1) / 2) + 2 * ((low (c + 1) + 1) / 2) + 1 := by
      rw [Nat.add_mul, Nat.mul_add]
      omega
    have top : isq (low (c + 2)) = (low (c + 1) + 1) / 2 := isq_eq (by omega) (by omega)
    rw [ds_pos (by omega), top]
    have rest : low (c + 2) - (low (c + 1) + 1) / 2 * ((low (c + 1) + 1) / 2) = low (c + 1) := by omega
    rw [rest]
    show (ds (low (c + 1))).length + 1 = c + 2
    omega
/-! ### the law's own look at a list of items -/
def falls : Int → List Int → Bool
  | r, [] => decide (r = 0)
  | r, i :: l => if i < 1 then false else if r < i * i then false else if (i + 1) * (i + 1) ≤ r then false else falls (r - i * i) l
theorem falls_ds : ∀ n : Nat, falls (n : Int) ((ds n).map fun k : Nat => (k : Int)) = true
  | 0 => by rw [ds_zero]; simp [falls]
  | n + 1 => by
    have ps := isq_pos (Nat.succ_pos n)
    have pp : 0 < isq (n + 1) * isq (n + 1) := Nat.mul_pos ps ps
    have sq := isq_le (n + 1)
    have lt := lt_isq (n + 1)
    have ih := falls_ds (n + 1 - isq (n + 1) * isq (n + 1))
    rw [ds_pos (show 0 < n + 1 from Nat.succ_pos n), List.map_cons]
    have c0 : 0 < isq (n + 1) := ps
    have c1 : ¬ ((isq (n + 1) : Int) < 1) := by omega
    have e1 : ((isq (n + 1) : Int) * (isq (n + 1) : Int)) = ((isq (n + 1) * isq (n + 1) : Nat) : Int) := by rw [Int.natCast_mul]
    have e2 : (((isq (n + 1) : Int) + 1) * ((isq (n + 1) : Int) + 1)) = (((isq (n + 1) + 1) * (isq (n + 1) + 1) : Nat) : Int) := by rw [Int.natCast_mul]; rfl
    have c2 : ¬ (((n + 1 : Nat) : Int) < ((isq (n + 1) * isq (n + 1) : Nat) : Int)) := by omega
    have c3 : ¬ ((((isq (n + 1) + 1) * (isq (n + 1) + 1) : Nat) : Int) ≤ ((n + 1 : Nat) : Int)) := by omega
    rw [falls, if_neg c1, e1, e2, if_neg c2, if_neg c3]
    have e3 : (((n + 1 : Nat) : Int) - ((isq (n + 1) * isq (n + 1) : Nat) : Int)) = ((n + 1 - isq (n + 1) * isq (n + 1) : Nat) : Int) := by omega
    rw [e3]
    exact ih
termination_by n => n
decreasing_by
  have ps := isq_pos (Nat.succ_pos n)
  have pp : 0 < isq (n + 1) * isq (n + 1) := Nat.mul_pos ps ps
  omega
end Own
set_option Elab.async false
set_option linter.all false
set_option maxRecDepth 100000
set_option maxHeartbeats 4000000
namespace Own
open PySem PySem.Spec PyProof.Rows L2 LamX
/-! ### the text -/
def top (i : Nat) : Stmt := PySem.Challenge.pw_rulerchest_k53_greatest_squares_first.main.body.getD i (.Pass ⟨0, 0, 0, 0⟩)
abbrev sWhole : Stmt := top 5
abbrev sDown : Stmt := top 7
abbrev sLeast : Stmt := top 8
abbrev sBegun : Stmt := top 10
abbrev sStir : Stmt := top 11
abbrev sDraw : Stmt := top 12
abbrev sPick : Stmt := top 13
abbrev sCaught : Stmt := top 14
abbrev sLWhole : Stmt := top 15
abbrev sFalls : Stmt := top 16
abbrev sLows : Stmt := top 17
abbrev sSome : Stmt := top 18
abbrev sLaw : Stmt := top 19
abbrev FnP (K : PySem.W.Frag) (x : Str) (st : Stmt) (f : Addr) (fd : FuncData) : Prop := FunD K x x (defArgs st) (defBody st) (defScope st) [] [] f fd
/-! ### kinds of values -/
/-- isinstance(x, int) is i, isinstance(x, bool) is b -/
def Kind (K : PySem.W.Frag) (H : Hp) (x : V) (i b : Bool) : Prop := ∃ t : String, TyX K H x (.type t) ∧ kitB t "int" = some i ∧ kitB t "bool" = some b
theorem Kind.int {K : PySem.W.Frag} {H : Hp} (z : Int) : Kind K H (.int z) true false := ⟨"int", .base (.int z), by decide +kernel, by decide +kernel⟩
theorem Kind.bl {K : PySem.W.Frag} {H : Hp} (z : Bool) : Kind K H (.bl z) true true := ⟨"bool", .base (.bl z), by decide +kernel, by decide +kernel⟩
theorem Kind.non {K : PySem.W.Frag} {H : Hp} : Kind K H .non false false := ⟨"NoneType", .base .non, by decide +kernel, by decide +kernel⟩
theorem Kind.str {K : PySem.W.Frag} {H : Hp} (z : Str) : Kind K H (.str z) false false := ⟨"str", .base (.str z), by decide +kernel, by decide +kernel⟩
theorem Kind.lst {K : PySem.W.Frag} {H : Hp} {a : Addr} {xs : List V} (e : H a = some (.lst xs)) : Kind K H (.ref a) false false := ⟨"list", .base (.lst e), by decide +kernel, by decide +kernel⟩
theorem Kind.tup {K : PySem.W.Frag} {H : Hp} {a : Addr} {xs : List V} (e : H a = some (.tup xs)) : Kind K H (.ref a) false false := ⟨"tuple", .base (.tup e), by decide +kernel, by decide +kernel⟩
theorem Kind.dict {K : PySem.W.Frag} {H : Hp} {a : Addr} {kvs : List (Key × V)} (e : H a = some (.dK kvs)) : Kind K H (.ref a) false false := ⟨"dict", .base (.dK e), by decide +kernel, by decide +kernel⟩
/-! ### what the walk asks of the module -/
structure Txt (K : PySem.W.Frag) (mg : Str → Option Value) : Prop where
  isi : mg "isinstance" = none
  int : mg "int" = none
  bool : mg "bool" = none
  abs : mg "abs" = none
  len : mg "len" = none
  range : mg "range" = none
  list : mg "list" = none
  max : mg "max" = none
  min : mg "min" = none
  enum : mg "enumerate" = none
def spWhole (K : PySem.W.Frag) : Sp := fun vs H Q _ => ∃ x i b, vs = [x] ∧ Kind K H x i b ∧ Q (.bl (i && !b)) H
section
variable {P : Program} {w : World} {K : PySem.W.Frag} {mg : Str → Option Value} {base : Heap} {f : Addr} {fd : FuncData}
theorem scWhole : FnScope ["value"] ["value"] (defScope sWhole) := ⟨rfl, rfl, rfl, by decide +kernel, rfl, by decide +kernel, by decide +kernel⟩
theorem ok_whole (F : FnP K "is_whole" sWhole f fd) (T : Txt K mg) : FnOk P w K mg base CX0 1 f fd ["value"] (spWhole K) := by
  refine F.ok scWhole (fun vs H Q E h => ?_) (fun cdv A outer s H vs Q E hr h => ?_)
  · obtain ⟨x, i, b, rfl, _⟩ := h
    rfl
  · obtain ⟨x, i, b, rfl, ⟨t, ty, e1, e2⟩, k⟩ := h
    refine ⟨_, PSs.nox (pss_one (ps_ret (pe_and (pe_callB call_isi (by rfl) T.isi boot_isinstance (pa_cons (pv 0) (pa_cons (pe_bltn (v := .ty "int") (by rfl) T.int boot_int rfl) pa_nil)))
      (pe_one (pe_not (pe_callB call_isi (by rfl) T.isi boot_isinstance (pa_cons (pv 0) (pa_cons (pe_bltn (v := .ty "bool") (by rfl) T.bool boot_bool rfl) pa_nil)))))))), ?_⟩
    refine ⟨_, rfl, x, .ty "int", .type t, .type "int", i, rfl, .ty _, ty, kit_ty e1, i, rfl, ?_⟩
    cases i with
    | false =>
      refine iteF ?_
      exact k
    | true =>
      refine iteT ?_
      exact ⟨_, rfl, x, .ty "bool", .type t, .type "bool", b, rfl, .ty _, ty, kit_ty e2, b, rfl, k⟩
end
end Own
set_option Elab.async false
set_option linter.all false
set_option maxRecDepth 100000
set_option maxHeartbeats 4000000
namespace Own
open PySem PySem.Spec PyProof.Rows L2 LamX
/-- math.isqrt of a whole from 0 on, of less than 10000 bits -/
def rIsqrt : List V → Hp → VK → Prop := fun vs H Q => ∃ n : Nat, vs = [.int n] ∧ n < 2 ^ 10000 ∧ Q (.int (isq n : Nat)) H
theorem cr_isqrt {X : Cx} : CallR X (.builtin "math.isqrt") rIsqrt := by
  intro pins s σ H vs us Q I r h
  obtain ⟨n, rfl, hn, q⟩ := h
  obtain ⟨u, rfl, t, rfl⟩ := vals1 r
  have hl : ((n : Int).toNat).log2 < 10000 := by
    show n.log2 < 10000
    exact PySem.Flt.log2_lt_of (by decide) hn
  exact call_function_meets PySem.W.MGF.kind_isqrt PySem.W.MGF.plain_isqrt PySem.W.MGF.entry_isqrt (PySem.W.MGF.args_isqrt _) (PySem.W.mg_run_isqrt (n : Int) t (by omega) (by omega) (by omega)).meets ⟨.int _, H, I.tok _, ⟨_, rfl⟩, q⟩
/-- what the module says of an own error class without __init__ -/
structure ExcT (K : PySem.W.Frag) (mg : Str → Option Value) (x : Str) (C : Addr) : Prop where
  g : mg x = some (.ref C)
  x : PySem.W.excIn K C He.veBase "ValueError.__new__" = true
  k : PySem.W.keepIn K (.ref C) = true
  b : PySem.W.subIn K (.ref C) (.type "BaseException") = some true
  t : PySem.W.typeIn K (.ref C) = some (.type "type")
def spDown (K : PySem.W.Frag) (CB : Addr) : Sp := fun vs H Q E => ∃ x i b, vs = [x] ∧ Kind K H x i b ∧ ((∃ n : Nat, x = .int n ∧ n < 2 ^ 200 ∧ ∀ p H', H p = none → H' = upd H p (.lst ((ds n).map fun k : Nat => .int (k : Int))) → Q (.ref p) H') ∨ ((i && !b) = false ∨ ∃ z : Int, x = .int z ∧ z < 0) ∧ E (.ref CB) none H)
section
variable {P : Program} {w : World} {K : PySem.W.Frag} {mg : Str → Option Value} {base : Heap} {f fW CB : Addr} {fd fdW : FuncData}
theorem scDown : FnScope ["n", "found", "rest", "top"] ["n"] (defScope sDown) := ⟨rfl, rfl, rfl, by decide +kernel, rfl, by decide +kernel, by decide +kernel⟩
theorem kind_of_int {H : Hp} {z : Int} {i b : Bool} (h : Kind K H (.int z) i b) : (i && !b) = true := by
  obtain ⟨t, ty, e1, e2⟩ := h
  cases ty with
  | base q =>
    cases q
    have a1 : kitB "int" "int" = some true := by decide +kernel
    have a2 : kitB "int" "bool" = some false := by decide +kernel
    rw [a1] at e1
    rw [a2] at e2
    cases e1
    cases e2
    rfl
theorem ok_down (F : FnP K "downsquares" sDown f fd) (FW : FnP K "is_whole" sWhole fW fdW) (T : Txt K mg) (gW : mg "is_whole" = some (.ref fW)) (gI : mg "isqrt" = some (.builtin "math.isqrt")) (B : ExcT K mg "BadCount" CB) : FnOk P w K mg base (L2.CX P w) 2 f fd ["n"] (spDown K CB) := by
  have GW : FnOk P w K mg base CX0 1 fW fdW ["value"] (spWhole K) := ok_whole FW T
  have bW : Binds K fdW ["value"] [] := FW.bindsN fun _ _ _ _ _ _ us hl => match us, hl with | [_], _ => rfl
  refine F.ok scDown (fun vs H Q E h => ?_) (fun cdv A outer s H vs Q E hr h => ?_)
  · obtain ⟨x, i, b, rfl, _⟩ := h
    rfl
  · obtain ⟨x, i, b, rfl, kd, k⟩ := h
    refine ⟨_, pss_cons (ps_if (PW.pt (pw_or (pt_not (pt_val (pe_call GW hr (by rfl) gW FW.kp bW .nil pass0 (pa_cons (pv 0) pa_nil)))) (pw_or1 (pt_cmpR op_lt (pv 0) pe_int (nomark _)))))
        (pss_one (ps_raise rfl (takes_of rfl rfl rfl rfl) (pmk_own PySem.F.excBase_ValueError B.x B.g B.k (raises_own B.b B.t) rfl))) pss_nil)
      (pss_cons (ps_par (i := 1) (j := 2) rfl scDown.nd rfl rfl (by decide) rfl rfl (pa_cons (pe_lst pa_nil) (pa_cons (pv 0) pa_nil)) (by rfl))
      (pss_cons (ps_while (passes_of rfl) (pt_cmpR op_gt (pv 2) pe_int (nomark _))
        (pss_cons (ps_set (i := 3) scDown.nd rfl (.inl rfl) (pe_callBfun cr_isqrt (by rfl) gI (pa_cons (pv 2) pa_nil)))
        (pss_cons (ps_expr (pe_bm PySem.F.plainAttrs_list PySem.F.slot_list_append PySem.F.type_list_append mt_append (pv 1) (pa_cons (pv 3) pa_nil)))
        (pss_one (ps_aug (i := 2) scDown.nd rfl (.inl rfl) (pe_op op_mulW (pv 3) (pv 3)) ip_sub)))))
      (pss_one (ps_ret (pv 1))))), ?_⟩
    refine ⟨_, rfl, x, i, b, rfl, kd, (i && !b), rfl, ?_⟩
    rcases k with ⟨n, rfl, hn, k⟩ | ⟨k1, k2⟩
    · rw [kind_of_int kd]
      refine iteF ?_
      refine ⟨_, rfl, _, _, rfl, rfl, _, rfl, ?_⟩
      have c0 : ¬ ((n : Int) < 0) := by omega
      refine ite2 (fun z => absurd (of_decide_eq_true z) c0) fun _ => ?_
      refine ⟨(by show 0 ≤ sizeLine; decide), fun l hl => ?_⟩
      refine ⟨_, rfl, _, _, rfl, ?_⟩
      refine while_by (fun σ H1 => ∃ (pre : List Nat) (r : Nat) (v : Option V), σ = [some (.int n), some (.ref l), some (.int r), v] ∧ H1 = upd H l (.lst (pre.map fun k : Nat => .int (k : Int))) ∧ pre ++ ds r = ds n ∧ r ≤ n)
        (fun σ _ => match σ with | [_, _, some (.int r), _] => r.toNat | _ => 0) ⟨[], n, none, rfl, rfl, rfl, Nat.le_refl _⟩ ?_ ?_
      · rintro σ H1 ⟨pre, r, v, rfl, rfl, e, hr⟩
        refine ⟨_, rfl, _, _, rfl, rfl, _, rfl, ?_⟩
        refine ite2 (fun z => ?_) fun z => ?_
        · have h0 : 0 < r := by
            have := of_decide_eq_true z
            omega
          have hd := ds_pos h0
          have sq := isq_le r
          have ps := isq_pos h0
          have pp : 0 < isq r * isq r := Nat.mul_pos ps ps
          have hlen : pre.length ≤ 205 := by
            have a := ds_len 200 n hn
            rw [← e, List.length_append] at a
            omega
          have hmul : isq r < 2 ^ 200 := by
            have : isq r ≤ isq r * isq r := Nat.le_mul_of_pos_left _ ps
            omega
          refine ⟨_, rfl, r, rfl, Nat.lt_of_le_of_lt hr (Nat.lt_trans hn (Nat.pow_lt_pow_right (by decide) (by decide))), ?_⟩
          refine ⟨_, rfl, .inl ⟨rfl, _, .inl (.inl upd_same)⟩, _, rfl, l, _, _, rfl, rfl, upd_same, (by rw [List.length_map]; exact Nat.lt_of_le_of_lt hlen (by decide)), ?_⟩
          have e1 : (n : Int) = n := rfl
          refine ⟨_, rfl, _, rfl, _, rfl, _, _, rfl, rfl, wide_mul (a := 200) (b := 200) (by omega) (by omega) (by decide) (by decide) (by decide), _, _, rfl, rfl, ?_⟩
          have es : (r : Int) - (isq r : Int) * (isq r : Int) = ((r - isq r * isq r : Nat) : Int) := by
            rw [← Int.natCast_mul]
            omega
          refine ⟨⟨pre ++ [isq r], r - isq r * isq r, some (.int (isq r : Nat)), ?_, ?_, ?_, by omega⟩, ?_⟩
          · show [some (V.int n), some (V.ref l), some (V.int ((r : Int) - (isq r : Int) * (isq r : Int))), some (V.int (isq r : Nat))] = _
            rw [es]
          · rw [upd_upd, List.map_append]
            all_goals rfl
          · rw [List.append_assoc, ← e, hd]
            all_goals rfl
          · show ((r : Int) - (isq r : Int) * (isq r : Int)).toNat < ((r : Int)).toNat
            rw [es]
            omega
        · have h0 : r = 0 := by
            have : ¬ ((0 : Int) < r) := fun q => z (decide_eq_true q)
            omega
          subst h0
          rw [ds_zero, List.append_nil] at e
          refine ⟨_, rfl, ?_⟩
          rw [e]
          exact k l _ hl rfl
      · rintro σ H1 Q1 Q2 hq ⟨v, e1, i, j, e2, e3, k0, e4, q⟩
        exact ⟨v, e1, i, j, e2, e3, k0, e4, hq _ _ q⟩
    · rcases k1 with k1 | ⟨z, rfl, hz⟩
      · rw [k1]
        exact iteT (iteT k2)
      · rw [kind_of_int kd]
        refine iteF ?_
        refine ⟨_, rfl, _, _, rfl, rfl, _, rfl, ?_⟩
        rw [decide_eq_true hz]
        exact iteT k2
end
end Own
set_option Elab.async false
set_option linter.all false
set_option maxRecDepth 100000
set_option maxHeartbeats 4000000
namespace Own
open PySem PySem.Spec PyProof.Rows L2 LamX
theorem yes_if {σ : L2.St} {H : Hp} {A B : Hp → Prop} (h : A H) : tYes σ H (fun b H3 => if b = true then A H3 else B H3) := by
  show if true = true then A H else B H
  rw [if_pos rfl]
  exact h
/-! ### the law's draws: a state of two lists and two wholes -/
def stK (lw lc : Addr) (r u : Int) : List (Key × V) := [(.inr "wide", .ref lw), (.inr "cells", .ref lc), (.inr "rest", .int r), (.inr "turn", .int u)]
theorem stK_wide (lw lc : Addr) (r u : Int) : valV (stK lw lc r u) (.inr "wide") = some (.ref lw) := by kernel_rfl
theorem stK_cells (lw lc : Addr) (r u : Int) : valV (stK lw lc r u) (.inr "cells") = some (.ref lc) := by kernel_rfl
theorem stK_rest (lw lc : Addr) (r u : Int) : valV (stK lw lc r u) (.inr "rest") = some (.int r) := by kernel_rfl
theorem stK_turn (lw lc : Addr) (r u : Int) : valV (stK lw lc r u) (.inr "turn") = some (.int u) := by kernel_rfl
theorem stK_putRest (lw lc : Addr) (r u z : Int) : putK (stK lw lc r u) (.inr "rest") (.int z) = stK lw lc z u := by kernel_rfl
theorem stK_putTurn (lw lc : Addr) (r u z : Int) : putK (stK lw lc r u) (.inr "turn") (.int z) = stK lw lc r z := by kernel_rfl
theorem stK_new (lw lc : Addr) : mergeK [] (stK lw lc 0 0) = stK lw lc 0 0 := by kernel_rfl
theorem dget_k {H : Hp} {a : Addr} {kvs : List (Key × V)} (k : Key) {v : V} (h : H a = some (.dK kvs)) (e : valV kvs k = some v) : DGet H a (kV k) (some v) := e ▸ DGet.k h
theorem dput_k {H : Hp} {a : Addr} {kvs kvs' : List (Key × V)} (k : Key) {v : V} (h : H a = some (.dK kvs)) (hl : kvs.length < sizeLine) (e : putK kvs k v = kvs') : DPut H a (kV k) v (upd H a (.dK kvs')) := e ▸ DPut.k h hl
/-- the state at a, its turns being at most t -/
structure StA (H : Hp) (a lw lc : Addr) (t : Nat) : Prop where
  ex : ∃ (ws cs : List Int) (r u : Int), H a = some (.dK (stK lw lc r u)) ∧ H lw = some (.lst (ws.map V.int)) ∧ H lc = some (.lst (cs.map V.int)) ∧ 0 ≤ r ∧ 0 ≤ u ∧ u ≤ t ∧ (∀ z ∈ ws, 0 ≤ z) ∧ ws.length ≤ 63
  ne : lw ≠ lc
/-- all that was tracked is as it was, but for what stands at xs -/
def Kp (xs : List Addr) (H H' : Hp) : Prop := ∀ b o, H b = some o → b ∉ xs → H' b = some o
theorem Kp.refl (xs : List Addr) (H : Hp) : Kp xs H H := fun _ _ h _ => h
theorem Kp.trans {xs : List Addr} {H H1 H2 : Hp} (a : Kp xs H H1) (b : Kp xs H1 H2) : Kp xs H H2 := fun c o h n => b c o (a c o h n) n
theorem Kp.of {xs : List Addr} {H H' : Hp} (e : Same H H') : Kp xs H H' := fun b o h _ => e b o h
theorem Kp.upd {xs : List Addr} {H : Hp} {a : Addr} {o : HO} (h : a ∈ xs) : Kp xs H (L2.upd H a o) := fun b u e n => by
  rw [upd_ne (fun z => n (by rw [z]; exact h))]
  exact e
theorem Same.upd {H : Hp} {a : Addr} {o : HO} (h : H a = none) : Same H (L2.upd H a o) := fun b u e => by
  rw [upd_ne (ne_of_none e h)]
  exact e
theorem Kp.weak {xs ys : List Addr} {H H' : Hp} (a : Kp xs H H') (h : ∀ b ∈ xs, b ∈ ys) : Kp ys H H' := fun b o e n => a b o e fun z => n (h b z)
theorem StA.same {H H' : Hp} {a lw lc : Addr} {t : Nat} (S : StA H a lw lc t) (e : Same H H') : StA H' a lw lc t := by
  obtain ⟨⟨ws, cs, r, u, h1, h2, h3, h4⟩, ne⟩ := S
  exact ⟨⟨ws, cs, r, u, e _ _ h1, e _ _ h2, e _ _ h3, h4⟩, ne⟩
theorem StA.more {H : Hp} {a lw lc : Addr} {t t' : Nat} (S : StA H a lw lc t) (h : t ≤ t') : StA H a lw lc t' := by
  obtain ⟨⟨ws, cs, r, u, h1, h2, h3, h4, h5, h6, h7⟩, ne⟩ := S
  exact ⟨⟨ws, cs, r, u, h1, h2, h3, h4, h5, by omega, h7⟩, ne⟩
def spBegun (K : PySem.W.Frag) : Sp := fun vs H Q _ => ∃ (s : Addr) (ns : List Int), vs = [.ref s] ∧ SqL K H s (ns.map V.int) ∧ ns.length ≤ 63 ∧
  ∀ a lw lc H', H a = none → H lw = none → H lc = none → StA H' a lw lc 0 → Same H H' → Q (.ref a) H'
def spStir : Sp := fun vs H Q _ => ∃ (a lw lc : Addr) (t : Nat), vs = [.ref a] ∧ StA H a lw lc t ∧ t < 2 ^ 40 ∧
  ∀ z H', 0 ≤ z → StA H' a lw lc (t + 1) → Kp [a] H H' → Q (.int z) H'
def spDraw : Sp := fun vs H Q _ => ∃ (a lw lc : Addr) (t : Nat) (n : Int), vs = [.ref a, .int n] ∧ StA H a lw lc t ∧ t < 2 ^ 40 ∧ 0 < n ∧ n < 2 ^ 64 ∧
  ∀ z H', 0 ≤ z → z < n → StA H' a lw lc (t + 1) → Kp [a, lw] H H' → Q (.int z) H'
def spPick (K : PySem.W.Frag) : Sp := fun vs H Q _ => ∃ (a lw lc : Addr) (t : Nat) (l : Addr) (xs : List V), vs = [.ref a, .ref l] ∧ StA H a lw lc t ∧ t < 2 ^ 40 ∧ H l = some (.lst xs) ∧ l ≠ lw ∧ 0 < xs.length ∧ xs.length ≤ 1000 ∧
  ∀ (i : Nat) x H', xs[i]? = some x → StA H' a lw lc (t + 1) → Kp [a, lw] H H' → Q x H'
section
variable {P : Program} {w : World} {K : PySem.W.Frag} {mg : Str → Option Value} {base : Heap} {f fS fD : Addr} {fd fdS fdD : FuncData}
theorem scBegun : FnScope ["_law_script", "_law_wide", "_law_cell"] ["_law_script"] (defScope sBegun) := ⟨rfl, rfl, rfl, by decide +kernel, rfl, by decide +kernel, by decide +kernel⟩
theorem ok_begun (F : FnP K "_law_begun" sBegun f fd) (T : Txt K mg) : FnOk P w K mg base CX0 1 f fd ["_law_script"] (spBegun K) := by
  refine F.ok scBegun (fun vs H Q E h => ?_) (fun cdv A outer s H vs Q E hr h => ?_)
  · obtain ⟨x, i, rfl, _⟩ := h
    rfl
  · obtain ⟨x, ns, rfl, hS, hl, k⟩ := h
    refine ⟨_, PSs.nox (pss_cons (ps_setLc (i := 1) (own := [("_law_cell", 2)]) (g := gName 2) (by rfl) scBegun.nd rfl rfl (sw_true rfl rfl rfl (by decide +kernel)) (pi_list (pv 0)) (blkOk_by (own := [("_law_cell", 2)]) (N := ["_law_script", "_law_wide", "_law_cell"]) (sc := defScope sBegun) (by decide +kernel))
        (fun _ _ _ _ _ => pg_name (i := 2) scBegun.nd rfl (Or.inl rfl))
        (fun _ _ _ _ _ => pts_one (pt_cmpR op_ge (pe_callB call_abs (by rfl) T.abs (by decide +kernel) (pa_cons (pv 2) pa_nil)) (pe_op op_pow pe_int pe_int) (nomark _)))
        (fun _ _ _ _ _ => pe_op op_sub (pe_callB call_abs (by rfl) T.abs (by decide +kernel) (pa_cons (pv 2) pa_nil)) (pe_op op_pow pe_int pe_int)))
      (pss_one (ps_ret (pe_disp (pps_cons pe_str (pv 1) (pps_cons pe_str (pe_lc (own := [("_law_cell", 2)]) (g := gName 2) (tt := tYes) (by rfl) scBegun.nd (pi_list (pv 0)) (blkOk_by (own := [("_law_cell", 2)]) (N := ["_law_script", "_law_wide", "_law_cell"]) (sc := defScope sBegun) (by decide +kernel))
        (fun _ _ _ _ _ => pg_name (i := 2) scBegun.nd rfl (Or.inl rfl)) (fun _ _ _ _ _ => pts_nil) (fun _ _ _ _ _ => pe_callB call_abs (by rfl) T.abs (by decide +kernel) (pa_cons (pv 2) pa_nil)))
        (pps_cons pe_str pe_int (pps_cons pe_str pe_int pps_nil)))) (by rfl) (by rfl) (fun z => by cases z) (by decide))))), ?_⟩
    refine ⟨_, rfl, x, rfl, ⟨_, hS⟩, fun lw nw => ?_⟩
    have sw : ∀ o, Same H (L2.upd H lw o) := fun o => Same.upd nw
    refine lc_list (K := K) (a := x) (xs := ns.map V.int) (fun i H1 => ∃ ws : List Int, H1 = L2.upd H lw (.lst (ws.map V.int)) ∧ (∀ z ∈ ws, 0 ≤ z) ∧ ws.length ≤ i) ⟨[], rfl, (fun z hz => by cases hz), Nat.le_refl _⟩ (fun i H1 _ ⟨ws, e, _⟩ => by rw [e]; exact (sw _).seq hS) ?_ ?_
    · rintro i y H1 hi ⟨ws, rfl, h0, hw⟩
      obtain ⟨z, hz, rfl⟩ : ∃ z, ns[i]? = some z ∧ y = V.int z := by
        rw [List.getElem?_map] at hi
        cases e : ns[i]? with
        | none =>
          rw [e] at hi
          cases hi
        | some z =>
          rw [e] at hi
          exact ⟨z, rfl, (Option.some.inj hi).symm⟩
      have hin : i < 63 := Nat.lt_of_lt_of_le (List.getElem?_eq_some_iff.mp hz).1 hl
      refine ⟨rfl, _, rfl, z, rfl, _, _, rfl, rfl, ⟨by decide, by decide, by decide⟩, _, _, rfl, rfl, _, rfl, ?_⟩
      refine ite2 (fun hc => ?_) fun _ => ⟨ws, rfl, h0, by omega⟩
      refine ⟨_, rfl, z, rfl, _, _, rfl, rfl, ⟨by decide, by decide, by decide⟩, _, _, rfl, rfl, _, upd_same, (by rw [List.length_map]; exact Nat.lt_of_le_of_lt (Nat.le_trans hw (Nat.le_of_lt hin)) (by decide)), ?_⟩
      refine ⟨ws ++ [(if z < 0 then -z else z) - 10 ^ (18 : Int).toNat], ?_, fun q hq => ?_, by simp; omega⟩
      · rw [upd_upd, List.map_append]
        all_goals rfl
      · rcases List.mem_append.mp hq with m | m
        · exact h0 q m
        · have hc' := of_decide_eq_true hc
          rw [List.mem_singleton] at m
          subst m
          omega
    · rintro H1 ⟨ws, rfl, h0, hw⟩
      intro a na
      have nL : a ≠ lw := fun z => by
        rw [z, upd_same] at na
        cases na
      have na0 : H a = none := by
        rw [upd_ne nL] at na
        exact na
      have s1 : Same H (L2.upd (L2.upd H lw (.lst (ws.map V.int))) a (.dK [])) := (sw _).trans (Same.upd na)
      refine ⟨_, rfl, ?_⟩
      refine ⟨_, rfl, x, rfl, ⟨_, s1.seq hS⟩, fun lc nc => ?_⟩
      have sc : ∀ o, Same (L2.upd (L2.upd H lw (.lst (ws.map V.int))) a (.dK [])) (L2.upd (L2.upd (L2.upd H lw (.lst (ws.map V.int))) a (.dK [])) lc o) := fun o => Same.upd nc
      refine lc_list (K := K) (a := x) (xs := ns.map V.int) (fun i H1 => ∃ cs : List Int, H1 = L2.upd (L2.upd (L2.upd H lw (.lst (ws.map V.int))) a (.dK [])) lc (.lst (cs.map V.int)) ∧ cs.length = i) ⟨[], rfl, rfl⟩ (fun i H1 _ ⟨cs, e, _⟩ => by rw [e]; exact (s1.trans (sc _)).seq hS) ?_ ?_
      · rintro i y H1 hi ⟨cs, rfl, hcs⟩
        obtain ⟨z, hz, rfl⟩ : ∃ z, ns[i]? = some z ∧ y = V.int z := by
          rw [List.getElem?_map] at hi
          cases e : ns[i]? with
          | none =>
            rw [e] at hi
            cases hi
          | some z =>
            rw [e] at hi
            exact ⟨z, rfl, (Option.some.inj hi).symm⟩
        have hin : i < 63 := Nat.lt_of_lt_of_le (List.getElem?_eq_some_iff.mp hz).1 hl
        refine ⟨rfl, ?_⟩
        refine yes_if ?_
        refine ⟨_, rfl, z, rfl, _, upd_same, (by rw [List.length_map, hcs]; exact Nat.lt_trans hin (by decide)), ?_⟩
        exact ⟨cs ++ [if z < 0 then -z else z], by rw [upd_upd, List.map_append]; all_goals rfl, by simp [hcs]⟩
      · rintro H1 ⟨cs, rfl, hcs⟩
        have nLC : lw ≠ lc := ne_of_none (by rw [upd_ne nL.symm]; exact upd_same) nc
        have nAC : a ≠ lc := ne_of_none upd_same nc
        have hlw : ws.length ≤ 63 := by
          rw [List.length_map] at hw
          omega
        refine ⟨by rw [upd_ne nAC]; exact upd_same, stK lw lc 0 0, rfl, (by show 4 ≤ 15; decide), ?_⟩
        rw [stK_new]
        have nc0 : H lc = none := (s1.free nc)
        refine k a lw lc _ na0 nw nc0 ⟨⟨ws, cs, 0, 0, upd_same, ?_, ?_, Int.le_refl _, Int.le_refl _, Int.le_refl _, h0, hlw⟩, nLC⟩ ?_
        · rw [upd_ne nL.symm, upd_ne nLC, upd_ne nL.symm, upd_same]
        · rw [upd_ne nAC.symm, upd_same]
        · intro b o e
          rw [upd_ne (ne_of_none e na0)]
          exact (s1.trans (sc _)) b o e
end
end Own
set_option Elab.async false
set_option linter.all false
set_option maxRecDepth 100000
set_option maxHeartbeats 4000000
namespace Own
open PySem PySem.Spec PyProof.Rows L2 LamX
section
variable {P : Program} {w : World} {K : PySem.W.Frag} {mg : Str → Option Value} {base : Heap} {f fS fD : Addr} {fd fdS fdD : FuncData}
theorem ints_at {ns : List Int} {i : Nat} {y : V} (h : (ns.map V.int)[i]? = some y) : ∃ z, ns[i]? = some z ∧ y = V.int z := by
  rw [List.getElem?_map] at h
  cases e : ns[i]? with
  | none =>
    rw [e] at h
    cases h
  | some z =>
    rw [e] at h
    exact ⟨z, rfl, (Option.some.inj h).symm⟩
theorem scStir : FnScope ["_law_state", "_law_turn", "_law_found", "_law_prime", "_law_blend", "_law_cell"] ["_law_state"] (defScope sStir) := ⟨rfl, rfl, rfl, by decide +kernel, rfl, by decide +kernel, by decide +kernel⟩
def primes : List Int := [2147483647, 2147483629, 2147483587, 2147483579]
theorem ok_stir (F : FnP K "_law_stirred" sStir f fd) (T : Txt K mg) : FnOk P w K mg base CX0 1 f fd ["_law_state"] spStir := by
  refine F.ok scStir (fun vs H Q E h => ?_) (fun cdv A outer s H vs Q E hr h => ?_)
  · obtain ⟨a, lw, lc, t, rfl, _⟩ := h
    rfl
  · obtain ⟨a, lw, lc, t, rfl, S, ht, k⟩ := h
    have hu := hu_of hr
    refine ⟨_, PSs.nox (pss_cons (ps_par (i := 1) (j := 2) rfl scStir.nd rfl rfl (by decide) rfl rfl (pa_cons (pe_op op_add (pe_dget hu (pv 0) pe_str (fun _ _ => rfl)) pe_int) (pa_cons pe_int pa_nil)) (by rfl))
      (pss_cons (ps_dput hu (pv 0) pe_str (pv 1) rfl)
      (pss_cons (ps_for PassesOwn.never rfl (pi_list (pe_lst (pa_cons pe_int (pa_cons pe_int (pa_cons pe_int (pa_cons pe_int pa_nil)))))) (pg_name (i := 3) scStir.nd rfl (Or.inl rfl))
        (pss_cons (ps_set (i := 4) scStir.nd rfl (Or.inl rfl) (pe_op op_add (pe_op op_mul pe_int (pv 1)) (pe_op op_fdiv (pv 3) pe_int)))
        (pss_cons (ps_for PassesOwn.never rfl (pi_list (pe_dget hu (pv 0) pe_str (fun _ _ => rfl))) (pg_name (i := 5) scStir.nd rfl (Or.inl rfl))
          (pss_one (ps_set (i := 4) scStir.nd rfl (Or.inl rfl) (pe_op op_mod (pe_callTy call_int1 (by rfl) T.int boot_int (pa_cons (pe_op op_add (pe_op op_add (pe_op op_mul (pv 4) pe_int) (pv 5)) (pv 1)) pa_nil)) (pv 3)))))
        (pss_one (ps_set (i := 2) scStir.nd rfl (Or.inl rfl) (pe_op op_add (pe_op op_mul (pv 2) pe_int) (pe_op op_mod (pe_callTy call_int1 (by rfl) T.int boot_int (pa_cons (pe_op op_pow (pv 4) pe_int) pa_nil)) (pv 3))))))))
      (pss_one (ps_ret (pv 2)))))), ?_⟩
    obtain ⟨⟨ws, cs, r, u, h1, h2, h3, hr0, hu0, hut, hw0, hwl⟩, ne⟩ := S
    refine ⟨_, rfl, a, _, rfl, dget_k (.inr "turn") h1 (stK_turn ..), _, _, rfl, rfl, _, _, rfl, ?_⟩
    refine ⟨_, rfl, _, rfl, a, _, rfl, dput_k (.inr "turn") h1 (by show 4 < sizeLine; decide) (stK_putTurn ..), ?_⟩
    have nlw : lw ≠ a := ne_of h2 h1 (by intro z; cases z)
    have nlc : lc ≠ a := ne_of h3 h1 (by intro z; cases z)
    refine ⟨(by show 4 ≤ sizeLine; decide), fun p hp => ?_⟩
    have npa : p ≠ a := (ne_of_none upd_same hp).symm
    have npw : p ≠ lw := (ne_of_none (by rw [upd_ne nlw]; exact h2) hp).symm
    have npc : p ≠ lc := (ne_of_none (by rw [upd_ne nlc]; exact h3) hp).symm
    have hp0 : H p = none := by
      rw [upd_ne npa] at hp
      exact hp
    have np0 : SqL K (L2.upd (L2.upd H a (.dK (stK lw lc r (u + 1)))) p (.lst (primes.map V.int))) p (primes.map V.int) := SqL.of upd_same
    have atA : (L2.upd (L2.upd H a (.dK (stK lw lc r (u + 1)))) p (.lst (primes.map V.int))) a = some (.dK (stK lw lc r (u + 1))) := by rw [upd_ne npa.symm, upd_same]
    have atC : (L2.upd (L2.upd H a (.dK (stK lw lc r (u + 1)))) p (.lst (primes.map V.int))) lc = some (.lst (cs.map V.int)) := by rw [upd_ne npc.symm, upd_ne nlc]; exact h3
    refine ⟨p, rfl, ⟨_, np0⟩, for_list (K := K) (a := p) (xs := primes.map V.int) (fun i σ H1 => ∃ (z : Int) (v3 v4 v5 : Option V), σ = [some (.ref a), some (.int (u + 1)), some (.int z), v3, v4, v5] ∧ 0 ≤ z ∧ H1 = L2.upd (L2.upd H a (.dK (stK lw lc r (u + 1)))) p (.lst (primes.map V.int)))
      ⟨0, none, none, none, rfl, Int.le_refl _, rfl⟩ (fun i σ H1 _ ⟨_, _, _, _, _, _, e⟩ => by rw [e]; exact np0) ?_ ?_⟩
    · rintro i y σ H1 hi ⟨z, v3, v4, v5, rfl, hz, rfl⟩
      obtain ⟨q, hq, rfl⟩ := ints_at hi
      have hq2 : 2000000000 < q ∧ q < 3000000000 := by
        match i, hq with
        | 0, hq => cases hq; exact ⟨by decide, by decide⟩
        | 1, hq => cases hq; exact ⟨by decide, by decide⟩
        | 2, hq => cases hq; exact ⟨by decide, by decide⟩
        | 3, hq => cases hq; exact ⟨by decide, by decide⟩
        | j + 4, hq => cases hq
      refine ⟨_, rfl, _, _, rfl, rfl, .inl ⟨by decide, by decide⟩, _, rfl, _, _, rfl, rfl, ⟨by decide, by decide⟩, _, _, rfl, rfl, ?_⟩
      refine ⟨_, rfl, a, _, rfl, dget_k (.inr "cells") atA (stK_cells ..), lc, rfl, ⟨_, SqL.of atC⟩, ?_⟩
      refine for_list (K := K) (a := lc) (xs := cs.map V.int) (fun i σ H1 => ∃ (b : Int) (v5 : Option V), σ = [some (.ref a), some (.int (u + 1)), some (.int z), some (.int q), some (.int b), v5] ∧ 0 ≤ b ∧ b < 2 ^ 60 ∧ H1 = L2.upd (L2.upd H a (.dK (stK lw lc r (u + 1)))) p (.lst (primes.map V.int)))
        ⟨48271 * (u + 1) + q / 37, v5, rfl, by omega, by omega, rfl⟩ (fun i σ H1 _ ⟨_, _, _, _, _, e⟩ => by rw [e]; exact SqL.of atC) ?_ ?_
      · rintro j y σ H1 hj ⟨b, v5, rfl, hb0, hb1, rfl⟩
        obtain ⟨c, hc, rfl⟩ := ints_at hj
        refine ⟨_, rfl, _, _, rfl, rfl, .inr ⟨by decide, by decide⟩, _, rfl, _, _, rfl, rfl, _, rfl, _, _, rfl, rfl, .inl ⟨_, rfl, _, rfl, _, _, rfl, rfl, (by omega), ?_⟩⟩
        have m1 := Int.emod_nonneg (b * 69621 + c + (u + 1)) (show q ≠ 0 by omega)
        have m2 := Int.emod_lt_of_pos (b * 69621 + c + (u + 1)) (show 0 < q by omega)
        exact ⟨_, _, rfl, m1, by omega, rfl⟩
      · rintro σ H1 ⟨b, v5, rfl, hb0, hb1, rfl⟩
        refine ⟨_, rfl, _, _, rfl, rfl, .inr ⟨by decide, by decide⟩, _, rfl, _, _, rfl, rfl, ⟨by decide, by decide, by omega⟩, .inl ⟨_, rfl, _, rfl, _, _, rfl, rfl, (by omega), _, _, rfl, rfl, ?_⟩⟩
        have m1 := Int.emod_nonneg (b ^ (5 : Int).toNat) (show q ≠ 0 by omega)
        exact ⟨_, _, _, _, rfl, by omega, rfl⟩
    · rintro σ H1 ⟨z, v3, v4, v5, rfl, hz, rfl⟩
      refine ⟨_, rfl, ?_⟩
      refine k z _ hz ⟨⟨ws, cs, r, u + 1, atA, ?_, atC, hr0, by omega, by omega, hw0, hwl⟩, ne⟩ fun b o e nb => ?_
      · rw [upd_ne npw.symm, upd_ne nlw]
        exact h2
      · have nb2 : b ≠ a := fun z => nb (List.mem_singleton.mpr z)
        rw [upd_ne (ne_of_none e hp0), upd_ne nb2]
        exact e
end
end Own
set_option Elab.async false
set_option linter.all false
set_option maxRecDepth 100000
set_option maxHeartbeats 4000000
namespace Own
open PySem PySem.Spec PyProof.Rows L2 LamX
section
variable {P : Program} {w : World} {K : PySem.W.Frag} {mg : Str → Option Value} {base : Heap} {f fS fD : Addr} {fd fdS fdD : FuncData}
theorem dpAll_ints {H : Hp} : ∀ ws : List Int, DpAll K H (ws.map V.int) (ws.map PyData.int)
  | [] => .nil
  | z :: r => .cons (.int z) (dpAll_ints r)
theorem shaped_ints : ∀ ws : List Int, SeqAt.shaped (.list (ws.map PyData.int)) = true := by
  intro ws
  have h : ∀ l : List Int, PyData.canLayAll0 (l.map PyData.int) = true ∧ PyData.depthAll (l.map PyData.int) = 0 := by
    intro l
    induction l with
    | nil => exact ⟨rfl, rfl⟩
    | cons z r ih =>
      refine ⟨?_, ?_⟩
      · show (true && PyData.canLayAll0 (r.map PyData.int)) = true
        rw [ih.1]
        rfl
      · show max 0 (PyData.depthAll (r.map PyData.int)) = 0
        rw [ih.2]
        rfl
  show (PyData.canLayAll0 (ws.map PyData.int) && decide (PyData.depthAll (ws.map PyData.int) + 1 ≤ 64)) = true
  rw [(h ws).1, (h ws).2]
  rfl
theorem eqv_nil (ws : List Int) : PyData.eqv (.list (ws.map PyData.int)) (.list []) = ws.isEmpty := by
  cases ws <;> rfl
theorem scDraw : FnScope ["_law_state", "_law_size", "_law_found"] ["_law_state", "_law_size"] (defScope sDraw) := ⟨rfl, rfl, rfl, by decide +kernel, rfl, by decide +kernel, by decide +kernel⟩
theorem ok_draw (F : FnP K "_law_draw" sDraw f fd) (FS : FnP K "_law_stirred" sStir fS fdS) (gS : mg "_law_stirred" = some (.ref fS)) (T : Txt K mg) : FnOk P w K mg base CX0 2 f fd ["_law_state", "_law_size"] spDraw := by
  have GS : FnOk P w K mg base CX0 1 fS fdS ["_law_state"] spStir := ok_stir FS T
  have bS : Binds K fdS ["_law_state"] [] := FS.bindsN fun _ _ _ _ _ _ us hl => match us, hl with | [_], _ => rfl
  refine F.ok scDraw (fun vs H Q E h => ?_) (fun cdv A outer s H vs Q E hr h => ?_)
  · obtain ⟨a, lw, lc, t, n, rfl, _⟩ := h
    rfl
  · obtain ⟨a, lw, lc, t, n, rfl, S, ht, hn0, hn1, k⟩ := h
    have hu := hu_of hr
    refine ⟨_, PSs.nox (pss_cons (ps_if (pt_cmpR op_eq (pe_dget hu (pv 0) pe_str (fun _ _ => rfl)) pe_int (nomark _))
        (pss_one (ps_dput hu (pv 0) pe_str (pe_ifExp (pt_cmpR (op_neD hr.units) (pe_dget hu (pv 0) pe_str (fun _ _ => rfl)) (pe_lst pa_nil) (nomark _))
          (pe_bm PySem.F.plainAttrs_list PySem.F.slot_list_pop PySem.F.type_list_pop mt_popAt (pe_dget hu (pv 0) pe_str (fun _ _ => rfl)) (pa_cons pe_int pa_nil))
          (pe_call GS hr (by rfl) gS FS.kp bS .nil pass0 (pa_cons (pv 0) pa_nil))) rfl)) pss_nil)
      (pss_cons (ps_set (i := 2) scDraw.nd rfl (Or.inl rfl) (pe_op op_mod (pe_callTy call_int1 (by rfl) T.int boot_int (pa_cons (pe_dget hu (pv 0) pe_str (fun _ _ => rfl)) pa_nil)) (pv 1)))
      (pss_cons (ps_dput hu (pv 0) pe_str (pe_op op_fdivW (pe_dget hu (pv 0) pe_str (fun _ _ => rfl)) (pv 1)) rfl)
      (pss_one (ps_ret (pv 2)))))), ?_⟩
    -- what comes behind the first if
    have rest : ∀ H1, StA H1 a lw lc (t + 1) → Kp [a, lw] H H1 → ∀ x y : Option V, (tSeq (tAsg (tOp (rI (fun _ j => 0 < j) fun i j => .int (i % j)) (tCB (fun xs H Q => (∃ i, xs = [.int i] ∧ Q (.int i) H) ∨ ∃ k, xs = [.bl k] ∧ Q (.int (if k then 1 else 0)) H) (tCons (tDGet (tVar 0) (tC (.str "rest"))) tNil)) (tVar 1)) (gName 2))
        (tSeq (sDPut (tVar 0) (tC (.str "rest")) (tOp (rI CDivW fun i j => .int (i / j)) (tDGet (tVar 0) (tC (.str "rest"))) (tVar 1))) (tRet (tVar 2)))) { nx := fun _ H' => Q .non H', rt := Q } [some (.ref a), some (.int n), none] H1 := by
      intro H1 S1 K1 x y
      obtain ⟨⟨ws, cs, r, u, h1, h2, h3, hr0, hu0, hut, hw0, hwl⟩, ne⟩ := S1
      refine ⟨_, rfl, a, _, rfl, dget_k (.inr "rest") h1 (stK_rest ..), .inl ⟨_, rfl, _, rfl, _, _, rfl, rfl, hn0, ?_⟩⟩
      refine ⟨_, rfl, a, _, rfl, dget_k (.inr "rest") h1 (stK_rest ..), _, rfl, _, _, rfl, rfl, wide_div (b := 64) hn0 (by omega) (by decide) (by decide), _, rfl, a, _, rfl, dput_k (.inr "rest") h1 (by show 4 < sizeLine; decide) (stK_putRest ..), _, rfl, ?_⟩
      have nlw : lw ≠ a := ne_of h2 h1 (by intro z; cases z)
      have nlc : lc ≠ a := ne_of h3 h1 (by intro z; cases z)
      refine k _ _ (Int.emod_nonneg _ (by omega)) (Int.emod_lt_of_pos _ hn0) ⟨⟨ws, cs, r / n, u, upd_same, by rw [upd_ne nlw]; exact h2, by rw [upd_ne nlc]; exact h3, Int.ediv_nonneg hr0 (by omega), hu0, hut, hw0, hwl⟩, ne⟩ (K1.trans (Kp.upd (by simp)))
    obtain ⟨⟨ws, cs, r, u, h1, h2, h3, hr0, hu0, hut, hw0, hwl⟩, ne⟩ := id S
    have nlw : lw ≠ a := ne_of h2 h1 (by intro z; cases z)
    have nlc : lc ≠ a := ne_of h3 h1 (by intro z; cases z)
    refine ⟨_, rfl, a, _, rfl, dget_k (.inr "rest") h1 (stK_rest ..), rfl, _, rfl, ?_⟩
    refine ite2 (fun _ => ?_) (fun _ => rest H (S.more (Nat.le_succ t)) (Kp.refl _ _) none none)
    refine ⟨_, rfl, a, _, rfl, dget_k (.inr "wide") h1 (stK_wide ..), (by show 0 ≤ sizeLine; decide), fun p hp => ?_⟩
    have se : Same H (L2.upd H p (.lst [])) := Same.upd hp
    refine ⟨_, _, .lst (SqL.of (se _ _ h2)) (dpAll_ints ws), .lst (SqL.of upd_same) .nil, shaped_ints ws, rfl, _, rfl, ?_⟩
    rw [eqv_nil]
    have S1 := S.same se
    cases ws with
    | nil =>
      refine iteF ?_
      refine ⟨_, rfl, a, lw, lc, t, rfl, S1, ht, fun z H' hz S2 K2 => ?_⟩
      obtain ⟨⟨ws, cs, r, u, h1, h2, h3, hr0, hu0, hut, hw0, hwl⟩, ne⟩ := id S2
      have nlw : lw ≠ a := ne_of h2 h1 (by intro z; cases z)
      have nlc : lc ≠ a := ne_of h3 h1 (by intro z; cases z)
      refine ⟨_, rfl, a, _, rfl, dput_k (.inr "rest") h1 (by show 4 < sizeLine; decide) (stK_putRest ..), ?_⟩
      exact rest _ ⟨⟨ws, cs, z, u, upd_same, by rw [upd_ne nlw]; exact h2, by rw [upd_ne nlc]; exact h3, hz, hu0, hut, hw0, hwl⟩, ne⟩ (((Kp.of se).trans (K2.weak (by simp))).trans (Kp.upd (by simp))) none none
    | cons q ws =>
      refine iteT ?_
      have h1' := se _ _ h1
      have h2' := se _ _ h2
      refine ⟨_, rfl, a, _, rfl, dget_k (.inr "wide") h1' (stK_wide ..), .inl ⟨rfl, _, .inl (.inl h2')⟩, lw, _, 0, 0, .int q, rfl, rfl, h2', by decide, by decide, ?_, rfl, ?_⟩
      · unfold seqIndex?
        simp
      · have S3 : StA (L2.upd (L2.upd (L2.upd H p (.lst [])) lw (.lst (ws.map V.int))) a (.dK (stK lw lc q u))) a lw lc (t + 1) := by
          refine ⟨⟨ws, cs, q, u, upd_same, ?_, ?_, hw0 q List.mem_cons_self, hu0, by omega, fun z hz => hw0 z (List.mem_cons_of_mem _ hz), by rw [List.length_cons] at hwl; omega⟩, ne⟩
          · rw [upd_ne nlw, upd_same]
          · rw [upd_ne nlc, upd_ne ne.symm]
            exact se _ _ h3
        refine ⟨_, rfl, a, _, rfl, dput_k (.inr "rest") (by rw [upd_ne nlw.symm]; exact h1') (by show 4 < sizeLine; decide) (stK_putRest ..), ?_⟩
        exact rest _ S3 (((Kp.of se).trans (Kp.upd (by simp))).trans (Kp.upd (by simp))) none none
theorem scPick : FnScope ["_law_state", "_law_some"] ["_law_state", "_law_some"] (defScope sPick) := ⟨rfl, rfl, rfl, by decide +kernel, rfl, by decide +kernel, by decide +kernel⟩
theorem ok_pick (F : FnP K "_law_pick" sPick f fd) (FD : FnP K "_law_draw" sDraw fD fdD) (FS : FnP K "_law_stirred" sStir fS fdS) (gD : mg "_law_draw" = some (.ref fD)) (gS : mg "_law_stirred" = some (.ref fS)) (T : Txt K mg) : FnOk P w K mg base CX0 3 f fd ["_law_state", "_law_some"] (spPick K) := by
  have GD : FnOk P w K mg base CX0 2 fD fdD ["_law_state", "_law_size"] spDraw := ok_draw FD FS gS T
  have bD : Binds K fdD ["_law_state", "_law_size"] [] := FD.bindsN fun _ _ _ _ _ _ us hl => match us, hl with | [_, _], _ => rfl
  refine F.ok scPick (fun vs H Q E h => ?_) (fun cdv A outer s H vs Q E hr h => ?_)
  · obtain ⟨a, lw, lc, t, l, xs, rfl, _⟩ := h
    rfl
  · obtain ⟨a, lw, lc, t, l, xs, rfl, S, ht, hl, nl, h0, h1, k⟩ := h
    refine ⟨_, PSs.nox (pss_one (ps_ret (pe_ix ix_list (pv 1) (pe_call GD hr (by rfl) gD FD.kp bD .nil pass0 (pa_cons (pv 0) (pa_cons (pe_callB call_len_seq (by rfl) T.len PySem.boot_len (pa_cons (pv 1) pa_nil)) pa_nil))) (fun _ _ => rfl)))), ?_⟩
    refine ⟨_, rfl, _, rfl, _, rfl, l, _, rfl, .inl (SqL.of hl), a, lw, lc, t, _, rfl, S, ht, by omega, by omega, fun z H' hz0 hz1 S' K' => ?_⟩
    obtain ⟨⟨ws, cs, r, u, e1, _⟩, _⟩ := id S
    have na : l ≠ a := ne_of hl e1 (by intro z; cases z)
    have hl' := K' l _ hl (by simp [na, nl])
    obtain ⟨j, rfl⟩ : ∃ j : Nat, z = (j : Int) := ⟨z.toNat, by omega⟩
    have hj : j < xs.length := by omega
    refine ⟨l, _, _, xs[j], rfl, rfl, SqL.of hl', atI_nat (List.getElem?_eq_getElem hj), ?_⟩
    exact k j _ H' (List.getElem?_eq_getElem hj) S' K'
end
end Own
set_option Elab.async false
set_option linter.all false
set_option maxRecDepth 100000
set_option maxHeartbeats 4000000
namespace Own
open PySem PySem.Spec PyProof.Rows L2 LamX
theorem low_mono (c : Nat) : low c ≤ low (c + 1) := by
  cases c with
  | zero => simp [low]
  | succ m =>
    rw [low_step (m + 1) (Nat.succ_pos m)]
    exact Nat.le_add_right _ _
theorem low_le {c d : Nat} (h : c ≤ d) : low c ≤ low d := by
  induction h with
  | refl => exact Nat.le_refl _
  | step _ ih => exact Nat.le_trans ih (low_mono _)
theorem low_3 : low 3 = 3 := low_three
theorem low_4 : low 4 = 7 := (low_next 0).trans (by
  rw [show low (0 + 3) = 3 from low_3])
theorem low_5 : low 5 = 23 := (low_next 1).trans (by
  rw [show low (1 + 3) = 7 from low_4])
theorem low_6 : low 6 = 167 := (low_next 2).trans (by
  rw [show low (2 + 3) = 23 from low_5])
theorem low_7 : low 7 = 7223 := (low_next 3).trans (by
  rw [show low (3 + 3) = 167 from low_6])
theorem low_8 : low 8 = 13053767 := (low_next 4).trans (by
  rw [show low (4 + 3) = 7223 from low_7])
theorem low_9 : low 9 = 42600227803223 := (low_next 5).trans (by
  rw [show low (5 + 3) = 13053767 from low_8])
theorem low_10 : low 10 = 453694852221687377444001767 := (low_next 6).trans (by
  rw [show low (6 + 3) = 42600227803223 from low_9])
theorem low_ten : low 10 = 453694852221687377444001767 := low_10
theorem low_small {c : Nat} (h : c ≤ 10) : low c < 2 ^ 90 := by
  have := low_le h
  rw [low_ten] at this
  omega
def spLeast (K : PySem.W.Frag) (CB : Addr) : Sp := fun vs H Q E => ∃ x i b, vs = [x] ∧ Kind K H x i b ∧ ((∃ c : Nat, x = .int c ∧ c ≤ 10 ∧ Q (.int (low c : Nat)) H) ∨ ((i && !b) = false ∨ ∃ z : Int, x = .int z ∧ (z < 0 ∨ 10 < z)) ∧ E (.ref CB) none H)
section
variable {P : Program} {w : World} {K : PySem.W.Frag} {mg : Str → Option Value} {base : Heap} {f fW CB : Addr} {fd fdW : FuncData}
theorem scLeast : FnScope ["count", "least", "turn", "half"] ["count"] (defScope sLeast) := ⟨rfl, rfl, rfl, by decide +kernel, rfl, by decide +kernel, by decide +kernel⟩
theorem ok_least (F : FnP K "least_with" sLeast f fd) (FW : FnP K "is_whole" sWhole fW fdW) (T : Txt K mg) (gW : mg "is_whole" = some (.ref fW)) (B : ExcT K mg "BadCount" CB) : FnOk P w K mg base (L2.CX P w) 2 f fd ["count"] (spLeast K CB) := by
  have GW : FnOk P w K mg base CX0 1 fW fdW ["value"] (spWhole K) := ok_whole FW T
  have bW : Binds K fdW ["value"] [] := FW.bindsN fun _ _ _ _ _ _ us hl => match us, hl with | [_], _ => rfl
  refine F.ok scLeast (fun vs H Q E h => ?_) (fun cdv A outer s H vs Q E hr h => ?_)
  · obtain ⟨x, i, b, rfl, _⟩ := h
    rfl
  · obtain ⟨x, i, b, rfl, kd, k⟩ := h
    refine ⟨_, pss_cons (ps_if (PW.pt (pw_or (pt_not (pt_val (pe_call GW hr (by rfl) gW FW.kp bW .nil pass0 (pa_cons (pv 0) pa_nil)))) (pw_or (pt_cmpR op_lt (pv 0) pe_int (nomark _)) (pw_or1 (pt_cmpR op_gt (pv 0) pe_int (nomark _))))))
        (pss_one (ps_raise rfl (takes_of rfl rfl rfl rfl) (pmk_own PySem.F.excBase_ValueError B.x B.g B.k (raises_own B.b B.t) rfl))) pss_nil)
      (pss_cons (ps_if (pt_cmpR op_lt (pv 0) pe_int (nomark _)) (pss_one (ps_ret (pv 0))) pss_nil)
      (pss_cons (ps_set (i := 1) scLeast.nd rfl (.inl rfl) pe_int)
      (pss_cons (ps_for (passes_of rfl) rfl (pi_range1 (by rfl) T.range (pa_cons (pe_op op_sub (pv 0) pe_int) pa_nil)) (pg_name (i := 2) scLeast.nd rfl (Or.inl rfl))
        (pss_cons (ps_set (i := 3) scLeast.nd rfl (.inl rfl) (pe_op op_fdiv (pe_op op_add (pv 1) pe_int) pe_int))
        (pss_one (ps_aug (i := 1) scLeast.nd rfl (.inl rfl) (pe_op op_mulW (pv 3) (pv 3)) ip_add))))
      (pss_one (ps_ret (pv 1)))))), ?_⟩
    refine ⟨_, rfl, x, i, b, rfl, kd, (i && !b), rfl, ?_⟩
    rcases k with ⟨c, rfl, hc, k⟩ | ⟨k1, k2⟩
    · rw [kind_of_int kd]
      refine iteF ?_
      refine ⟨_, rfl, _, _, rfl, rfl, _, rfl, ?_⟩
      refine ite2 (fun z => absurd (of_decide_eq_true z) (by omega)) fun _ => ?_
      refine ⟨_, rfl, _, _, rfl, rfl, _, rfl, ?_⟩
      refine ite2 (fun z => absurd (of_decide_eq_true z) (by omega)) fun _ => ?_
      refine ⟨_, rfl, _, _, rfl, rfl, _, rfl, ?_⟩
      refine ite2 (fun z => ?_) fun z => ?_
      · have h3 : (c : Int) < 3 := of_decide_eq_true z
        have e : low c = c := by
          have : c = 0 ∨ c = 1 ∨ c = 2 := by omega
          rcases this with rfl | rfl | rfl <;> simp [low]
        rw [e] at k
        exact ⟨_, rfl, k⟩
      · have h3 : ¬ (c : Int) < 3 := fun q => z (decide_eq_true q)
        refine ⟨_, rfl, _, _, rfl, rfl, (c : Int) - 3, rfl, by omega, by omega, ?_⟩
        refine for_range (lo := 0) (n := ((c : Int) - 3).toNat) (fun i σ H1 => ∃ (v2 v3 : Option V), σ = [some (.int c), some (.int (low (i + 3) : Nat)), v2, v3] ∧ H1 = H) ⟨none, none, by rw [low_three]; rfl, rfl⟩ ?_ ?_
        · rintro i σ H1 hi ⟨v2, v3, rfl, rfl⟩
          have hs : low (i + 3) < 2 ^ 90 := low_small (by omega)
          refine ⟨_, rfl, _, _, rfl, rfl, _, _, rfl, rfl, ⟨by decide, by decide⟩, _, rfl, _, rfl, _, rfl, _, _, rfl, rfl, wide_mul (a := 100) (b := 100) (by omega) (by omega) (by decide) (by decide) (by decide), _, _, rfl, rfl, ?_⟩
          refine ⟨some (.int (0 + (i : Int))), some (.int (((low (i + 3) : Nat) + 1 : Int) / 2)), ?_, rfl⟩
          have e : ((low (i + 3) : Nat) : Int) + ((low (i + 3) : Nat) + 1 : Int) / 2 * (((low (i + 3) : Nat) + 1 : Int) / 2) = ((low (i + 1 + 3) : Nat) : Int) := by
            rw [show i + 1 + 3 = i + 4 from rfl, low_next]
            have q : (((low (i + 3) : Nat) : Int) + 1) / 2 = (((low (i + 3) + 1) / 2 : Nat) : Int) := by omega
            rw [q, Int.natCast_add, Int.natCast_mul]
          show [some (V.int c), some (V.int (((low (i + 3) : Nat) : Int) + ((low (i + 3) : Nat) + 1 : Int) / 2 * (((low (i + 3) : Nat) + 1 : Int) / 2))), _, _] = _
          rw [e]
        · rintro σ H1 ⟨v2, v3, rfl, rfl⟩
          have e : ((c : Int) - 3).toNat + 3 = c := by omega
          rw [e]
          exact ⟨_, rfl, k⟩
    · rcases k1 with k1 | ⟨z, rfl, hz⟩
      · rw [k1]
        exact iteT (iteT k2)
      · rw [kind_of_int kd]
        refine iteF ?_
        refine ⟨_, rfl, _, _, rfl, rfl, _, rfl, ?_⟩
        refine ite2 (fun _ => iteT k2) fun c => ?_
        refine ⟨_, rfl, _, _, rfl, rfl, _, rfl, ?_⟩
        have hz2 : 10 < z := by
          rcases hz with hz | hz
          · exact absurd (decide_eq_true hz) c
          · exact hz
        rw [decide_eq_true hz2]
        exact iteT k2
theorem scLWhole : FnScope ["_law_value"] ["_law_value"] (defScope sLWhole) := ⟨rfl, rfl, rfl, by decide +kernel, rfl, by decide +kernel, by decide +kernel⟩
theorem ok_lwhole (F : FnP K "_law_is_whole" sLWhole f fd) (T : Txt K mg) : FnOk P w K mg base CX0 1 f fd ["_law_value"] (spWhole K) := by
  refine F.ok scLWhole (fun vs H Q E h => ?_) (fun cdv A outer s H vs Q E hr h => ?_)
  · obtain ⟨x, i, b, rfl, _⟩ := h
    rfl
  · obtain ⟨x, i, b, rfl, ⟨t, ty, e1, e2⟩, k⟩ := h
    refine ⟨_, PSs.nox (pss_one (ps_ret (pe_and (pe_callB call_isi (by rfl) T.isi boot_isinstance (pa_cons (pv 0) (pa_cons (pe_bltn (v := .ty "int") (by rfl) T.int boot_int rfl) pa_nil)))
      (pe_one (pe_not (pe_callB call_isi (by rfl) T.isi boot_isinstance (pa_cons (pv 0) (pa_cons (pe_bltn (v := .ty "bool") (by rfl) T.bool boot_bool rfl) pa_nil)))))))), ?_⟩
    refine ⟨_, rfl, x, .ty "int", .type t, .type "int", i, rfl, .ty _, ty, kit_ty e1, i, rfl, ?_⟩
    cases i with
    | false =>
      refine iteF ?_
      exact k
    | true =>
      refine iteT ?_
      exact ⟨_, rfl, x, .ty "bool", .type t, .type "bool", b, rfl, .ty _, ty, kit_ty e2, b, rfl, k⟩
def spFalls (K : PySem.W.Frag) : Sp := fun vs H Q _ => ∃ (n : Int) (l : Addr) (its : List Int), vs = [.int n, .ref l] ∧ H l = some (.lst (its.map V.int)) ∧ (∀ z ∈ its, z.natAbs < 2 ^ 300) ∧ Q (.bl (falls n its)) H
theorem scFalls : FnScope ["_law_n", "_law_items", "_law_rest", "_law_item"] ["_law_n", "_law_items"] (defScope sFalls) := ⟨rfl, rfl, rfl, by decide +kernel, rfl, by decide +kernel, by decide +kernel⟩
theorem ok_falls (F : FnP K "_law_falls" sFalls f fd) (FW : FnP K "_law_is_whole" sLWhole fW fdW) (T : Txt K mg) (gW : mg "_law_is_whole" = some (.ref fW)) : FnOk P w K mg base CX0 2 f fd ["_law_n", "_law_items"] (spFalls K) := by
  have GW : FnOk P w K mg base CX0 1 fW fdW ["_law_value"] (spWhole K) := ok_lwhole FW T
  have bW : Binds K fdW ["_law_value"] [] := FW.bindsN fun _ _ _ _ _ _ us hl => match us, hl with | [_], _ => rfl
  refine F.ok scFalls (fun vs H Q E h => ?_) (fun cdv A outer s H vs Q E hr h => ?_)
  · obtain ⟨n, l, its, rfl, _⟩ := h
    rfl
  · obtain ⟨n, l, its, rfl, hl, hb, k⟩ := h
    refine ⟨_, PSs.nox (pss_cons (ps_if (pt_not (pt_val (pe_callB call_isi (by rfl) T.isi boot_isinstance (pa_cons (pv 1) (pa_cons (pe_bltn (v := .ty "list") (by rfl) T.list (by decide +kernel) rfl) pa_nil))))) (pss_one (ps_ret pe_bl)) pss_nil)
      (pss_cons (ps_set (i := 2) scFalls.nd rfl (.inl rfl) (pv 0))
      (pss_cons (ps_for PassesOwn.never rfl (pi_list (pv 1)) (pg_name (i := 3) scFalls.nd rfl (Or.inl rfl))
        (pss_cons (ps_if (PW.pt (pw_or (pt_not (pt_val (pe_call GW hr (by rfl) gW FW.kp bW .nil pass0 (pa_cons (pv 3) pa_nil)))) (pw_or1 (pt_cmpR op_lt (pv 3) pe_int (nomark _))))) (pss_one (ps_ret pe_bl)) pss_nil)
        (pss_cons (ps_if (PW.pt (pw_or (pt_cmpR op_gt (pe_op op_mulW (pv 3) (pv 3)) (pv 2) (nomark _)) (pw_or1 (pt_cmpR op_le (pe_op op_mulW (pe_op op_add (pv 3) pe_int) (pe_op op_add (pv 3) pe_int)) (pv 2) (nomark _))))) (pss_one (ps_ret pe_bl)) pss_nil)
        (pss_one (ps_set (i := 2) scFalls.nd rfl (.inl rfl) (pe_op op_sub (pv 2) (pe_op op_mulW (pv 3) (pv 3))))))))
      (pss_one (ps_ret (pe_cmpR op_eq (pv 2) pe_int (nomark _))))))), ?_⟩
    refine ⟨_, rfl, .ref l, .ty "list", .type "list", .type "list", true, rfl, .ty _, .base (.lst hl), kit_ty (by decide +kernel), true, rfl, ?_⟩
    refine iteF ?_
    refine ⟨_, rfl, _, rfl, l, rfl, ⟨_, SqL.of hl⟩, ?_⟩
    refine for_list (K := K) (a := l) (xs := its.map V.int) (fun i σ H1 => ∃ (r : Int) (v3 : Option V), σ = [some (.int n), some (.ref l), some (.int r), v3] ∧ falls r (its.drop i) = falls n its ∧ H1 = H)
      ⟨n, none, rfl, rfl, rfl⟩ (fun i σ H1 _ ⟨_, _, _, _, e⟩ => by rw [e]; exact SqL.of hl) ?_ ?_
    · rintro i y σ H1 hi ⟨r, v3, rfl, e, rfl⟩
      obtain ⟨z, hz, rfl⟩ := ints_at hi
      obtain ⟨hlt, hget⟩ := List.getElem?_eq_some_iff.mp hz
      have ed : its.drop i = z :: its.drop (i + 1) := by
        rw [List.drop_eq_getElem_cons hlt, hget]
      rw [ed, falls] at e
      have hbz := hb z (List.mem_of_getElem? hz)
      refine ⟨_, rfl, .int z, true, false, rfl, Kind.int z, true, rfl, ?_⟩
      refine iteF ?_
      refine ⟨_, rfl, _, _, rfl, rfl, _, rfl, ?_⟩
      refine ite2 (fun c => ?_) fun c => ?_
      · rw [if_pos (of_decide_eq_true c)] at e
        rw [← e] at k
        exact k
      · rw [if_neg (fun q => c (decide_eq_true q))] at e
        refine ⟨_, rfl, _, rfl, _, _, rfl, rfl, wide_mul (a := 300) (b := 300) hbz hbz (by decide) (by decide) (by decide), _, rfl, _, _, rfl, rfl, _, rfl, ?_⟩
        refine ite2 (fun c => ?_) fun c => ?_
        · rw [if_pos (of_decide_eq_true c)] at e
          rw [← e] at k
          exact iteT k
        · rw [if_neg (fun q => c (decide_eq_true q))] at e
          refine ⟨_, rfl, _, _, rfl, rfl, _, rfl, _, _, rfl, rfl, _, _, rfl, rfl, wide_mul (a := 301) (b := 301) (by omega) (by omega) (by decide) (by decide) (by decide), _, rfl, _, _, rfl, rfl, _, rfl, ?_⟩
          refine ite2 (fun c => ?_) fun c => ?_
          · rw [if_pos (of_decide_eq_true c)] at e
            rw [← e] at k
            exact k
          · rw [if_neg (fun q => c (decide_eq_true q))] at e
            refine ⟨_, rfl, _, rfl, _, rfl, _, _, rfl, rfl, wide_mul (a := 300) (b := 300) hbz hbz (by decide) (by decide) (by decide), _, _, rfl, rfl, ?_⟩
            exact ⟨r - z * z, _, rfl, e, rfl⟩
    · rintro σ H1 ⟨r, v3, rfl, e, rfl⟩
      rw [List.drop_of_length_le (by rw [List.length_map]; exact Nat.le_refl _)] at e
      refine ⟨_, rfl, rfl, ?_⟩
      have e2 : decide (V.int r = V.int 0) = falls n its := by
        rw [← e, falls, dec_int]
        exact Bool.eq_iff_iff.mpr (by simp)
      rw [e2]
      exact k
def lows : List Int := (List.range 11).map fun c => ((low c : Nat) : Int)
def spLows : Sp := fun vs H Q _ => vs = [] ∧ ∀ p H', H p = none → H' = L2.upd H p (.lst (lows.map V.int)) → Q (.ref p) H'
theorem scLows : FnScope ["_law_lows_here", "_law_turn", "_law_half"] [] (defScope sLows) := ⟨rfl, rfl, rfl, by decide +kernel, rfl, by decide +kernel, by decide +kernel⟩
theorem ok_lows (F : FnP K "_law_lows" sLows f fd) (T : Txt K mg) : FnOk P w K mg base CX0 1 f fd [] spLows := by
  refine F.ok scLows (fun vs H Q E h => ?_) (fun cdv A outer s H vs Q E hr h => ?_)
  · obtain ⟨rfl, _⟩ := h
    rfl
  · obtain ⟨rfl, k⟩ := h
    refine ⟨_, PSs.nox (pss_cons (ps_set (i := 0) scLows.nd rfl (.inl rfl) (pe_lst (pa_cons pe_int (pa_cons pe_int (pa_cons pe_int (pa_cons pe_int pa_nil))))))
      (pss_cons (ps_for PassesOwn.never rfl (pi_range1 (by rfl) T.range (pa_cons pe_int pa_nil)) (pg_name (i := 1) scLows.nd rfl (Or.inl rfl))
        (pss_cons (ps_set (i := 2) scLows.nd rfl (.inl rfl) (pe_op op_fdiv (pe_op op_add (pe_ix ix_list (pv 0) (pe_op op_sub (pe_callB call_len_seq (by rfl) T.len PySem.boot_len (pa_cons (pv 0) pa_nil)) pe_int) (fun _ _ => rfl)) pe_int) pe_int))
        (pss_one (ps_expr (pe_bm PySem.F.plainAttrs_list PySem.F.slot_list_append PySem.F.type_list_append mt_append (pv 0)
          (pa_cons (pe_op op_add (pe_ix ix_list (pv 0) (pe_op op_sub (pe_callB call_len_seq (by rfl) T.len PySem.boot_len (pa_cons (pv 0) pa_nil)) pe_int) (fun _ _ => rfl)) (pe_op op_mulW (pv 2) (pv 2))) pa_nil))))))
      (pss_one (ps_ret (pv 0))))), ?_⟩
    refine ⟨(by show 4 ≤ sizeLine; decide), fun p hp => ?_⟩
    refine ⟨7, rfl, by decide, by decide, ?_⟩
    refine for_range (lo := 0) (n := 7) (fun i σ H1 => ∃ (v1 v2 : Option V), σ = [some (.ref p), v1, v2] ∧ H1 = L2.upd H p (.lst (((List.range (i + 4)).map fun c => ((low c : Nat) : Int)).map V.int))) ⟨none, none, rfl, by simp [List.range, List.range.loop, low]⟩ ?_ ?_
    · rintro i σ H1 hi ⟨v1, v2, rfl, rfl⟩
      have hs : low (i + 3) < 2 ^ 90 := low_small (by omega)
      have hlen : (((List.range (i + 4)).map fun c => ((low c : Nat) : Int)).map V.int).length = i + 4 := by simp
      have hat : atI (((List.range (i + 4)).map fun c => ((low c : Nat) : Int)).map V.int) (((((List.range (i + 4)).map fun c => ((low c : Nat) : Int)).map V.int).length : Int) - 1) = some (.int ((low (i + 3) : Nat) : Int)) := by
        refine at_of (j := i + 3) (by rw [hlen]; omega) ?_
        rw [List.getElem?_map, List.getElem?_map, List.getElem?_range (by omega)]
        rfl
      refine ⟨_, rfl, _, rfl, p, _, rfl, .inl (SqL.of upd_same), _, _, rfl, rfl, p, _, _, _, rfl, rfl, SqL.of upd_same, hat, _, _, rfl, rfl, _, _, rfl, rfl, ⟨by decide, by decide⟩, ?_⟩
      refine ⟨_, rfl, .inl ⟨rfl, _, .inl (.inl upd_same)⟩, ?_⟩
      refine ⟨_, rfl, _, rfl, p, _, rfl, .inl (SqL.of upd_same), _, _, rfl, rfl, p, _, _, _, rfl, rfl, SqL.of upd_same, hat, _, rfl, _, rfl, _, _, rfl, rfl, wide_mul (a := 100) (b := 100) (by omega) (by omega) (by decide) (by decide) (by decide), _, _, rfl, rfl, p, _, _, rfl, rfl, upd_same, (by rw [hlen]; exact Nat.lt_of_lt_of_le (show i + 4 < 20 by omega) (by decide)), ?_⟩
      refine ⟨_, _, rfl, ?_⟩
      have e : ((low (i + 3) : Nat) : Int) + ((low (i + 3) : Nat) + 1 : Int) / 2 * (((low (i + 3) : Nat) + 1 : Int) / 2) = ((low (i + 4) : Nat) : Int) := by
        rw [low_next]
        have q : (((low (i + 3) : Nat) : Int) + 1) / 2 = (((low (i + 3) + 1) / 2 : Nat) : Int) := by omega
        rw [q, Int.natCast_add, Int.natCast_mul]
      rw [upd_upd]
      dsimp only
      rw [e, show i + 1 + 4 = (i + 4) + 1 from rfl, List.range_succ (n := i + 4), List.map_append, List.map_append]
      all_goals rfl
    · rintro σ H1 ⟨v1, v2, rfl, rfl⟩
      exact ⟨_, rfl, k p _ hp rfl⟩
end
end Own
set_option Elab.async false
set_option linter.all false
set_option maxRecDepth 100000
set_option maxHeartbeats 4000000
namespace Own
open PySem PySem.Spec PyProof.Rows L2 LamX
theorem StA.nl {H : Hp} {a lw lc : Addr} {t : Nat} (S : StA H a lw lc t) {l : Addr} {xs : List V} (h : H l = some (.lst xs)) : l ≠ a := by
  obtain ⟨⟨ws, cs, r, u, e1, _⟩, _⟩ := S
  exact ne_of h e1 (by intro z; cases z)
def spSome (K : PySem.W.Frag) : Sp := fun vs H Q _ => ∃ (a lw lc : Addr) (t : Nat) (l : Addr), vs = [.ref a, .ref l] ∧ StA H a lw lc t ∧ t < 2 ^ 30 ∧ H l = some (.lst (lows.map V.int)) ∧ l ≠ lw ∧
  ∀ (n : Nat) H', n < 2 ^ 190 → StA H' a lw lc (t + 20) → Kp [a, lw] H H' → Q (.int (n : Nat)) H'
section
variable {P : Program} {w : World} {K : PySem.W.Frag} {mg : Str → Option Value} {base : Heap} {f fP fD fS : Addr} {fd fdP fdD fdS : FuncData}
theorem scSome : FnScope ["_law_state", "_law_lows_here", "_law_way", "_law_found", "_law_turn", "_law_root"] ["_law_state", "_law_lows_here"] (defScope sSome) := ⟨rfl, rfl, rfl, by decide +kernel, rfl, by decide +kernel, by decide +kernel⟩
theorem lows_at {i : Nat} {x : V} (h : (lows.map V.int)[i]? = some x) : ∃ n : Nat, x = .int (n : Nat) ∧ n < 2 ^ 90 := by
  unfold lows at h
  rw [List.map_map, List.getElem?_map] at h
  cases e : (List.range 11)[i]? with
  | none =>
    rw [e] at h
    cases h
  | some c =>
    rw [e] at h
    have hc : c < 11 := List.mem_range.mp (List.mem_of_getElem? e)
    exact ⟨low c, (Option.some.inj h).symm, low_small (by omega)⟩
theorem ok_some (F : FnP K "_law_some_whole" sSome f fd) (FP : FnP K "_law_pick" sPick fP fdP) (FD : FnP K "_law_draw" sDraw fD fdD) (FS : FnP K "_law_stirred" sStir fS fdS) (gP : mg "_law_pick" = some (.ref fP)) (gD : mg "_law_draw" = some (.ref fD)) (gS : mg "_law_stirred" = some (.ref fS)) (T : Txt K mg) :
    FnOk P w K mg base CX0 4 f fd ["_law_state", "_law_lows_here"] (spSome K) := by
  have GD : FnOk P w K mg base CX0 2 fD fdD ["_law_state", "_law_size"] spDraw := ok_draw FD FS gS T
  have bD : Binds K fdD ["_law_state", "_law_size"] [] := FD.bindsN fun _ _ _ _ _ _ us hl => match us, hl with | [_, _], _ => rfl
  have GP : FnOk P w K mg base CX0 3 fP fdP ["_law_state", "_law_some"] (spPick K) := ok_pick FP FD FS gD gS T
  have bP : Binds K fdP ["_law_state", "_law_some"] [] := FP.bindsN fun _ _ _ _ _ _ us hl => match us, hl with | [_, _], _ => rfl
  refine F.ok scSome (fun vs H Q E h => ?_) (fun cdv A outer s H vs Q E hr h => ?_)
  · obtain ⟨a, lw, lc, t, l, rfl, _⟩ := h
    rfl
  · obtain ⟨a, lw, lc, t, l, rfl, S, ht, hl, nl, k⟩ := h
    have hr2 : Room 2 _ := hr.mono (by decide)
    refine ⟨_, PSs.nox (pss_cons (ps_set (i := 2) scSome.nd rfl (.inl rfl) (pe_call GD hr2 (by rfl) gD FD.kp bD .nil pass0 (pa_cons (pv 0) (pa_cons pe_int pa_nil))))
      (pss_cons (ps_if (pt_cmpR op_eq (pv 2) pe_int (nomark _))
        (pss_one (ps_ret (pe_callB (call_max2 rfl) (by rfl) T.max (by decide +kernel) (pa_cons pe_int (pa_cons (pe_op op_sub (pe_op op_add (pe_call GP hr (by rfl) gP FP.kp bP .nil pass0 (pa_cons (pv 0) (pa_cons (pv 1) pa_nil))) (pe_call GD hr2 (by rfl) gD FD.kp bD .nil pass0 (pa_cons (pv 0) (pa_cons pe_int pa_nil)))) pe_int) pa_nil))))) pss_nil)
      (pss_cons (ps_set (i := 3) scSome.nd rfl (.inl rfl) pe_int)
      (pss_cons (ps_for PassesOwn.never rfl (pi_range1 (by rfl) T.range (pa_cons (pe_op op_add pe_int (pe_call GD hr2 (by rfl) gD FD.kp bD .nil pass0 (pa_cons (pv 0) (pa_cons pe_int pa_nil)))) pa_nil)) (pg_name (i := 4) scSome.nd rfl (Or.inl rfl))
        (pss_one (ps_set (i := 3) scSome.nd rfl (.inl rfl) (pe_op op_add (pe_op op_mul (pv 3) pe_int) (pe_call GD hr2 (by rfl) gD FD.kp bD .nil pass0 (pa_cons (pv 0) (pa_cons pe_int pa_nil)))))))
      (pss_cons (ps_if (pt_cmpR op_eq (pv 2) pe_int (nomark _))
        (pss_cons (ps_set (i := 5) scSome.nd rfl (.inl rfl) (pe_op op_fdivW (pv 3) (pe_op op_pow pe_int pe_int)))
        (pss_one (ps_ret (pe_callB (call_max2 rfl) (by rfl) T.max (by decide +kernel) (pa_cons pe_int (pa_cons (pe_op op_sub (pe_op op_add (pe_op op_mulW (pv 5) (pv 5)) (pe_call GD hr2 (by rfl) gD FD.kp bD .nil pass0 (pa_cons (pv 0) (pa_cons pe_int pa_nil)))) pe_int) pa_nil)))))) pss_nil)
      (pss_one (ps_ret (pv 3)))))))), ?_⟩
    refine ⟨_, rfl, a, lw, lc, t, 4, rfl, S, by omega, by decide, by decide, fun way H1 hw0 hw1 S1 K1 => ?_⟩
    have hl1 := K1 l _ hl (by simp [S.nl hl, nl])
    -- the greatest of 0 and a whole
    have mx : ∀ z : Int, z < 2 ^ 190 → ∃ n : Nat, n < 2 ^ 190 ∧ (if z > 0 then z else 0) = (n : Int) := fun z hz => by
      by_cases h : z > 0
      · exact ⟨z.toNat, by omega, by rw [if_pos h]; omega⟩
      · exact ⟨0, by omega, by rw [if_neg h]; rfl⟩
    refine ⟨_, rfl, rfl, _, rfl, ?_⟩
    refine ite2 (fun _ => ?_) (fun c1 => ?_)
    · refine ⟨_, rfl, _, rfl, a, lw, lc, t + 1, l, _, rfl, S1, by omega, hl1, nl, by decide, by decide, fun i x H2 hx S2 K2 => ?_⟩
      obtain ⟨n, rfl, hn⟩ := lows_at hx
      refine ⟨_, rfl, a, lw, lc, t + 2, 3, rfl, S2, by omega, by decide, by decide, fun z H3 hz0 hz1 S3 K3 => ?_⟩
      refine ⟨_, _, rfl, rfl, _, _, rfl, rfl, _, _, rfl, ?_⟩
      obtain ⟨m, hm, e⟩ := mx ((n : Int) + z - 1) (by omega)
      rw [e]
      exact k m H3 hm (S3.more (by omega)) ((K1.trans K2).trans K3)
    · refine ⟨_, rfl, a, lw, lc, t + 1, 10, rfl, S1, by omega, by decide, by decide, fun z H2 hz0 hz1 S2 K2 => ?_⟩
      refine ⟨_, _, rfl, rfl, 1 + z, rfl, by omega, by omega, ?_⟩
      refine for_range (lo := 0) (n := (1 + z).toNat) (fun i σ H3 => ∃ (v : Int) (v4 : Option V), σ = [some (.ref a), some (.ref l), some (.int way), some (.int v), v4, none] ∧ 0 ≤ v ∧ v < 1000 ^ i ∧ StA H3 a lw lc (t + 2 + i) ∧ Kp [a, lw] H H3)
        ⟨0, none, rfl, by omega, by decide, S2, K1.trans K2⟩ ?_ ?_
      · rintro i σ H3 hi ⟨v, v4, rfl, hv0, hv1, S3, K3⟩
        refine ⟨_, rfl, _, _, rfl, rfl, .inr ⟨by decide, by decide⟩, _, rfl, a, lw, lc, t + 2 + i, 1000, rfl, S3, by omega, by decide, by decide, fun q H4 hq0 hq1 S4 K4 => ?_⟩
        refine ⟨_, _, rfl, rfl, v * 1000 + q, _, rfl, by omega, ?_, S4, K3.trans K4⟩
        rw [Int.pow_succ]
        omega
      · rintro σ H3 ⟨v, v4, rfl, hv0, hv1, S3, K3⟩
        have hv : v < 1000 ^ 10 := by
          have q : (1 + z).toNat ≤ 10 := by omega
          have : (1000 : Int) ^ (1 + z).toNat ≤ 1000 ^ 10 := by
            have hn : (1000 : Nat) ^ (1 + z).toNat ≤ 1000 ^ 10 := Nat.pow_le_pow_right (by decide) q
            have := Int.ofNat_le.mpr hn
            simpa using this
          omega
        have S5 : StA H3 a lw lc (t + 15) := S3.more (by omega)
        refine ⟨_, rfl, rfl, _, rfl, ?_⟩
        refine ite2 (fun _ => ?_) (fun c1 => ?_)
        · refine ⟨_, rfl, _, _, rfl, rfl, ⟨by decide, by decide, by decide⟩, _, _, rfl, rfl, wide_div (b := 64) (by decide) (by decide) (by decide) (by decide), ?_⟩
          have r0 : 0 ≤ v / 10 ^ (15 : Int).toNat := Int.ediv_nonneg hv0 (by decide)
          have r1 : v / 10 ^ (15 : Int).toNat < 10 ^ 15 := by
            have e : (10 : Int) ^ (15 : Int).toNat = 1000000000000000 := by decide
            rw [e]
            omega
          have r2 : (v / 10 ^ (15 : Int).toNat) * (v / 10 ^ (15 : Int).toNat) ≤ 10 ^ 15 * 10 ^ 15 := Int.mul_le_mul (by omega) (by omega) r0 (by decide)
          refine ⟨_, rfl, _, rfl, _, _, rfl, rfl, wide_mul (a := 64) (b := 64) (by omega) (by omega) (by decide) (by decide) (by decide), _, rfl, a, lw, lc, t + 15, 3, rfl, S5, by omega, by decide, by decide, fun q H4 hq0 hq1 S4 K4 => ?_⟩
          refine ⟨_, _, rfl, rfl, _, _, rfl, rfl, _, _, rfl, ?_⟩
          obtain ⟨m, hm, e⟩ := mx ((v / 10 ^ (15 : Int).toNat) * (v / 10 ^ (15 : Int).toNat) + q - 1) (by omega)
          dsimp only
          rw [e]
          exact k m H4 hm (S4.more (by omega)) (K3.trans K4)
        · obtain ⟨m, rfl⟩ : ∃ m : Nat, v = (m : Int) := ⟨v.toNat, by omega⟩
          exact ⟨_, rfl, k m H3 (by omega) (S5.more (by omega)) K3⟩
end
end Own
set_option Elab.async false
set_option linter.all false
set_option maxRecDepth 100000
set_option maxHeartbeats 4000000
namespace Own
open PySem PySem.Spec PyProof.Rows L2 LamX
theorem ds_mem : ∀ (n k : Nat), k ∈ ds n → k ≤ n
  | 0, k, h => by
    rw [ds_zero] at h
    cases h
  | n + 1, k, h => by
    have q : 0 < n + 1 := Nat.succ_pos n
    have ps := isq_pos q
    have pp : 0 < isq (n + 1) * isq (n + 1) := Nat.mul_pos ps ps
    have sq := isq_le (n + 1)
    have le : isq (n + 1) ≤ isq (n + 1) * isq (n + 1) := Nat.le_mul_of_pos_left _ ps
    rw [ds_pos q] at h
    rcases List.mem_cons.mp h with h | h
    · omega
    · have := ds_mem (n + 1 - isq (n + 1) * isq (n + 1)) k h
      omega
termination_by n => n
decreasing_by
  have q : 0 < n + 1 := Nat.succ_pos n
  have ps := isq_pos q
  have pp : 0 < isq (n + 1) * isq (n + 1) := Nat.mul_pos ps ps
  omega
theorem lows_ix {i : Nat} {x : V} (h : (lows.map V.int)[i]? = some x) : i < 11 ∧ x = .int ((low i : Nat) : Int) := by
  unfold lows at h
  rw [List.map_map, List.getElem?_map] at h
  cases er : (List.range 11)[i]? with
  | none =>
    rw [er] at h
    cases h
  | some c =>
    rw [er] at h
    obtain ⟨hc1, hc2⟩ := List.getElem?_eq_some_iff.mp er
    rw [List.length_range] at hc1
    rw [List.getElem_range] at hc2
    subst hc2
    exact ⟨hc1, (Option.some.inj h).symm⟩
/-- the numbers that are asked: the lesser ones, then the drawn ones -/
def asks (ms : List Nat) : List Nat := List.range 170 ++ ms
theorem asks_V (ms : List Nat) : rgV 0 170 ++ ms.map (fun n : Nat => V.int (n : Int)) = (asks ms).map fun n : Nat => V.int (n : Int) := by
  unfold asks rgV
  rw [List.map_append]
  congr 1
theorem nats_at {ns : List Nat} {i : Nat} {y : V} (h : (ns.map fun n : Nat => V.int (n : Int))[i]? = some y) : ∃ z : Nat, ns[i]? = some z ∧ y = V.int (z : Int) := by
  rw [List.getElem?_map] at h
  cases e : ns[i]? with
  | none =>
    rw [e] at h
    cases h
  | some z =>
    rw [e] at h
    exact ⟨z, rfl, (Option.some.inj h).symm⟩
/-- a def, its code object known -/
theorem FunD.okC {P : Program} {w : World} {K : PySem.W.Frag} {mg : Str → Option Value} {base : Heap} {x qual : Str} {params : Arguments} {body : List Stmt} {scope : Scope} {dvs : List V} {kws : List (Str × V)} {f : Addr} {fd : FuncData} {CX : CXT} {N ps : List Str} {k : Nat} {sp : Sp} {d : Str × Option Str}
    (F : FunD K x qual params body scope dvs kws f fd) (hf : f = He.fAd K d) (S : FnScope N ps scope) (len : ∀ vs H Q E, sp vs H Q E → vs.length = ps.length)
    (hbody : ∀ (A : Around) (outer : List Env) (s : Shared) (H : Hp) (vs : List V) (Q : VK) (E : XK), Room k (A.deeper (envOfC qual scope s.heap.objs.size f (.ref (He.codeOf K d)))) → sp vs H Q E →
      ∃ t, PSs (cxOf CX P w K mg base N qual scope f (.ref (He.codeOf K d)) A outer s H E) body t ∧ t { nx := fun _ H' => Q .non H', rt := Q } (L2.start N vs) H) : FnOk P w K mg base CX (k + 1) f fd ps sp := by
  obtain ⟨oc, od, dV, kV, doc, pm, an, cdv, ct, osl, rfl, lk, hcd, _, _⟩ := F.ex
  obtain ⟨c, rfl⟩ := He.codeIn_ref hcd
  have e : He.codeOf K d = c := He.codeOf_eq (by rw [← hf]; exact lk) rfl
  refine fn_of lk hcd S len fun A outer s H vs Q E hr hsp => ?_
  have := hbody A outer s H vs Q E (by rw [e]; exact hr) hsp
  rw [e] at this
  exact this
/-- the odd values: none is a whole from 0 on -/
inductive OddV (H : Hp) : V → Prop
  | non : OddV H .non
  | bl (b : Bool) : OddV H (.bl b)
  | neg (z : Int) (h : z < 0) : OddV H (.int z)
  | str (z : Str) : OddV H (.str z)
  | lst {a : Addr} {xs : List V} (h : H a = some (.lst xs)) : OddV H (.ref a)
  | tup {a : Addr} {xs : List V} (h : H a = some (.tup xs)) : OddV H (.ref a)
  | dict {a : Addr} {kvs : List (Key × V)} (h : H a = some (.dK kvs)) : OddV H (.ref a)
theorem OddV.kind {K : PySem.W.Frag} {H : Hp} {x : V} (h : OddV H x) : ∃ i b, Kind K H x i b ∧ ((i && !b) = false ∨ ∃ z : Int, x = .int z ∧ z < 0) := by
  cases h with
  | non => exact ⟨_, _, Kind.non, .inl rfl⟩
  | bl b => exact ⟨_, _, Kind.bl b, .inl rfl⟩
  | neg z h => exact ⟨_, _, Kind.int z, .inr ⟨z, rfl, h⟩⟩
  | str z => exact ⟨_, _, Kind.str z, .inl rfl⟩
  | lst h => exact ⟨_, _, Kind.lst h, .inl rfl⟩
  | tup h => exact ⟨_, _, Kind.tup h, .inl rfl⟩
  | dict h => exact ⟨_, _, Kind.dict h, .inl rfl⟩
theorem OddV.ext {H H' : Hp} (e : ExtN H H') {x : V} (h : OddV H x) : OddV H' x := by
  cases h with
  | non => exact .non
  | bl b => exact .bl b
  | neg z h => exact .neg z h
  | str z => exact .str z
  | lst h => exact .lst (e _ _ h fun _ q => by cases q)
  | tup h => exact .tup (e _ _ h fun _ q => by cases q)
  | dict h => exact .dict (e _ _ h fun _ q => by cases q)
theorem OddV.kp {H0 H H' : Hp} {a lw : Addr} {x : V} (h : OddV H x) (n : ∀ r, x = .ref r → H0 r = none) (ha : H0 a ≠ none) (hw : H0 lw ≠ none) (K' : Kp [a, lw] H H') : OddV H' x := by
  have go : ∀ {r : Addr} {o : HO}, H0 r = none → H r = some o → H' r = some o := fun {r o} hr ho => K' r o ho (by
    intro m
    rcases List.mem_cons.mp m with e | m
    · exact ha (e ▸ hr)
    · exact hw (List.mem_singleton.mp m ▸ hr))
  cases h with
  | non => exact .non
  | bl b => exact .bl b
  | neg z h => exact .neg z h
  | str z => exact .str z
  | lst h => exact .lst (go (n _ rfl) h)
  | tup h => exact .tup (go (n _ rfl) h)
  | dict h => exact .dict (go (n _ rfl) h)
theorem kit_self {K : PySem.W.Frag} (t : Value) : PySem.W.kitOne K t t = some true := by
  unfold PySem.W.kitOne
  rw [if_pos (beq_self_eq_true t)]
abbrev lamQ : Str := ("law" : Str) ++ ".<locals>." ++ "<lambda>"
abbrev nmLaw : List Str := ["_law_script", "_law_state", "_law_lows_here", "_law_count", "_law_least", "_law_some", "_law_turn", "_law_n", "_law_items", "_law_odd", "_law_worse"]
/-- the law's promise: T its code object's table -/
def spLaw (K : PySem.W.Frag) (tb : Addr) : Sp := fun vs H Q _ => ∃ (a : Addr) (ns : List Int), vs = [.ref a] ∧ SqL K H a (ns.map V.int) ∧ ns.length ≤ 63 ∧ H tb = some (.tbl #[]) ∧ ∀ H', Q (.bl true) H'
/-- all that the law's walk asks of the module -/
structure All (K : PySem.W.Frag) (mg : Str → Option Value) (fW fDn fLe fB fSt fD fP fC fLW fF fLo fSo CB CR : Addr) (dW dDn dLe dB dSt dD dP dC dLW dF dLo dSo : FuncData) : Prop where
  t : Txt K mg
  isq : mg "isqrt" = some (.builtin "math.isqrt")
  eB : ExcT K mg "BadCount" CB
  cB : ExcC K CB
  gR : mg "RulerError" = some (.ref CR)
  ex : PySem.W.exmOne K (.ref CB) (.ref CR) = some true
  W : FnP K "is_whole" sWhole fW dW
  gW : mg "is_whole" = some (.ref fW)
  Dn : FnP K "downsquares" sDown fDn dDn
  gDn : mg "downsquares" = some (.ref fDn)
  Le : FnP K "least_with" sLeast fLe dLe
  gLe : mg "least_with" = some (.ref fLe)
  B : FnP K "_law_begun" sBegun fB dB
  gB : mg "_law_begun" = some (.ref fB)
  St : FnP K "_law_stirred" sStir fSt dSt
  gSt : mg "_law_stirred" = some (.ref fSt)
  D : FnP K "_law_draw" sDraw fD dD
  gD : mg "_law_draw" = some (.ref fD)
  P : FnP K "_law_pick" sPick fP dP
  gP : mg "_law_pick" = some (.ref fP)
  C : FnP K "_law_caught" sCaught fC dC
  gC : mg "_law_caught" = some (.ref fC)
  LW : FnP K "_law_is_whole" sLWhole fLW dLW
  gLW : mg "_law_is_whole" = some (.ref fLW)
  F : FnP K "_law_falls" sFalls fF dF
  gF : mg "_law_falls" = some (.ref fF)
  Lo : FnP K "_law_lows" sLows fLo dLo
  gLo : mg "_law_lows" = some (.ref fLo)
  So : FnP K "_law_some_whole" sSome fSo dSo
  gSo : mg "_law_some_whole" = some (.ref fSo)
section
variable {P : Program} {w : World} {K : PySem.W.Frag} {mg : Str → Option Value} {base : Heap} {f : Addr} {fd : FuncData} {fW fDn fLe fB fSt fD fP fC fLW fF fLo fSo CB CR : Addr} {dW dDn dLe dB dSt dD dP dC dLW dF dLo dSo : FuncData}
theorem scLaw : FnScope nmLaw ["_law_script"] (defScope sLaw) := ⟨rfl, rfl, rfl, by decide +kernel, rfl, by decide +kernel, by decide +kernel⟩
theorem scCaught : FnScope ["_law_action", "_law_found", "error"] ["_law_action"] (defScope sCaught) := ⟨rfl, rfl, rfl, by decide +kernel, rfl, by decide +kernel, by decide +kernel⟩
/-- _law_caught(lambda: body) -/
theorem pe_caught {X : Cx} {k : Nat} {c : Addr} {tb : Addr} {params : Arguments} {body : Expr} {scope : Scope} {t : XK → TE} {p lpos pos : Pos} (FC : FnP X.K "_law_caught" sCaught fC dC) (gC : X.mg "_law_caught" = some (.ref fC)) (hg : Gl X "_law_caught") (gR : X.mg "RulerError" = some (.ref CR))
    (TB : TabB X.base X.mg c tb) (hcode : X.env.code = .ref c) (hr : Room (k + 2) X.A) {sc : Scope} (hsc : X.env.scope = sc) (L : LamS sc scope) (hdef : defaultsOf params X.env = ([], []))
    (hbind : ∀ (q : Str) (cl : List (Str × Addr)) (pm cv ctv : Value), bindArgs (PySem.W.kla_fn "<lambda>" q params body scope cl pm cv ctv) ⟨[], []⟩ = pure [])
    (hbody : ∀ (A : Around) (outer : List Env) (s : Shared) (H : Hp) (E : XK) (f c' : Addr), Room k (A.deeper (lamEnv X scope s.heap.objs.size f c')) → PE (lamCx X A outer s H E scope f c') body (t E)) :
    PE X (.Call (.Name "_law_caught" p) [.Lambda params body scope lpos] [] pos) (tLam [(tb, X.env.qual ++ "<lambda>")] (TKeep X.K CR) t) := by
  have bC : Binds X.K dC ["_law_action"] [] := FC.bindsN fun _ _ _ _ _ _ us hl => match us, hl with | [_], _ => rfl
  have kp := FC.kp
  obtain ⟨oc, od, dV, kV, doc, pm, an, cdv, ct, osl, rfl, lk, hcd, hdf, _⟩ := FC.ex
  exact pe_lamcall hg gC kp lk hcd bC scCaught rfl (Or.inl rfl) (keep_gives rfl scCaught.nd rfl rfl rfl gR (by decide) (by decide) (by decide) (by decide) (by decide)) TB hcode List.mem_cons_self (fun p hp _ => by rw [List.mem_singleton.mp hp]) hr (hsc ▸ L) hdef hbind hbody
theorem ok_law (F : FnP K "law" sLaw f fd) (hf : f = He.fAd K ("law", none)) (Z : All K mg fW fDn fLe fB fSt fD fP fC fLW fF fLo fSo CB CR dW dDn dLe dB dSt dD dP dC dLW dF dLo dSo) (tb : Addr) (TB : TabB base mg (He.codeOf K ("law", none)) tb) :
    FnOk P w K mg base CX0 7 f fd ["_law_script"] (spLaw K tb) := by
  have T := Z.t
  have GB : FnOk P w K mg base CX0 1 fB dB ["_law_script"] (spBegun K) := ok_begun Z.B T
  have bB : Binds K dB ["_law_script"] [] := Z.B.bindsN fun _ _ _ _ _ _ us hl => match us, hl with | [_], _ => rfl
  have GLo : FnOk P w K mg base CX0 1 fLo dLo [] spLows := ok_lows Z.Lo T
  have bLo : Binds K dLo [] [] := Z.Lo.bindsN fun _ _ _ _ _ _ us hl => match us, hl with | [], _ => rfl
  have GLe : FnOk P w K mg base (L2.CX P w) 2 fLe dLe ["count"] (spLeast K CB) := ok_least Z.Le Z.W T Z.gW Z.eB
  have bLe := kb_one Z.Le (p := "count") fun _ _ _ _ _ _ _ => rfl
  have GDn : FnOk P w K mg base (L2.CX P w) 2 fDn dDn ["n"] (spDown K CB) := ok_down Z.Dn Z.W T Z.gW Z.isq Z.eB
  have bDn : Binds K dDn ["n"] [] := Z.Dn.bindsN fun _ _ _ _ _ _ us hl => match us, hl with | [_], _ => rfl
  have kDn := kb_one Z.Dn (p := "n") fun _ _ _ _ _ _ _ => rfl
  have GSo : FnOk P w K mg base CX0 4 fSo dSo ["_law_state", "_law_lows_here"] (spSome K) := ok_some Z.So Z.P Z.D Z.St Z.gP Z.gD Z.gSt T
  have bSo : Binds K dSo ["_law_state", "_law_lows_here"] [] := Z.So.bindsN fun _ _ _ _ _ _ us hl => match us, hl with | [_, _], _ => rfl
  have GP : FnOk P w K mg base CX0 3 fP dP ["_law_state", "_law_some"] (spPick K) := ok_pick Z.P Z.D Z.St Z.gD Z.gSt T
  have bP : Binds K dP ["_law_state", "_law_some"] [] := Z.P.bindsN fun _ _ _ _ _ _ us hl => match us, hl with | [_, _], _ => rfl
  have GF : FnOk P w K mg base CX0 2 fF dF ["_law_n", "_law_items"] (spFalls K) := ok_falls Z.F Z.LW T Z.gLW
  have bF : Binds K dF ["_law_n", "_law_items"] [] := Z.F.bindsN fun _ _ _ _ _ _ us hl => match us, hl with | [_, _], _ => rfl
  have bC : Binds K dC ["_law_action"] [] := Z.C.bindsN fun _ _ _ _ _ _ us hl => match us, hl with | [_], _ => rfl
  refine FunD.okC F hf scLaw (fun vs H Q E h => ?_) (fun A outer s H vs Q E hr h => ?_)
  · obtain ⟨a, ns, rfl, _⟩ := h
    rfl
  · obtain ⟨sa, ns, rfl, hS, hl, hT, k⟩ := h
    have hr1 : Room 1 (A.deeper (envOfC "law" (defScope sLaw) s.heap.objs.size f (.ref (He.codeOf K ("law", none))))) := hr.mono (by decide)
    have hr2 : Room 2 (A.deeper (envOfC "law" (defScope sLaw) s.heap.objs.size f (.ref (He.codeOf K ("law", none))))) := hr.mono (by decide)
    have hr3 : Room 3 (A.deeper (envOfC "law" (defScope sLaw) s.heap.objs.size f (.ref (He.codeOf K ("law", none))))) := hr.mono (by decide)
    have hr4 : Room 4 (A.deeper (envOfC "law" (defScope sLaw) s.heap.objs.size f (.ref (He.codeOf K ("law", none))))) := hr.mono (by decide)
    refine ⟨_, PSs.nox (pss_cons (ps_asg (pe_tup (pa_cons (pe_call GB hr1 (by rfl) Z.gB Z.B.kp bB .nil pass0 (pa_cons (pv 0) pa_nil)) (pa_cons (pe_call0 GLo hr1 (by rfl) Z.gLo Z.Lo.kp bLo .nil pass0) pa_nil)))
        (pg_tup rfl (pgs_cons (pg_name (i := 1) scLaw.nd rfl (Or.inr rfl)) (pgs_cons (pg_name (i := 2) scLaw.nd rfl (Or.inr rfl)) pgs_nil))))
      (pss_cons (ps_for PassesOwn.never rfl (pi_enum (by rfl) T.enum (pa_cons (pv 2) pa_nil)) (pg_tup rfl (pgs_cons (pg_name (i := 3) scLaw.nd rfl (Or.inl rfl)) (pgs_cons (pg_name (i := 4) scLaw.nd rfl (Or.inl rfl)) pgs_nil)))
        (pss_one (ps_if (PW.pt (pw_or (pt_cmpR op_ne (pe_kw0 GLe hr2 (by rfl) Z.gLe Z.Le.kp bLe passL (pk_cons (pv 3) pk_nil)) (pv 4) (nomark _))
          (pw_or1 (pt_cmpR op_ne (pe_callB call_len_seq (by rfl) T.len PySem.boot_len (pa_cons (pe_call GDn hr2 (by rfl) Z.gDn Z.Dn.kp bDn .nil passL (pa_cons (pv 4) pa_nil)) pa_nil)) (pv 3) (nomark _))))) (pss_one (ps_ret pe_bl)) pss_nil)))
      (pss_cons (ps_set (i := 5) scLaw.nd rfl (.inl rfl) (pe_op op_cat (pe_listRg rfl (by rfl) T.list (prg_1 (by rfl) T.range pe_int))
        (pe_lc (own := [("_law_turn", 6)]) (g := gName 6) (tt := tYes) (by rfl) scLaw.nd (pi_range1 (by rfl) T.range (pa_cons (pe_op op_add pe_int (pe_callB (call_min2 rfl) (by rfl) T.min (by decide +kernel) (pa_cons (pe_callB call_len_seq (by rfl) T.len PySem.boot_len (pa_cons (pv 0) pa_nil)) (pa_cons pe_int pa_nil)))) pa_nil))
          (blkOk_by (own := [("_law_turn", 6)]) (N := nmLaw) (sc := defScope sLaw) (by decide +kernel)) (fun _ _ _ _ _ => pg_name (i := 6) scLaw.nd rfl (Or.inl rfl)) (fun _ _ _ _ _ => pts_nil)
          (fun _ _ _ _ _ => pe_call GSo hr4 (by rfl) Z.gSo Z.So.kp bSo .nil pass0 (pa_cons (pv 1) (pa_cons (pv 2) pa_nil))))))
      (pss_cons (ps_for PassesOwn.never rfl (pi_list (pv 5)) (pg_name (i := 7) scLaw.nd rfl (Or.inr rfl))
        (pss_cons (ps_set (i := 8) scLaw.nd rfl (.inr rfl) (pe_kw0 GDn hr2 (by rfl) Z.gDn Z.Dn.kp kDn passL (pk_cons (pv 7) pk_nil)))
        (pss_cons (ps_if (pt_not (pt_val (pe_call GF hr2 (by rfl) Z.gF Z.F.kp bF .nil pass0 (pa_cons (pv 7) (pa_cons (pv 8) pa_nil))))) (pss_one (ps_ret pe_bl)) pss_nil)
        (pss_one (ps_if (pt_cmpR (op_neD hr.units) (pe_lc (own := [("_law_count", 3), ("_law_least", 4)]) (g := gTup K 2 (gCons (gName 3) (gCons (gName 4) gNil))) (by rfl) scLaw.nd (pi_enum (by rfl) T.enum (pa_cons (pv 2) pa_nil))
            (blkOk_by (own := [("_law_count", 3), ("_law_least", 4)]) (N := nmLaw) (sc := defScope sLaw) (by decide +kernel)) (fun _ _ _ _ _ => pg_tup rfl (pgs_cons (pg_name (i := 3) scLaw.nd rfl (Or.inl rfl)) (pgs_cons (pg_name (i := 4) scLaw.nd rfl (Or.inl rfl)) pgs_nil)))
            (fun _ _ _ _ _ => pts_one (PW.pt (pw_and (pt_cmpR op_lt (pv 7) (pv 4) (nomark _)) (pw_and1 (pt_cmpR op_ge (pe_callB (call_lenK (K := K) rfl) (by rfl) T.len PySem.boot_len (pa_cons (pv 8) pa_nil)) (pv 3) (nomark _)))))) (fun _ _ _ _ _ => pv 4)) (pe_lst pa_nil) (nomark _)) (pss_one (ps_ret pe_bl)) pss_nil)))))
      (pss_cons (ps_set (i := 9) scLaw.nd rfl (.inr rfl) (pe_call GP hr3 (by rfl) Z.gP Z.P.kp bP .nil pass0 (pa_cons (pv 1) (pa_cons (pe_lst (pa_cons pe_non (pa_cons pe_bl (pa_cons pe_bl (pa_cons (pe_un un_neg pe_int) (pa_cons (pe_un un_neg pe_int) (pa_cons pe_str
          (pa_cons (pe_lst (pa_cons pe_int pa_nil)) (pa_cons (pe_tup (pa_cons pe_int pa_nil)) (pa_cons pe_dnewK (pa_cons (pe_lst pa_nil) (pa_cons (pe_tup pa_nil) (pa_cons pe_str pa_nil))))))))))))) pa_nil))))
      (pss_cons (ps_if (pt_not (pt_val (pe_callB call_isX (by rfl) T.isi boot_isinstance (pa_cons (pe_caught (k := 2) Z.C Z.gC (by rfl) Z.gR TB rfl hr4 (sc := defScope sLaw) rfl (lamS_by (by decide +kernel)) rfl (fun _ _ _ _ _ => rfl)
          (fun A' outer' s' H' E' f' c' hrr => pe_call GDn hrr (by rfl) Z.gDn Z.Dn.kp bDn .nil (passes_call (takes_of rfl rfl rfl rfl) fun _ _ _ _ h => h) (pa_cons (pv 9) pa_nil))) (pa_cons (pe_glob (v := .ref CB) (by rfl) Z.eB.g rfl) pa_nil))))) (pss_one (ps_ret pe_bl)) pss_nil)
      (pss_cons (ps_for PassesOwn.never rfl (pi_list (pe_lst (pa_cons (pv 9) (pa_cons pe_int (pa_cons (pe_un un_neg pe_int) (pa_cons pe_non pa_nil)))))) (pg_name (i := 10) scLaw.nd rfl (Or.inr rfl))
        (pss_one (ps_if (pt_not (pt_val (pe_callB call_isX (by rfl) T.isi boot_isinstance (pa_cons (pe_caught (k := 2) Z.C Z.gC (by rfl) Z.gR TB rfl hr4 (sc := defScope sLaw) rfl (lamS_by (by decide +kernel)) rfl (fun _ _ _ _ _ => rfl)
          (fun A' outer' s' H' E' f' c' hrr => pe_kw0 GLe hrr (by rfl) Z.gLe Z.Le.kp bLe (passes_call (takes_of rfl rfl rfl rfl) fun _ _ _ _ h => h) (pk_cons (pv 10) pk_nil))) (pa_cons (pe_glob (v := .ref CB) (by rfl) Z.eB.g rfl) pa_nil))))) (pss_one (ps_ret pe_bl)) pss_nil)))
      (pss_one (ps_ret (pe_callB call_isX (by rfl) T.isi boot_isinstance (pa_cons (pe_caught (k := 2) Z.C Z.gC (by rfl) Z.gR TB rfl hr4 (sc := defScope sLaw) rfl (lamS_by (by decide +kernel)) rfl (fun _ _ _ _ _ => rfl)
          (fun A' outer' s' H' E' f' c' hrr => pe_kw0 GDn hrr (by rfl) Z.gDn Z.Dn.kp kDn (passes_call (takes_of rfl rfl rfl rfl) fun _ _ _ _ h => h) (pk_cons (pe_un un_neg pe_int) pk_nil))) (pa_cons (pe_glob (v := .ref CB) (by rfl) Z.eB.g rfl) pa_nil)))))))))))), ?_⟩
    refine ⟨_, rfl, sa, ns, rfl, hS, hl, fun a lw lc H1 na nw nc S1 e1 => ?_⟩
    refine ⟨rfl, fun ll H2 nl e2 => ?_⟩
    subst e2
    refine ⟨(by show 2 ≤ sizeLine; decide), fun T0 nT0 => ?_⟩
    refine ⟨T0, _, rfl, SqT.of upd_same, rfl, _, _, rfl, _, _, rfl, rfl, ?_⟩
    have q0 : Same H (L2.upd (L2.upd H1 ll (.lst (lows.map V.int))) T0 (.tup [.ref a, .ref ll])) := (e1.trans (Same.upd nl)).trans (Same.upd nT0)
    have S0 : StA (L2.upd (L2.upd H1 ll (.lst (lows.map V.int))) T0 (.tup [.ref a, .ref ll])) a lw lc 0 := (S1.same (Same.upd nl)).same (Same.upd nT0)
    have hL : (L2.upd (L2.upd H1 ll (.lst (lows.map V.int))) T0 (.tup [.ref a, .ref ll])) ll = some (.lst (lows.map V.int)) := Same.upd nT0 _ _ upd_same
    have nlw : ll ≠ lw := by
      obtain ⟨⟨ws, cs, r, u, h1, h2, _⟩, _⟩ := id S1
      exact (ne_of_none h2 nl).symm
    have hS0 := q0.seq hS
    have hT0 := q0 _ _ hT
    generalize L2.upd (L2.upd H1 ll (.lst (lows.map V.int))) T0 (.tup [.ref a, .ref ll]) = H0 at q0 S0 hL hS0 hT0
    clear q0 e1 S1 nT0 nl hT hS na nw nc
    -- for count, least in enumerate(lows)
    refine ⟨_, rfl, ll, _, rfl, SqL.of hL, ?_⟩
    refine for_it (walk_enum (K := K) (a := ll) (xs := lows.map V.int)) (fun i σ H' => ∃ (v3 v4 : Option V), σ = [some (.ref sa), some (.ref a), some (.ref ll), v3, v4, none, none, none, none, none, none] ∧ Same H0 H')
      ⟨none, none, rfl, Same.refl _⟩ (fun i σ H' _ ⟨_, _, _, e⟩ => SqL.of (e _ _ hL)) ?_ ?_
    · rintro i x σ H2 H3 hi ⟨v3, v4, rfl, e⟩ ⟨TA, x1, x2, rfl, nT, rfl, hx1, hx2⟩
      obtain rfl : V.int (i : Nat) = x1 := Option.some.inj hx1
      obtain ⟨hi2, rfl⟩ := lows_ix (show (lows.map V.int)[i]? = some x2 from hx2)
      refine ⟨TA, _, rfl, SqT.of upd_same, rfl, _, _, rfl, _, _, rfl, rfl, ?_⟩
      have e' : Same H0 (L2.upd H2 TA (.tup [.int (i : Nat), .int ((low i : Nat) : Int)])) := e.trans (Same.upd nT)
      refine ⟨_, rfl, rfl, .int (i : Nat), true, false, rfl, Kind.int _, .inl ⟨i, rfl, by omega, ?_⟩⟩
      refine ⟨_, rfl, rfl, _, rfl, ?_⟩
      rw [decide_eq_true rfl]
      refine iteF ?_
      refine ⟨_, rfl, .int ((low i : Nat) : Int), true, false, rfl, Kind.int _, .inl ⟨low i, rfl, Nat.lt_trans (low_small (by omega)) (by decide), fun p H' np eH => ?_⟩⟩
      subst eH
      refine ⟨p, _, rfl, .inl (SqL.of upd_same), _, rfl, rfl, _, rfl, ?_⟩
      have el : decide (V.int ((((ds (low i)).map fun k : Nat => V.int (k : Int)).length : Nat) : Int) = V.int (i : Nat)) = true := by
        rw [List.length_map, ds_low]
        exact decide_eq_true rfl
      rw [el]
      refine iteF ?_
      exact ⟨_, _, rfl, e'.trans (Same.upd np)⟩
    · rintro σ H2 ⟨v3, v4, rfl, e⟩
      have S1 := S0.same e
      have hL1 := e _ _ hL
      have hS1 := e.seq hS0
      have hT1 := e _ _ hT0
      clear S0 hL hS0 hT0 e
      -- some = list(range(170)) + [..]
      refine ⟨170, rfl, RgOk.of_le (by decide) (by decide) (by decide) (by decide), fun q nq => ?_⟩
      have eq : Same H2 (L2.upd H2 q (.lst (rgV 0 170))) := Same.upd nq
      have S2 := S1.same eq
      have hL2 := eq _ _ hL1
      have hS2 := eq.seq hS1
      have hT2 := eq _ _ hT1
      have hq2 : (L2.upd H2 q (.lst (rgV 0 170))) q = some (.lst (rgV 0 170)) := upd_same
      have nqw : q ≠ lw := by
        obtain ⟨⟨ws, cs, r, u, h1, h2, _⟩, _⟩ := id S1
        exact (ne_of_none h2 nq).symm
      generalize L2.upd H2 q (.lst (rgV 0 170)) = H3 at eq S2 hL2 hS2 hT2 hq2
      clear S1 hL1 hS1 hT1 eq nq
      refine ⟨_, rfl, sa, _, rfl, .inl hS2, _, _, rfl, _, _, rfl, rfl, _, rfl, ?_, ?_, fun D nD => ?_⟩
      · omega
      · rw [List.length_map]
        omega
      · have nDw : D ≠ lw := by
          obtain ⟨⟨ws, cs, r, u, h1, h2, _⟩, _⟩ := id S2
          exact (ne_of_none h2 nD).symm
        have nDa : D ≠ a := by
          obtain ⟨⟨ws, cs, r, u, h1, h2, _⟩, _⟩ := id S2
          exact (ne_of_none h1 nD).symm
        refine lc_range (lo := 0) (fun i H' => ∃ ms : List Nat, H' D = some (.lst (ms.map fun n : Nat => V.int (n : Int))) ∧ (∀ n ∈ ms, n < 2 ^ 190) ∧ ms.length = i ∧ StA H' a lw lc (20 * i) ∧ Kp [a, lw] H3 H')
          ⟨[], upd_same, (fun n hn => by cases hn), rfl, S2.same (Same.upd nD), Kp.of (Same.upd nD)⟩ ?_ ?_
        · rintro i H4 hi ⟨ms, hD, hm, rfl, S4, K4⟩
          have hi24 : ms.length < 24 := by
            have hi' := hi
            rw [List.length_map] at hi'
            split at hi' <;> omega
          refine ⟨rfl, ?_⟩
          refine yes_if ?_
          have hL4 := K4 _ _ hL2 (by simp [S2.nl hL2, nlw])
          refine ⟨_, rfl, _, rfl, a, lw, lc, 20 * ms.length, ll, rfl, S4, by omega, hL4, nlw, fun n H5 hn S5 K5 => ?_⟩
          have hD5 := K5 _ _ hD (by simp [nDa, nDw])
          have nlD : lw ≠ D := nDw.symm
          refine ⟨_, hD5, (by rw [List.length_map]; exact Nat.lt_trans hi24 (by decide)), ms ++ [n], ?_, ?_, by simp, ?_, ?_⟩
          · rw [upd_same, List.map_append]
            all_goals rfl
          · intro z hz
            rcases List.mem_append.mp hz with h | h
            · exact hm z h
            · rw [List.mem_singleton.mp h]
              exact hn
          · obtain ⟨⟨ws, cs, r, u, h1, h2, h3, h4, h5, h6, h7⟩, ne⟩ := S5
            have nDc : lc ≠ D := by
              obtain ⟨⟨ws2, cs2, r2, u2, g1, g2, g3, _⟩, _⟩ := S2
              exact ne_of_none g3 nD
            exact ⟨⟨ws, cs, r, u, by rw [upd_ne nDa.symm]; exact h1, by rw [upd_ne nlD]; exact h2, by rw [upd_ne nDc]; exact h3, h4, h5, by omega, h7⟩, ne⟩
          · intro b o eb hb
            rw [upd_ne (ne_of_none eb nD)]
            exact (K4.trans K5) b o eb hb
        · rintro H4 ⟨ms, hD, hm, hlen, S4, K4⟩
          have hl24 : ms.length ≤ 24 := by
            rw [hlen, List.length_map]
            split <;> omega
          refine ⟨q, D, _, _, rfl, rfl, K4 _ _ hq2 (by simp [S2.nl hq2, nqw]), hD, ?_, fun LS nLS => ?_⟩
          · rw [rgV_length, List.length_map]
            exact Nat.le_trans (show _ ≤ 200 by omega) (by decide)
          · rw [asks_V]
            have all : ∀ n ∈ asks ms, n < 2 ^ 190 := by
              intro n hn
              rcases List.mem_append.mp hn with h | h
              · have := List.mem_range.mp h
                omega
              · exact hm n h
            have ntw : tb ≠ lw := by
              obtain ⟨⟨ws, cs, r, u, h1, h2, _⟩, _⟩ := id S2
              exact ne_of hT2 h2 (by intro z; cases z)
            have nta : tb ≠ a := by
              obtain ⟨⟨ws, cs, r, u, h1, h2, _⟩, _⟩ := id S2
              exact ne_of hT2 h1 (by intro z; cases z)
            have eL : Same H4 (L2.upd H4 LS (.lst ((asks ms).map fun n : Nat => V.int (n : Int)))) := Same.upd nLS
            have S5 : StA (L2.upd H4 LS (.lst ((asks ms).map fun n : Nat => V.int (n : Int)))) a lw lc 500 := (S4.same eL).more (by rw [← hlen]; omega)
            have hL5 := eL _ _ (K4 _ _ hL2 (by simp [S2.nl hL2, nlw]))
            have hT5 := eL _ _ (K4 _ _ hT2 (by simp [nta, ntw]))
            have hLS : (L2.upd H4 LS (.lst ((asks ms).map fun n : Nat => V.int (n : Int)))) LS = some (.lst ((asks ms).map fun n : Nat => V.int (n : Int))) := upd_same
            generalize L2.upd H4 LS (.lst ((asks ms).map fun n : Nat => V.int (n : Int))) = H5 at eL S5 hL5 hT5 hLS
            clear hD hm hlen S4 K4 nLS S2 hL2 hS2 hT2 hq2 nqw nDw nDa nD eL hl24
            -- for n in some
            refine ⟨_, rfl, LS, rfl, ⟨_, SqL.of hLS⟩, ?_⟩
            refine for_list (K := K) (a := LS) (xs := (asks ms).map fun n : Nat => V.int (n : Int)) (fun i σ H' => ∃ (v7 v8 : Option V), σ = [some (.ref sa), some (.ref a), some (.ref ll), v3, v4, some (.ref LS), none, v7, v8, none, none] ∧ Same H5 H')
              ⟨none, none, rfl, Same.refl _⟩ (fun i σ H' _ ⟨_, _, _, e⟩ => SqL.of (e _ _ hLS)) ?_ ?_
            · rintro i y σ H6 hi ⟨v7, v8, rfl, e⟩
              obtain ⟨n, hn, rfl⟩ := nats_at hi
              have hn190 := all n (List.mem_of_getElem? hn)
              refine ⟨_, rfl, rfl, .int (n : Nat), true, false, rfl, Kind.int _, .inl ⟨n, rfl, Nat.lt_trans hn190 (by decide), fun p H7 np eH => ?_⟩⟩
              have hp7 : H7 p = some (.lst (((ds n).map fun k : Nat => (k : Int)).map V.int)) := by
                rw [eH, upd_same, List.map_map]
                rfl
              have e7 : Same H5 H7 := by
                rw [eH]
                exact e.trans (Same.upd np)
              clear eH
              refine ⟨_, rfl, _, rfl, (n : Int), p, _, rfl, hp7, ?_, ?_⟩
              · intro z hz
                obtain ⟨c, hc, rfl⟩ := List.mem_map.mp hz
                have := ds_mem n c hc
                omega
              · refine ⟨_, rfl, ?_⟩
                rw [falls_ds]
                refine iteF ?_
                refine ⟨_, rfl, ll, _, rfl, SqL.of (e7 _ _ hL5), fun D nD => ?_⟩
                refine lc_it (walk_enum (K := K) (a := ll) (xs := lows.map V.int)) (fun i H' => H' D = some (.lst []) ∧ Same H7 H') ⟨upd_same, Same.upd nD⟩ (fun i H' _ ⟨_, e⟩ => SqL.of (e _ _ (e7 _ _ hL5))) ?_ ?_
                · rintro i x H8 H9 hi ⟨hD8, e8⟩ ⟨TA, x1, x2, rfl, nT, rfl, hx1, hx2⟩
                  obtain rfl : V.int (i : Nat) = x1 := Option.some.inj hx1
                  obtain ⟨hi2, rfl⟩ := lows_ix (show (lows.map V.int)[i]? = some x2 from hx2)
                  refine ⟨TA, _, rfl, SqT.of upd_same, rfl, _, _, rfl, _, _, rfl, rfl, rfl, ?_⟩
                  have e9 : Same H8 (L2.upd H8 TA (.tup [.int (i : Nat), .int ((low i : Nat) : Int)])) := Same.upd nT
                  have Pn : (L2.upd H8 TA (.tup [.int (i : Nat), .int ((low i : Nat) : Int)])) D = some (.lst []) ∧ Same H7 (L2.upd H8 TA (.tup [.int (i : Nat), .int ((low i : Nat) : Int)])) := ⟨e9 _ _ hD8, e8.trans e9⟩
                  refine ⟨_, rfl, _, rfl, _, _, rfl, rfl, _, rfl, ?_⟩
                  refine ite2 (fun c => ?_) (fun _ => ?_)
                  · have hc := of_decide_eq_true c
                    refine ⟨_, rfl, p, _, rfl, .inl (SqL.of (e9 _ _ (e8 _ _ hp7))), _, rfl, _, _, rfl, rfl, _, rfl, ?_⟩
                    have hlt : ¬ ((i : Int) ≤ ((((ds n).map fun k : Nat => (k : Int)).map V.int).length : Nat)) := by
                      rw [List.length_map, List.length_map]
                      intro q
                      have := ds_least n i (by omega)
                      omega
                    rw [decide_eq_false hlt]
                    exact iteF Pn
                  · exact iteF Pn
                · rintro H8 ⟨hD8, e8⟩
                  refine ⟨(by show 0 ≤ sizeLine; decide), fun p2 np2 => ?_⟩
                  have e9 : Same H8 (L2.upd H8 p2 (.lst [])) := Same.upd np2
                  refine ⟨_, _, .lst (SqL.of (e9 _ _ hD8)) .nil, .lst (SqL.of upd_same) .nil, rfl, rfl, _, rfl, ?_⟩
                  refine iteF ?_
                  exact ⟨_, _, rfl, (e7.trans e8).trans e9⟩
            · rintro σ H6 ⟨v7, v8, rfl, e⟩
              have S6 := S5.same e
              have hL6 := e _ _ hL5
              have hT6 := e _ _ hT5
              clear S5 hL5 hT5 hLS e
              -- odd = pick(state, [..])
              refine ⟨_, rfl, _, rfl, _, rfl, (by show 1 ≤ sizeLine; decide), fun l1 n1 => ⟨(by show 1 ≤ sizeLine; decide), fun t1 n2 d1 n3 => ⟨(by show 0 ≤ sizeLine; decide), fun l2 n4 => ⟨(by show 0 ≤ sizeLine; decide), fun t2 n5 => ⟨(by show 12 ≤ sizeLine; decide), fun LP nP => ?_⟩⟩⟩⟩⟩
              have s1 := Same.upd (o := .lst [.int 4]) n1
              have s2 := Same.upd (o := .tup [.int 4]) n2
              have s3 := Same.upd (o := .dK []) n3
              have s4 := Same.upd (o := .lst []) n4
              have s5 := Same.upd (o := .tup []) n5
              have s6 := Same.upd (o := .lst [.non, .bl true, .bl false, .int (-1), .int (-4), .str "4", .ref l1, .ref t1, .ref d1, .ref l2, .ref t2, .str ""]) nP
              have k1 := (((s2.trans s3).trans s4).trans s5).trans s6 _ _ (upd_same (a := l1))
              have k2 := ((s3.trans s4).trans s5).trans s6 _ _ (upd_same (a := t1))
              have k3 := (s4.trans s5).trans s6 _ _ (upd_same (a := d1))
              have k4 := s5.trans s6 _ _ (upd_same (a := l2))
              have k5 := s6 _ _ (upd_same (a := t2))
              have m2 := s1.free n2
              have m3 := (s1.trans s2).free n3
              have m4 := ((s1.trans s2).trans s3).free n4
              have m5 := (((s1.trans s2).trans s3).trans s4).free n5
              have m6 := ((((s1.trans s2).trans s3).trans s4).trans s5).free nP
              have sAll := ((((s1.trans s2).trans s3).trans s4).trans s5).trans s6
              obtain ⟨ga, gw⟩ : H6 a ≠ none ∧ H6 lw ≠ none := by
                obtain ⟨⟨ws, cs, r, u, h1, h2, _⟩, _⟩ := id S6
                exact ⟨by rw [h1]; simp, by rw [h2]; simp⟩
              refine ⟨a, lw, lc, 500, LP, _, rfl, S6.same sAll, by decide, upd_same, fun z => gw (z ▸ m6), (by show 0 < 12; decide), (by show 12 ≤ 1000; decide), fun i x H7 hx S7 K7 => ?_⟩
              have hx1 := List.mem_of_getElem? hx
              have odd : OddV H7 x := by
                refine OddV.kp (H0 := H6) (a := a) (lw := lw) ?_ ?_ ga gw K7
                · simp only [List.mem_cons, List.not_mem_nil, or_false] at hx1
                  rcases hx1 with rfl | rfl | rfl | rfl | rfl | rfl | rfl | rfl | rfl | rfl | rfl | rfl
                  · exact .non
                  · exact .bl _
                  · exact .bl _
                  · exact .neg _ (by decide)
                  · exact .neg _ (by decide)
                  · exact .str _
                  · exact .lst k1
                  · exact .tup k2
                  · exact .dict k3
                  · exact .lst k4
                  · exact .tup k5
                  · exact .str _
                · intro r hr
                  subst hr
                  simp only [List.mem_cons, List.not_mem_nil, or_false, V.ref.injEq, reduceCtorEq, false_or] at hx1
                  rcases hx1 with rfl | rfl | rfl | rfl | rfl
                  · exact n1
                  · exact m2
                  · exact m3
                  · exact m4
                  · exact m5
              have hT7 : H7 tb = some (.tbl #[]) := K7 _ _ (sAll _ _ hT6) (by
                intro m
                rcases List.mem_cons.mp m with e | m
                · exact nta e
                · exact ntw (List.mem_singleton.mp m))
              clear hx hx1 K7 S7 sAll k1 k2 k3 k4 k5 s1 s2 s3 s4 s5 s6 m2 m3 m4 m5 m6
              -- if not isinstance(_law_caught(lambda: downsquares(odd)), BadCount)
              obtain ⟨ki, kb, kd, kc⟩ := odd.kind (K := K)
              refine ⟨fun p hp => by rw [List.mem_singleton.mp hp]; exact TabS.nil hT7, fun H8 e8 T8 => ?_⟩
              obtain ⟨ki, kb, kd, kc⟩ := (odd.ext e8).kind (K := K)
              refine ⟨_, rfl, x, ki, kb, rfl, kd, .inr ⟨kc, true, Z.ex, fun _ ea na => ?_, fun z => by cases z⟩⟩
              refine ⟨ea, CB, none, .ref CB, .ref CB, true, rfl, upd_same, rfl, Z.cB, .own CB, kit_self _, true, rfl, ?_⟩
              refine iteF ?_
              have odd9 := (odd.ext e8).ext (ExtN.of (Same.upd (o := Caught (.ref CB) none ea) na))
              have T9 := T8.ext (Same.upd (o := Caught (.ref CB) none ea) na)
              generalize L2.upd H8 ea (Caught (.ref CB) none ea) = H9 at odd9 T9
              clear T8 e8 odd kd kc hT7 na
              -- for worse in [odd, 11, -1, None]
              refine ⟨_, rfl, _, rfl, (by show 4 ≤ sizeLine; decide), fun W nW => ⟨W, rfl, ⟨_, SqL.of upd_same⟩, ?_⟩⟩
              have hW : (L2.upd H9 W (.lst [x, .int 11, .int (-1), .non])) W = some (.lst [x, .int 11, .int (-1), .non]) := upd_same
              have oddW := odd9.ext (ExtN.of (Same.upd (o := .lst [x, .int 11, .int (-1), .non]) nW))
              have TW := T9.ext (Same.upd (o := .lst [x, .int 11, .int (-1), .non]) nW)
              show ∃ W' : Nat → Nat → L2.St → Hp → Prop, (∃ m, W' 0 m _ (L2.upd H9 W (.lst [x, .int 11, .int (-1), .non]))) ∧ _
              generalize L2.upd H9 W (.lst [x, .int 11, .int (-1), .non]) = HW at hW oddW TW
              refine for_list (K := K) (a := W) (xs := [x, .int 11, .int (-1), .non]) (fun i σ H' => ∃ v10 : Option V, σ = [some (.ref sa), some (.ref a), some (.ref ll), v3, v4, some (.ref LS), none, v7, v8, some x, v10] ∧ Tabs [(tb, lamQ)] H' ∧ ExtN HW H')
                ⟨none, rfl, TW, ExtN.refl _⟩ (fun i σ H' _ ⟨_, _, _, e⟩ => SqL.of (e _ _ hW fun _ q => by cases q)) ?_ ?_
              · rintro i y σ H10 hi ⟨v10, rfl, T10, e10⟩
                have cond : ∀ H', ExtN HW H' → ∃ i b, Kind K H' y i b ∧ ((i && !b) = false ∨ ∃ z : Int, y = .int z ∧ (z < 0 ∨ 10 < z)) := by
                  intro H' e'
                  have hy := List.mem_of_getElem? hi
                  simp only [List.mem_cons, List.not_mem_nil, or_false] at hy
                  rcases hy with rfl | rfl | rfl | rfl
                  · obtain ⟨i, b, kd, kc⟩ := (oddW.ext e').kind (K := K)
                    exact ⟨i, b, kd, kc.imp id fun ⟨z, e, h⟩ => ⟨z, e, .inl h⟩⟩
                  · exact ⟨_, _, Kind.int _, .inr ⟨_, rfl, .inr (by decide)⟩⟩
                  · exact ⟨_, _, Kind.int _, .inr ⟨_, rfl, .inl (by decide)⟩⟩
                  · exact ⟨_, _, Kind.non, .inl rfl⟩
                refine ⟨T10, fun H8 e8 T8 => ?_⟩
                obtain ⟨ki, kb, kd, kc⟩ := cond H8 (e10.trans e8)
                refine ⟨_, rfl, rfl, y, ki, kb, rfl, kd, .inr ⟨kc, true, Z.ex, fun _ ea na => ?_, fun z => by cases z⟩⟩
                refine ⟨ea, CB, none, .ref CB, .ref CB, true, rfl, upd_same, rfl, Z.cB, .own CB, kit_self _, true, rfl, ?_⟩
                refine iteF ?_
                exact ⟨_, rfl, T8.ext (Same.upd na), (e10.trans e8).trans (ExtN.of (Same.upd na))⟩
              · rintro σ H10 ⟨v10, rfl, T10, e10⟩
                refine ⟨T10, fun H8 e8 T8 => ?_⟩
                refine ⟨_, rfl, rfl, .int (-1), true, false, rfl, Kind.int _, .inr ⟨.inr ⟨_, rfl, by decide⟩, true, Z.ex, fun _ ea na => ?_, fun z => by cases z⟩⟩
                exact ⟨ea, CB, none, .ref CB, .ref CB, true, rfl, upd_same, rfl, Z.cB, .own CB, kit_self _, k _⟩
end
end Own
set_option Elab.async false
set_option linter.all false
set_option maxRecDepth 100000
set_option maxHeartbeats 0
namespace Own
open PySem PySem.Spec PyProof.Rows L2 LamX
/-! ### the head: what the top has left -/
def dF (x : Str) (st : Stmt) : He.DefD := ⟨(x, none), x, x, defArgs st, defBody st, defScope st, [], []⟩
def fn : List He.DefD := [dF "law" sLaw, dF "is_whole" sWhole, dF "downsquares" sDown, dF "least_with" sLeast, dF "_law_begun" sBegun, dF "_law_stirred" sStir, dF "_law_draw" sDraw, dF "_law_pick" sPick, dF "_law_caught" sCaught, dF "_law_is_whole" sLWhole, dF "_law_falls" sFalls, dF "_law_lows" sLows, dF "_law_some_whole" sSome]
def fa : List He.Fa := [.free "isinstance", .free "int", .free "bool", .free "abs", .free "len", .free "range", .free "list", .free "max", .free "min", .free "enumerate",
  .glo "law", .glo "is_whole", .glo "downsquares", .glo "least_with", .glo "_law_begun", .glo "_law_stirred", .glo "_law_draw", .glo "_law_pick", .glo "_law_caught", .glo "_law_is_whole", .glo "_law_falls", .glo "_law_lows", .glo "_law_some_whole",
  .glo "BadCount", .glo "RulerError", .exc "BadCount", .exm "BadCount" "RulerError" true]
def excCB (K : PySem.W.Frag) (D : Addr) : Bool := He.eqO (PySem.W.findIn K (.ref D) "__getattribute__") (some (some (.builtin "BaseException.__getattribute__"))) && (He.eqO (PySem.W.findIn K (.ref D) "__getattr__") (some none) && (decide (PySem.W.subIn K (.ref D) (.type "BaseException") = some true) &&
  (PySem.W.hasDictIn K D && (He.eqO (PySem.W.findIn K (.ref D) "__class__") (some (some (.builtin "object.__class__"))) && (He.eqO (PySem.W.specialIn K (.builtin "object.__class__") "__get__") (some (some (.builtin "getset_descriptor.__get__"))) &&
  (decide (PySem.W.takesIn K (.builtin "object.__class__") = some true) && decide (PySem.W.mroIn K D (.type "object") = some true)))))))
theorem excC_of {K : PySem.W.Frag} {D : Addr} (h : excCB K D = true) : ExcC K D := by
  obtain ⟨h1, h⟩ := He.ba h
  obtain ⟨h2, h⟩ := He.ba h
  obtain ⟨h3, h⟩ := He.ba h
  obtain ⟨h4, h⟩ := He.ba h
  obtain ⟨h5, h⟩ := He.ba h
  obtain ⟨h6, h⟩ := He.ba h
  obtain ⟨h7, h8⟩ := He.ba h
  exact ⟨He.eqO_ok h1, He.eqO_ok h2, of_decide_eq_true h3, h4, He.eqO_ok h5, He.eqO_ok h6, of_decide_eq_true h7, of_decide_eq_true h8⟩
def ex (K : PySem.W.Frag) : Bool := He.eqO (PySem.W.nsIn K mainGlobals "isqrt") (some (some (.builtin "math.isqrt"))) && excCB K (He.ga K "BadCount")
abbrev LW : PySem.W.OpenLaw := PySem.Challenge.rw_rulerchest_k53_greatest_squares_first
abbrev RW : PySem.W.OpenRow := PySem.W.OpenLaw.row PySem.Challenge.rw_rulerchest_k53_greatest_squares_first
abbrev hk : PySem.W.Hook := He.hookX 5 fa fn [] [("law", none)] ex
def ob (s : PySem.W.SharedT) : He.AlX := He.obsX 5 fa fn [] [("law", none)] ex (HandSHeadRun.getT s)
theorem ob_eq (s : PySem.W.SharedT) : ob s = hk.obs s.abs := He.obsX_eq (HandSHeadRun.getT_eq s)
def loose : List Str := ["RulerError", "BadCount", "is_whole", "downsquares", "least_with", "_law_begun", "_law_stirred", "_law_draw", "_law_pick", "_law_caught", "_law_is_whole", "_law_falls", "_law_lows", "_law_some_whole"]
theorem run (w : World) : HandSHeadRun.RunEqI RW (PySem.W.view RW.prog [0, 19]) hk ob 6000 loose w := by
  unfold HandSHeadRun.RunEqI
  kernel_rfl
theorem facts {w : World} {K : PySem.W.Frag} {h : Heap} {mg : Str → Option Value} {f : Addr} (X : K.In h) (G : h.Ns mainGlobals mg) (hfa : mg ("law" : Str) = some (.ref f)) (c : He.SaysX fa fn [] [("law", none)] ex w h K) : LawAtS LW w K CX0 7 63 "_law_script" mg f h := by
  have d := c.t.d
  have gl : ∀ x : Str, He.Fa.glo x ∈ fa → mg x = some (.ref (He.ga K x)) := fun x hx => He.glo_ok X G (d.facts hx)
  have fr : ∀ x : Str, He.Fa.free x ∈ fa → mg x = none := fun x hx => He.free_ok X G (d.facts hx)
  have df : ∀ (x : Str) (st : Stmt), dF x st ∈ fn → ∃ fd, FnP K x st (He.ga K x) fd := fun x st hx => d.defs hx
  obtain ⟨m1, m2⟩ := He.ba c.more
  obtain ⟨dL, FL⟩ := df "law" sLaw (by simp [fn])
  obtain ⟨dW, FW⟩ := df "is_whole" sWhole (by simp [fn])
  obtain ⟨dDn, FDn⟩ := df "downsquares" sDown (by simp [fn])
  obtain ⟨dLe, FLe⟩ := df "least_with" sLeast (by simp [fn])
  obtain ⟨dB, FB⟩ := df "_law_begun" sBegun (by simp [fn])
  obtain ⟨dSt, FSt⟩ := df "_law_stirred" sStir (by simp [fn])
  obtain ⟨dD, FD⟩ := df "_law_draw" sDraw (by simp [fn])
  obtain ⟨dP, FP⟩ := df "_law_pick" sPick (by simp [fn])
  obtain ⟨dC, FC⟩ := df "_law_caught" sCaught (by simp [fn])
  obtain ⟨dLW, FLW⟩ := df "_law_is_whole" sLWhole (by simp [fn])
  obtain ⟨dFa, FF⟩ := df "_law_falls" sFalls (by simp [fn])
  obtain ⟨dLo, FLo⟩ := df "_law_lows" sLows (by simp [fn])
  obtain ⟨dSo, FSo⟩ := df "_law_some_whole" sSome (by simp [fn])
  have e := hfa.symm.trans (gl "law" (by simp [fa]))
  cases e
  obtain ⟨x1, x2, x3, x4⟩ := He.exc_ok (d.facts (f := .exc "BadCount") (by simp [fa]))
  have Z : All K mg (He.ga K "is_whole") (He.ga K "downsquares") (He.ga K "least_with") (He.ga K "_law_begun") (He.ga K "_law_stirred") (He.ga K "_law_draw") (He.ga K "_law_pick") (He.ga K "_law_caught") (He.ga K "_law_is_whole") (He.ga K "_law_falls") (He.ga K "_law_lows") (He.ga K "_law_some_whole") (He.ga K "BadCount") (He.ga K "RulerError") dW dDn dLe dB dSt dD dP dC dLW dFa dLo dSo :=
    { t := ⟨fr _ (by simp [fa]), fr _ (by simp [fa]), fr _ (by simp [fa]), fr _ (by simp [fa]), fr _ (by simp [fa]), fr _ (by simp [fa]), fr _ (by simp [fa]), fr _ (by simp [fa]), fr _ (by simp [fa]), fr _ (by simp [fa])⟩
      isq := PySem.W.mg_of X G (He.eqO_ok m1), eB := ⟨gl _ (by simp [fa]), x1, x2, x3, x4⟩, cB := excC_of m2, gR := gl _ (by simp [fa]), ex := He.exm_ok (d.facts (f := .exm "BadCount" "RulerError" true) (by simp [fa]))
      W := FW, gW := gl _ (by simp [fa]), Dn := FDn, gDn := gl _ (by simp [fa]), Le := FLe, gLe := gl _ (by simp [fa]), B := FB, gB := gl _ (by simp [fa]), St := FSt, gSt := gl _ (by simp [fa]), D := FD, gD := gl _ (by simp [fa]), P := FP, gP := gl _ (by simp [fa])
      C := FC, gC := gl _ (by simp [fa]), LW := FLW, gLW := gl _ (by simp [fa]), F := FF, gF := gl _ (by simp [fa]), Lo := FLo, gLo := gl _ (by simp [fa]), So := FSo, gSo := gl _ (by simp [fa]) }
  have b := FunD.bindsA (ps := ["_law_script"]) FL fun _ _ _ _ _ _ us hl => match us, hl with | [_], _ => rfl
  have tm : (("law" : Str), (none : Option Str)) ∈ ([("law", none)] : List (Str × Option Str)) := List.mem_cons_self
  refine ⟨dL, [He.cT K ("law", none)], spLaw K (He.cT K ("law", none)).2, fun p hp => ?_, fun p hp => ?_, fun p hp => ?_, fun s v => b s [v] rfl, fun H a ns hl _ hT hS => ⟨a, ns, rfl, hS, hl, hT _ List.mem_cons_self, fun _ => rfl⟩, fun base hK hG hTB => ?_⟩
  · rw [List.mem_singleton.mp hp]
    exact c.empty _ tm
  · rw [List.mem_singleton.mp hp]
    exact c.out _ tm
  · rw [List.mem_singleton.mp hp]
    exact PySem.W.codeHd_of_K X (c.hd _ tm)
  · exact ok_law FL rfl Z _ (hTB _ List.mem_cons_self)
end Own
open PySem PySem.W PySem.Calls PyProof.Rows
theorem PySem.Challenge.cw_rulerchest_k53_greatest_squares_first_holds : PySem.Challenge.rw_rulerchest_k53_greatest_squares_first.Holds := by
  w_on; o_law
  refine HandSHeadRun.head_imp (r := OpenLaw.row PySem.Challenge.rw_rulerchest_k53_greatest_squares_first) (q := view (OpenLaw.row PySem.Challenge.rw_rulerchest_k53_greatest_squares_first).prog [0, 19]) (H := Own.hk) (ob := Own.ob) (M := 6000) (loose := Own.loose) (d := HandSHeadRun.topDef (OpenLaw.row PySem.Challenge.rw_rulerchest_k53_greatest_squares_first).prog 19) (kwd := []) Own.ob_eq
    Own.run (by kernel_rfl) (by kernel_rfl) (by kernel_rfl) (by rfl) (by first | assumption | decide +kernel) (by decide +kernel) ⟨rfl, rfl, rfl, rfl, rfl, by decide +kernel⟩ ?hw ?hc
  case hw => w_witness2
  case hc =>
    refine LamX.walk_ofTsE (l := PySem.Challenge.rw_rulerchest_k53_greatest_squares_first) (n := 63) (k := 7) (x := "_law_script") (CX := fun _ => L2.CX0) rfl (by decide) (by kernel_rfl) ⟨rfl, by decide, by decide⟩ ?F (fun _ _ _ _ _ z => z)
    intro w mg fa h Y G hmg0
    obtain ⟨K, KX, c⟩ := Y
    have hmg : mg ("law" : PySem.Str) = some (.ref fa) := by
      have e : (HandSHeadRun.topDef (OpenLaw.row PySem.Challenge.rw_rulerchest_k53_greatest_squares_first).prog 19).name = ("law" : PySem.Str) := by kernel_rfl
      rw [← e]
      exact hmg0
    exact ⟨K, KX, Own.facts KX G hmg c⟩
#print axioms PySem.Challenge.cw_rulerchest_k53_greatest_squares_first_holds
