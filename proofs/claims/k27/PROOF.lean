import PyProof.Rows.All
import Wide.All
import OpenK.AllK
import Wide.FinOn
import KE.KStateDown
import KE.KMathG
import HandS.ForMost
import HandS.Ends
import HandS.Exc
import HandS.ExcOwn
import HandS.ExcIs
import HandS.TryOnly
import HandS.Defaults
import HandS.Lambda
import HandS.EndBits
import HandS.EndTab
import HandS.IsInst
import HandS.Gcd
import HandS.Wide
import HandS.WideMore
import HandS.WordsExc
import HandS.Conv
import HandS.Flow
import HandS.Text
import HandS.Walk
import HandS.Steps
import HandS.More
import HandS.Dict
import KE.GoesEnum
import HandS.Iter
import HandS.HeadHook4
import HandS.Codes
import HandS.Style
import HandS.TupAny
import HandS.TupLe
import KE.KExcSuper
import KE.KSuper
import HandS.HeadHook1
import HandS.ExcField
import HandS.Replace
import HandS.ReplaceLit
import HandS.HeadWalk
import HandS.RaiseMore
import PyProof.ReprRoads
import HandS.DictComp
import HandS.Rev
import HandS.DeepEq
import PyProof.ReprLen
import HandS.Deep
import PyProof.P3Eq
import HandS.Set
import HandS.SetFor
import HandS.SetIn
import Lean
import KE.KNestM
import HandS.Head0
import HandS.Head1
import HandS.Head2
import HandS.Head3
import PySem.Challenge.RW_rulerchest_k27_what_a_name_hangs_on
set_option Elab.async false
set_option linter.all false
set_option maxRecDepth 100000
set_option maxHeartbeats 4000000
namespace Own
open PySem PySem.Spec PyProof.Rows L2 LamX
/-! ### a caught error that is kept as a value -/
/-- an exception object of the class cls (own dict at d) stands at a -/
def Caught (cls : Value) (d : Option Addr) (a : Addr) : HO := .ext fun h => ∃ oe : Obj, h.get? a = some oe ∧ Zc cls d oe ∧ ∃ vs, oe.data = .fields vs
theorem caught_ok {P : Program} {w : World} {H : Hp} {h : Heap} {a : Addr} {cls : Value} {d : Option Addr} {oe : Obj} (e : h.get? a = some oe) (z : Zc cls d oe) (k : ∃ vs, oe.data = .fields vs) : ObjOk P w H h a (Caught cls d a) :=
  ⟨⟨oe, e, z, k⟩, ⟨oe, e⟩, fun _ _ ⟨o1, e1, z1, k1⟩ st => ⟨o1, st _ e1, z1, k1⟩⟩
section
variable {X : Cx} {pins : List (Addr × Obj)}
/-- a new address gets known: nothing of the entry, no cell, no pin stands there -/
theorem note_new {σ : L2.St} {H : Hp} {s : Shared} {a : Addr} {u : HO} (I : Inv X pins σ H s) (na : H a = none) (n0 : X.s_0.heap.get? a = none) (nL : a ≠ X.env.locals) (nC : ∀ x c, X.env.cells.lookup x = some c → c ≠ a) (nP : ∀ p ∈ X.pn ++ pins, p.1 ≠ a)
    (new : ObjOk X.prog X.w (upd H a u) s.heap a u) : Inv X pins σ (upd H a u) s := by
  have apart : ∀ {b : Addr} {o : Obj}, X.s_0.heap.get? b = some o → b ≠ a := fun {b o} e z => by
    rw [z, n0] at e
    cases e
  refine ⟨I.ok, I.os, I.bare, ?_, I.loc, I.cell, ?_, ?_, ?_, ?_, I.len⟩
  · refine ⟨I.base.keep, I.base.slot, fun b o e n hx => ?_, I.base.there, fun b xs e => ?_, fun b o xs e => ?_, fun b ps e => ?_⟩
    · rw [upd_ne (apart e)]
      exact I.base.free b o e n hx
    · have q := I.base.tups b xs e
      rw [upd_ne (ne_of_none q na)]
      exact q
    · have q := I.base.frzs b o xs e
      rw [upd_ne (ne_of_none q na)]
      exact q
    · obtain ⟨more, q⟩ := I.base.tbls b ps e
      exact ⟨more, by rw [upd_ne (ne_of_none q na)]; exact q⟩
  · rw [upd_ne nL.symm]
    exact I.free
  · intro x c e
    rw [upd_ne (nC x c e)]
    exact I.freeC x c e
  · intro p hp
    obtain ⟨h1, h2, h3⟩ := I.pin p hp
    exact ⟨h1, by rw [upd_ne (nP p hp)]; exact h2, h3⟩
  · intro b o e
    by_cases hb : b = a
    · subst hb
      rw [upd_same] at e
      cases e
      exact new
    · rw [upd_ne hb] at e
      exact (I.hok b o e).stay (fun c v _ q => q) (fun c q => by rw [upd_ne (ne_of_none q na)]; exact q) fun c xs q => by rw [upd_ne (ne_of_none q na)]; exact q
/-- what is wished of an error that the clause takes and keeps -/
def wKeep (K : PySem.W.Frag) (c : Value) (i : Nat) (ts : Addr → Value → Option Addr → TS) (D : Ends) : WX := fun cls d σ H =>
  ∃ b, PySem.W.exmOne K cls c = some b ∧ (b = true → ∀ a, H a = none → ts a cls d { nx := fun σ' H' => H' a = none → D.nx (σ'.set i none) (upd H' a (Caught cls d a)), rt := fun _ _ => False } (σ.set i (some (.ref a))) H) ∧ (b = false → False)
/-- try: body / except x as n: suite, the error being known behind it; every error is of that class -/
theorem ps_try_keep {x n : Str} {c : Value} {i : Nat} {body suite : List Stmt} {b0 : Stmt} {np pos pos1 : Pos} {tb : WX → TS} {ts : Addr → Value → Option Addr → TS}
    (hs : X.stack = X.env :: X.outer) (hex : X.ex = []) (hf : X.env.frame = some X.env.locals) (hN : X.N.Nodup) (hi : X.N[i]? = some n) (hln : X.env.kindOf n = some .local) (hc : Names X x c)
    (hb : ∀ (W : WX) (pn : List (Addr × Obj)) (xe : Value → Shared → Prop), Takes (X.tr pn xe) W → PassesOwn (model X.prog X.w) X.A X.env xe → PSs (X.tr pn xe) body (tb W))
    (hsu : ∀ (a : Addr) (oe : Obj) (cls : Value) (d : Option Addr) (pn : List (Addr × Obj)), Zc cls d oe → (∃ vs, oe.data = .fields vs) → PSs (X.suite a ((a, oe) :: pn)) (b0 :: suite) (ts a cls d)) :
    PS X (.Try body [.ExceptHandler (some (.Name x np)) (some n) (b0 :: suite) pos1] [] [] pos) (fun D σ H => tb (wKeep X.K c i ts D) D σ H) := by
  constructor
  intro pins s σ H D I h
  have ok := I.ok
  have frm : X.A.frames = some (X.env :: X.outer) := ok.frames.trans (congrArg some hs)
  refine wpAny_Try_except (wpAny_mono (hb (wKeep X.K c i ts D) (X.pn ++ pins) (fun e t1 => wpAny (model X.prog X.w) X.A (noteFrame e X.env) (fun _ t2 => wpAny (model X.prog X.w) X.A (setFlight e none) (fun _ t3 =>
    wpAny (model X.prog X.w) X.A (handleBy e X.env [.ExceptHandler (some (.Name x np)) (some n) (b0 :: suite) pos1]) (SP X pins D) X.xe t3) X.xe t2) X.xe t1) (fun u t hx => ?_) PassesOwn.looking |>.run [] s σ H D (I.toTry _) h) (fun fl t hq => ?_) (fun _ _ he => he))
  · obtain ⟨a, B, s2, p2, σ2, H2, cls, d, rfl, Jt, nb, up, sky, na, os, ag, b, hb1, hyes, hno⟩ := hx
    have J : Inv X pins σ2 H2 s2 := Jt.ofTry ok
    rw [hs] at sky
    refine Sky.land Zc.steady frm hf sky fun h3 fl3 up3 => ?_
    have J3 : Inv X pins σ2 H2 { t with heap := h3 } := J.landed nb fl3.1 (up.trans up3) os ag
    obtain ⟨oe3, vs3, he3, hz3, hd3⟩ := fl3.there
    have out : a ∉ frs (X.env :: X.outer) := fun hm => by
      obtain ⟨_, o1, e1, no⟩ := fl3.2.2.1.mem hm
      rw [he3] at e1
      cases e1
      exact no _ hd3
    have nL : a ≠ X.env.locals := fun z => out (List.mem_filterMap.mpr ⟨X.env, List.mem_cons_self, by rw [hf, z]⟩)
    have nF : a ∉ X.fs := fun hm => by
      obtain ⟨e1, he1, q⟩ := List.mem_filterMap.mp hm
      exact out (List.mem_filterMap.mpr ⟨e1, List.mem_cons_of_mem _ he1, q⟩)
    -- nothing stood at a when the body was entered
    have nB : B.get? a = none := fl3.2.1
    have n2 : s2.heap.get? a = none := by
      cases q : s2.heap.get? a with
      | none => rfl
      | some o =>
        have z := nb a o q (by rw [hs]; exact out)
        rw [nB] at z
        cases z
    have n0 : X.s_0.heap.get? a = none := by
      cases q : X.s_0.heap.get? a with
      | none => rfl
      | some o =>
        obtain ⟨o1, q1⟩ := J.base.there a o q (by rw [hex]; exact List.not_mem_nil)
        rw [n2] at q1
        cases q1
    have nC : ∀ y c, X.env.cells.lookup y = some c → c ≠ a := fun y c e z => by
      obtain ⟨v, o, q, _⟩ := J.cell y c e
      rw [z, n2] at q
      cases q
    have nP : ∀ p ∈ X.pn ++ pins, p.1 ≠ a := fun p hp z => by
      have q := (J.pin p hp).1
      rw [z, n2] at q
      cases q
    refine wpAny_handleBy_cons (codeAny_handlers_test ?_) (fun z => nomatch z)
    have inS := J3.suite he3 hd3 na nL nF
    have asked : ∀ {Q E : Value → Shared → Prop}, Q c { t with heap := h3 } → wpAny (model X.prog X.w) (X.A.mark (some (.ref a))) (eval (.Name x np) X.env) Q E { t with heap := h3 } := fun {Q E} q => by
      obtain ⟨hg, hdbg, hm⟩ := hc
      rcases hm with hm | ⟨hm, hv, hnn⟩
      · exact ld_glob (X := X.suite a ((a, oe3) :: (X.pn ++ pins))) inS hg hm q hdbg
      · exact ld_blt (X := X.suite a ((a, oe3) :: (X.pn ++ pins))) inS hg hm hv q hnn hdbg
    have kind : PySem.W.Looks (model X.prog X.w) h3 (typeOf (.ref a)) cls := fun A Q E s k q => wpAny_typeOf_ref (k _ _ he3) (by rw [hz3.1]; exact q)
    refine asked ((PySem.W.exm_one (M := model X.prog X.w) (J3.kIn) kind hb1).here ?_)
    cases b with
    | false => exact (hno rfl).elim
    | true =>
      refine codeAny_handlers_suite_as (HandSPX.lands_againZ fl3 fun h4 fl4 up4 => ?_)
      have J4 : Inv X pins σ2 H2 { t with heap := h4 } := J.landed nb fl4.1 ((up.trans up3).trans up4) os ag
      obtain ⟨oe4, vs4, he4, hz4, hd4⟩ := fl4.there
      refine store_ok (X := X.suite a ((a, oe4) :: (X.pn ++ pins))) (v := .ref a) (J4.suite he4 hd4 na nL nF) hN hi (.inl hln) rfl (fun s5 S5 => ?_) (.inr hln)
      refine wpAny_mono ((hsu a oe4 cls d (X.pn ++ pins) hz4 ⟨_, hd4⟩).run [] s5 _ H2 _ S5 (hyes rfl a na)) (fun fl s6 hsp => ?_) (fun _ _ z => False.elim z)
      cases fl with
      | next =>
        obtain ⟨σ6, H6, S6, q6⟩ := hsp
        refine gone_ok (X := X.suite a ((a, oe4) :: (X.pn ++ pins))) S6 hN hi hln fun s7 S7 => ?_
        obtain ⟨e7, n7, _⟩ := S7.pin (a, oe4) (List.mem_append.mpr (.inl List.mem_cons_self))
        exact ⟨_, _, note_new (S7.unsuite ok) n7 n0 nL nC nP (caught_ok e7 hz4 ⟨_, hd4⟩), q6 n7⟩
      | brk =>
        obtain ⟨_, _, _, q6⟩ := hsp
        exact False.elim q6
      | cont =>
        obtain ⟨_, _, _, q6⟩ := hsp
        exact False.elim q6
      | ret u =>
        obtain ⟨_, _, _, _, _, q6⟩ := hsp
        exact False.elim q6
  · cases fl with
    | next =>
      obtain ⟨σ2, H2, J, q⟩ := hq
      exact wpAny_execs_nil ⟨σ2, H2, J.ofTry ok, q⟩
    | brk =>
      obtain ⟨σ2, H2, J, q⟩ := hq
      exact ⟨σ2, H2, J.ofTry ok, q⟩
    | cont =>
      obtain ⟨σ2, H2, J, q⟩ := hq
      exact ⟨σ2, H2, J.ofTry ok, q⟩
    | ret u =>
      obtain ⟨v, σ2, H2, J, r, q⟩ := hq
      exact ⟨v, σ2, H2, J.ofTry ok, r, q⟩
end
theorem tk_len {X : Cx} {W : WX} (tk : Takes X W) {n : Nat} (hn : X.N.length = n) : Takes X (fun cls d σ H => σ.length = n → W cls d σ H) := fun u s' ⟨a, B, sI, pins, σ, H, cls, d, e, I, h1, h2, h3, h4, h5, h6, w⟩ =>
  tk u s' ⟨a, B, sI, pins, σ, H, cls, d, e, I, h1, h2, h3, h4, h5, h6, w (I.len.trans hn)⟩
/-- isinstance(e, c), e an error that was caught and kept, c an own class; or a value of a known kind -/
def rIsX (K : PySem.W.Frag) : List V → Hp → VK → Prop := fun xs H Q => ∃ (a D : Addr) (dd : Option Addr) (c : V) (cv : Value) (b : Bool), xs = [.ref a, c] ∧ H a = some (Caught (.ref D) dd a) ∧ dd = none ∧ ExcC K D ∧ ClsV c cv ∧ PySem.W.kitOne K (.ref D) cv = some b ∧ Q (.bl b) H
theorem call_isX {X : Cx} : CallR X (.builtin "isinstance") (rIsX X.K) := by
  intro pins s σ H xs us Q I r h
  obtain ⟨a, D, dd, c, cv, b, rfl, ha, rfl, C, k, e, q⟩ := h
  obtain ⟨u1, u2, rfl, r1, r2⟩ := vals2 r
  have e2 := k.eq r2
  subst e2
  cases (show u1 = Value.ref a from r1)
  obtain ⟨⟨oe, ho, hz, vs, hv⟩, _, _⟩ := I.hok a _ ha
  have J : PySem.W.InstAt s.heap a oe D none := by
    obtain ⟨oc, od, oda, osl⟩ := oe
    obtain ⟨h1, h2⟩ := hz
    dsimp only at h1 h2 hv
    subst h1 h2 hv
    exact ⟨ho, rfl, rfl, trivial⟩
  exact PySem.W.kia_one (PySem.W.handS_kitx_exc C.hg C.hk C.hs C.hd C.ha C.hn C.ht C.hm) I.kIn J e (fun z => nomatch z) fun tk => ⟨.bl b, H, I.tok tk, rfl, q⟩
/-- f(e, ..) by either of two readings -/
theorem CallR.either {X : Cx} {f : Value} {r1 r2 : List V → Hp → VK → Prop} (h1 : CallR X f r1) (h2 : CallR X f r2) : CallR X f (fun xs H Q => r1 xs H Q ∨ r2 xs H Q) := by
  intro pins s σ H xs us Q I r h
  rcases h with h | h
  · exact h1 pins s σ H xs us Q I r h
  · exact h2 pins s σ H xs us Q I r h
/-! ### the law's own catcher: found = None; try: action() / except E as error: found = error; return found -/
def TKeep (K : PySem.W.Frag) (CS : Addr) : (XK → Hp → VK → Prop) → Hp → VK → Prop := fun tl H Q =>
  tl (fun cls d H' => ∃ b, PySem.W.exmOne K cls (.ref CS) = some b ∧ (b = true → ∀ a, H' a = none → Q (.ref a) (upd H' a (Caught cls d a))) ∧ (b = false → False)) H (fun _ H' => ∃ v, (some (some V.non) : Option (Option V)) = some (some v) ∧ Q v H')
theorem keep_gives {X : Cx} {Ng : List Str} {x a e n f q : Str} {sg : Scope} {g CS : Addr} {cdg : Value} {k1 : Nat} {p1 p2 p3 p4 p5 p6 p7 p8 p9 p10 p11 p12 p13 p14 : Pos}
    (hN : Ng = [a, f, n]) (nd : Ng.Nodup) (hlf : sg.names.lookup f = some .local) (hln : sg.names.lookup n = some .local) (hge : sg.names.lookup e = some .globalImplicit) (hme : X.mg e = some (.ref CS)) (hde : (e == ("__debug__" : Str)) = false)
    (hdf : (f == ("__debug__" : Str)) = false) (hcf : (f == ("__classdict__" : Str)) = false) (hdn : (n == ("__debug__" : Str)) = false) (hcn : (n == ("__classdict__" : Str)) = false) :
    GivesTo X Ng x sg g cdg [.Assign [.Name f p1] (.Constant .none k1 p2) p3, .Try [.Expr (.Call (.Name a p4) [] [] p5) p6] [.ExceptHandler (some (.Name e p7)) (some n) [.Assign [.Name f p8] (.Name n p9) p10] p11] [] [] p12, .Return (some (.Name f p13)) p14] a q (TKeep X.K CS) := by
  subst hN
  intro fa c' s H Q tl act hc h
  have hgl : Gl (cxOf C8.CX0 X.prog X.w X.K X.mg X.base [a, f, n] x sg g cdg X.A X.stack s H C8.E0).nox e := hge
  refine ⟨_, pss_cons (ps_set (X := (cxOf C8.CX0 X.prog X.w X.K X.mg X.base [a, f, n] x sg g cdg X.A X.stack s H C8.E0).nox) (i := 1) nd rfl (Or.inl hlf) pe_non (hf := Or.inr hlf))
    (pss_cons (ps_try_keep (X := (cxOf C8.CX0 X.prog X.w X.K X.mg X.base [a, f, n] x sg g cdg X.A X.stack s H C8.E0).nox) (i := 2) (c := .ref CS)
      (tb := fun W D σ H => ∃ Ech : XK, (∀ cls d σ' H', Ech cls d H' → σ'.length = 3 → W cls d σ' H') ∧ σ[0]? = some (some (.ref fa)) ∧ H c' = some (CodeO c' q) ∧ tl Ech H fun _ H1 => D.nx σ H1)
      (ts := fun a cls d => tAsg (tVar 2) (gName 1))
      rfl rfl rfl nd rfl hln ⟨hgl, hde, .inl hme⟩ (fun W pn xe tk _ => ?_) (fun a oe cls d pn _ _ => pss_one (ps_set (i := 1) nd rfl (Or.inl hlf) (pe_var rfl (Or.inl hln) hdn hcn) (hf := Or.inr hlf))))
    (pss_one (ps_ret (pe_var (i := 1) rfl (Or.inl hlf) hdf hcf)))), ?_⟩
  · refine ⟨fun pins s' σ H' D I h' => ?_⟩
    obtain ⟨Ech, hW, h1, h2, h3⟩ := h'
    have tk2 := tk_len tk (n := 3) rfl
    exact (pss_one (ps_expr (pos := p6) (act (fun cls d σ H => σ.length = 3 → W cls d σ H) pn xe Ech p4 p5 tk2 hW))).run pins s' σ H' D I ⟨h1, h2, h3⟩
  · refine ⟨fun cls d H' => ∃ b, PySem.W.exmOne X.K cls (.ref CS) = some b ∧ (b = true → ∀ a, H' a = none → Q (.ref a) (upd H' a (Caught cls d a))) ∧ (b = false → False), fun cls d σ' H' hE hl => ?_, rfl, hc, h⟩
    obtain ⟨b, e1, e2, e3⟩ := hE
    refine ⟨b, e1, fun hb a na => ?_, e3⟩
    match σ', hl with
    | [u1, u2, u3], _ => exact ⟨_, rfl, fun na => ⟨_, rfl, e2 hb a na⟩⟩
end Own
set_option Elab.async false
set_option linter.all false
set_option maxRecDepth 100000
set_option maxHeartbeats 4000000
namespace Own
open PySem PySem.Spec PyProof.Rows L2 LamX
/-! ### the text -/
def top (i : Nat) : Stmt := PySem.Challenge.pw_rulerchest_k27_what_a_name_hangs_on.main.body.getD i (.Pass ⟨0, 0, 0, 0⟩)
abbrev sWhole : Stmt := top 13
abbrev sName : Stmt := top 15
abbrev sLowest : Stmt := top 19
abbrev sRowsOf : Stmt := top 53
abbrev cTower : Stmt := top 54
abbrev sNeedT : Stmt := top 55
abbrev cNumber : Stmt := top 59
abbrev sFrac : Stmt := top 60
abbrev sSheet : Stmt := top 62
abbrev sDeed : Stmt := top 67
abbrev sNeedD : Stmt := top 68
abbrev sNames : Stmt := top 69
abbrev sTool : Stmt := top 70
abbrev sDrawing : Stmt := top 71
abbrev sAreN : Stmt := top 73
abbrev sNeedN : Stmt := top 74
abbrev sNeedDr : Stmt := top 75
abbrev sGoes : Stmt := top 76
abbrev sSeq : Stmt := top 77
abbrev sChest : Stmt := top 78
abbrev sNeeded : Stmt := top 79
abbrev sBegun : Stmt := top 81
abbrev sStir : Stmt := top 82
abbrev sDraw : Stmt := top 83
abbrev sPick : Stmt := top 84
abbrev sShuf : Stmt := top 85
abbrev sLName : Stmt := top 86
abbrev sCaught : Stmt := top 87
abbrev sDNames : Stmt := top 88
abbrev sChain : Stmt := top 89
abbrev sForms : Stmt := top 90
abbrev sHasWay : Stmt := top 91
abbrev sLDeed : Stmt := top 92
abbrev sLGoes : Stmt := top 93
abbrev sNameDue : Stmt := top 94
abbrev sDeedDue : Stmt := top 95
abbrev sHung : Stmt := top 96
abbrev sNeedR : Stmt := top 97
abbrev sParts : Stmt := top 98
abbrev sChanged : Stmt := top 99
abbrev sLaw : Stmt := top 100
abbrev FnP (K : PySem.W.Frag) (x : Str) (st : Stmt) (f : Addr) (fd : FuncData) : Prop := FunD K x x (defArgs st) (defBody st) (defScope st) [] [] f fd
/-! ### kinds of values -/
/-- isinstance(x, int) is i, isinstance(x, bool) is b -/
def Kind (K : PySem.W.Frag) (H : Hp) (x : V) (i b : Bool) : Prop := ∃ t : String, TyX K H x (.type t) ∧ kitB t "int" = some i ∧ kitB t "bool" = some b
theorem Kind.int {K : PySem.W.Frag} {H : Hp} (z : Int) : Kind K H (.int z) true false := ⟨"int", .base (.int z), by decide +kernel, by decide +kernel⟩
theorem Kind.bl {K : PySem.W.Frag} {H : Hp} (z : Bool) : Kind K H (.bl z) true true := ⟨"bool", .base (.bl z), by decide +kernel, by decide +kernel⟩
theorem Kind.non {K : PySem.W.Frag} {H : Hp} : Kind K H .non false false := ⟨"NoneType", .base .non, by decide +kernel, by decide +kernel⟩
theorem Kind.str {K : PySem.W.Frag} {H : Hp} (z : Str) : Kind K H (.str z) false false := ⟨"str", .base (.str z), by decide +kernel, by decide +kernel⟩
theorem Kind.lst {K : PySem.W.Frag} {H : Hp} {a : Addr} {xs : List V} (e : H a = some (.lst xs)) : Kind K H (.ref a) false false := ⟨"list", .base (.lst e), by decide +kernel, by decide +kernel⟩
theorem Kind.tup {K : PySem.W.Frag} {H : Hp} {a : Addr} {xs : List V} (e : H a = some (.tup xs)) : Kind K H (.ref a) false false := ⟨"tuple", .base (.tup e), by decide +kernel, by decide +kernel⟩
theorem Kind.dict {K : PySem.W.Frag} {H : Hp} {a : Addr} {kvs : List (Key × V)} (e : H a = some (.dK kvs)) : Kind K H (.ref a) false false := ⟨"dict", .base (.dK e), by decide +kernel, by decide +kernel⟩
/-! ### what the walk asks of the module -/
structure Txt (K : PySem.W.Frag) (mg : Str → Option Value) : Prop where
  isi : mg "isinstance" = none
  int : mg "int" = none
  bool : mg "bool" = none
  str : mg "str" = none
  tuple : mg "tuple" = none
  abs : mg "abs" = none
  len : mg "len" = none
  range : mg "range" = none
  list : mg "list" = none
  min : mg "min" = none
  max : mg "max" = none
  enum : mg "enumerate" = none
  sorted : mg "sorted" = none
  dict : mg "dict" = none
  repr : mg "repr" = none
  reversed : mg "reversed" = none
  set : mg "set" = none
def spWhole (K : PySem.W.Frag) : Sp := fun vs H Q _ => ∃ x i b, vs = [x] ∧ Kind K H x i b ∧ Q (.bl (i && !b)) H
section
variable {P : Program} {w : World} {K : PySem.W.Frag} {mg : Str → Option Value} {base : Heap} {f : Addr} {fd : FuncData}
theorem scWhole : FnScope ["value"] ["value"] (defScope sWhole) := ⟨rfl, rfl, rfl, by decide +kernel, rfl, by decide +kernel, by decide +kernel⟩
theorem ok_whole (F : FnP K "is_whole" sWhole f fd) (T : Txt K mg) : FnOk P w K mg base CX0 1 f fd ["value"] (spWhole K) := by
  refine F.ok scWhole (fun vs H Q E h => ?_) (fun cdv A outer s H vs Q E hr h => ?_)
  · obtain ⟨x, i, b, rfl, _⟩ := h
    rfl
  · obtain ⟨x, i, b, rfl, ⟨t, ty, e1, e2⟩, k⟩ := h
    refine ⟨_, PSs.nox (pss_one (ps_ret (pe_and (pe_callB call_isi (by rfl) T.isi boot_isinstance (pa_cons (pv 0) (pa_cons (pe_bltn (v := .ty "int") (by rfl) T.int boot_int rfl) pa_nil)))
      (pe_one (pe_not (pe_callB call_isi (by rfl) T.isi boot_isinstance (pa_cons (pv 0) (pa_cons (pe_bltn (v := .ty "bool") (by rfl) T.bool boot_bool rfl) pa_nil)))))))), ?_⟩
    refine ⟨_, rfl, x, .ty "int", .type t, .type "int", i, rfl, .ty _, ty, kit_ty e1, i, rfl, ?_⟩
    cases i with
    | false =>
      refine iteF ?_
      exact k
    | true =>
      refine iteT ?_
      exact ⟨_, rfl, x, .ty "bool", .type t, .type "bool", b, rfl, .ty _, ty, kit_ty e2, b, rfl, k⟩
end
end Own
set_option Elab.async false
set_option linter.all false
set_option maxRecDepth 100000
set_option maxHeartbeats 4000000
namespace Own
open PySem PySem.Spec PyProof.Rows L2 LamX
theorem yes_if {σ : L2.St} {H : Hp} {A B : Hp → Prop} (h : A H) : tYes σ H (fun b H3 => if b = true then A H3 else B H3) := by
  show if true = true then A H else B H
  rw [if_pos rfl]
  exact h
/-! ### the law's draws: a state of two lists and two wholes -/
def stK (lw lc : Addr) (r u : Int) : List (Key × V) := [(.inr "wide", .ref lw), (.inr "cells", .ref lc), (.inr "rest", .int r), (.inr "turn", .int u)]
theorem stK_wide (lw lc : Addr) (r u : Int) : valV (stK lw lc r u) (.inr "wide") = some (.ref lw) := by kernel_rfl
theorem stK_cells (lw lc : Addr) (r u : Int) : valV (stK lw lc r u) (.inr "cells") = some (.ref lc) := by kernel_rfl
theorem stK_rest (lw lc : Addr) (r u : Int) : valV (stK lw lc r u) (.inr "rest") = some (.int r) := by kernel_rfl
theorem stK_turn (lw lc : Addr) (r u : Int) : valV (stK lw lc r u) (.inr "turn") = some (.int u) := by kernel_rfl
theorem stK_putRest (lw lc : Addr) (r u z : Int) : putK (stK lw lc r u) (.inr "rest") (.int z) = stK lw lc z u := by kernel_rfl
theorem stK_putTurn (lw lc : Addr) (r u z : Int) : putK (stK lw lc r u) (.inr "turn") (.int z) = stK lw lc r z := by kernel_rfl
theorem stK_new (lw lc : Addr) : mergeK [] (stK lw lc 0 0) = stK lw lc 0 0 := by kernel_rfl
theorem dget_k {H : Hp} {a : Addr} {kvs : List (Key × V)} (k : Key) {v : V} (h : H a = some (.dK kvs)) (e : valV kvs k = some v) : DGet H a (kV k) (some v) := e ▸ DGet.k h
theorem dput_k {H : Hp} {a : Addr} {kvs kvs' : List (Key × V)} (k : Key) {v : V} (h : H a = some (.dK kvs)) (hl : kvs.length < sizeLine) (e : putK kvs k v = kvs') : DPut H a (kV k) v (upd H a (.dK kvs')) := e ▸ DPut.k h hl
/-- the state at a, its turns being at most t -/
structure StA (H : Hp) (a lw lc : Addr) (t : Nat) : Prop where
  ex : ∃ (ws cs : List Int) (r u : Int), H a = some (.dK (stK lw lc r u)) ∧ H lw = some (.lst (ws.map V.int)) ∧ H lc = some (.lst (cs.map V.int)) ∧ 0 ≤ r ∧ 0 ≤ u ∧ u ≤ t ∧ (∀ z ∈ ws, 0 ≤ z) ∧ ws.length ≤ 63
  ne : lw ≠ lc
/-- all that was tracked is as it was, but for what stands at xs -/
def Kp (xs : List Addr) (H H' : Hp) : Prop := ∀ b o, H b = some o → b ∉ xs → H' b = some o
theorem Kp.refl (xs : List Addr) (H : Hp) : Kp xs H H := fun _ _ h _ => h
theorem Kp.trans {xs : List Addr} {H H1 H2 : Hp} (a : Kp xs H H1) (b : Kp xs H1 H2) : Kp xs H H2 := fun c o h n => b c o (a c o h n) n
theorem Kp.of {xs : List Addr} {H H' : Hp} (e : Same H H') : Kp xs H H' := fun b o h _ => e b o h
theorem Kp.upd {xs : List Addr} {H : Hp} {a : Addr} {o : HO} (h : a ∈ xs) : Kp xs H (L2.upd H a o) := fun b u e n => by
  rw [upd_ne (fun z => n (by rw [z]; exact h))]
  exact e
theorem Same.upd {H : Hp} {a : Addr} {o : HO} (h : H a = none) : Same H (L2.upd H a o) := fun b u e => by
  rw [upd_ne (ne_of_none e h)]
  exact e
theorem Kp.weak {xs ys : List Addr} {H H' : Hp} (a : Kp xs H H') (h : ∀ b ∈ xs, b ∈ ys) : Kp ys H H' := fun b o e n => a b o e fun z => n (h b z)
theorem StA.same {H H' : Hp} {a lw lc : Addr} {t : Nat} (S : StA H a lw lc t) (e : Same H H') : StA H' a lw lc t := by
  obtain ⟨⟨ws, cs, r, u, h1, h2, h3, h4⟩, ne⟩ := S
  exact ⟨⟨ws, cs, r, u, e _ _ h1, e _ _ h2, e _ _ h3, h4⟩, ne⟩
theorem StA.more {H : Hp} {a lw lc : Addr} {t t' : Nat} (S : StA H a lw lc t) (h : t ≤ t') : StA H a lw lc t' := by
  obtain ⟨⟨ws, cs, r, u, h1, h2, h3, h4, h5, h6, h7⟩, ne⟩ := S
  exact ⟨⟨ws, cs, r, u, h1, h2, h3, h4, h5, by omega, h7⟩, ne⟩
def spBegun (K : PySem.W.Frag) : Sp := fun vs H Q _ => ∃ (s : Addr) (ns : List Int), vs = [.ref s] ∧ SqL K H s (ns.map V.int) ∧ ns.length ≤ 63 ∧
  ∀ a lw lc H', H a = none → H lw = none → H lc = none → StA H' a lw lc 0 → Same H H' → Q (.ref a) H'
def spStir : Sp := fun vs H Q _ => ∃ (a lw lc : Addr) (t : Nat), vs = [.ref a] ∧ StA H a lw lc t ∧ t < 2 ^ 40 ∧
  ∀ z H', 0 ≤ z → StA H' a lw lc (t + 1) → Kp [a] H H' → Q (.int z) H'
def spDraw : Sp := fun vs H Q _ => ∃ (a lw lc : Addr) (t : Nat) (n : Int), vs = [.ref a, .int n] ∧ StA H a lw lc t ∧ t < 2 ^ 40 ∧ 0 < n ∧ n < 2 ^ 128 ∧
  ∀ z H', 0 ≤ z → z < n → StA H' a lw lc (t + 1) → Kp [a, lw] H H' → Q (.int z) H'
def spPick (K : PySem.W.Frag) : Sp := fun vs H Q _ => ∃ (a lw lc : Addr) (t : Nat) (l : Addr) (xs : List V), vs = [.ref a, .ref l] ∧ StA H a lw lc t ∧ t < 2 ^ 40 ∧ H l = some (.lst xs) ∧ l ≠ lw ∧ 0 < xs.length ∧ xs.length ≤ 1000 ∧
  ∀ (i : Nat) x H', xs[i]? = some x → StA H' a lw lc (t + 1) → Kp [a, lw] H H' → Q x H'
section
variable {P : Program} {w : World} {K : PySem.W.Frag} {mg : Str → Option Value} {base : Heap} {f fS fD : Addr} {fd fdS fdD : FuncData}
theorem scBegun : FnScope ["_law_script", "_law_wide", "_law_cell"] ["_law_script"] (defScope sBegun) := ⟨rfl, rfl, rfl, by decide +kernel, rfl, by decide +kernel, by decide +kernel⟩
theorem ok_begun (F : FnP K "_law_begun" sBegun f fd) (T : Txt K mg) : FnOk P w K mg base CX0 1 f fd ["_law_script"] (spBegun K) := by
  refine F.ok scBegun (fun vs H Q E h => ?_) (fun cdv A outer s H vs Q E hr h => ?_)
  · obtain ⟨x, i, rfl, _⟩ := h
    rfl
  · obtain ⟨x, ns, rfl, hS, hl, k⟩ := h
    refine ⟨_, PSs.nox (pss_cons (ps_setLc (i := 1) (own := [("_law_cell", 2)]) (g := gName 2) (by rfl) scBegun.nd rfl rfl (sw_true rfl rfl rfl (by decide +kernel)) (pi_list (pv 0)) (blkOk_by (own := [("_law_cell", 2)]) (N := ["_law_script", "_law_wide", "_law_cell"]) (sc := defScope sBegun) (by decide +kernel))
        (fun _ _ _ _ _ => pg_name (i := 2) scBegun.nd rfl (Or.inl rfl))
        (fun _ _ _ _ _ => pts_one (pt_cmpR op_ge (pe_callB call_abs (by rfl) T.abs (by decide +kernel) (pa_cons (pv 2) pa_nil)) (pe_op op_pow pe_int pe_int) (nomark _)))
        (fun _ _ _ _ _ => pe_op op_sub (pe_callB call_abs (by rfl) T.abs (by decide +kernel) (pa_cons (pv 2) pa_nil)) (pe_op op_pow pe_int pe_int)))
      (pss_one (ps_ret (pe_disp (pps_cons pe_str (pv 1) (pps_cons pe_str (pe_lc (own := [("_law_cell", 2)]) (g := gName 2) (tt := tYes) (by rfl) scBegun.nd (pi_list (pv 0)) (blkOk_by (own := [("_law_cell", 2)]) (N := ["_law_script", "_law_wide", "_law_cell"]) (sc := defScope sBegun) (by decide +kernel))
        (fun _ _ _ _ _ => pg_name (i := 2) scBegun.nd rfl (Or.inl rfl)) (fun _ _ _ _ _ => pts_nil) (fun _ _ _ _ _ => pe_callB call_abs (by rfl) T.abs (by decide +kernel) (pa_cons (pv 2) pa_nil)))
        (pps_cons pe_str pe_int (pps_cons pe_str pe_int pps_nil)))) (by rfl) (by rfl) (fun z => by cases z) (by decide))))), ?_⟩
    refine ⟨_, rfl, x, rfl, ⟨_, hS⟩, fun lw nw => ?_⟩
    have sw : ∀ o, Same H (L2.upd H lw o) := fun o => Same.upd nw
    refine lc_list (K := K) (a := x) (xs := ns.map V.int) (fun i H1 => ∃ ws : List Int, H1 = L2.upd H lw (.lst (ws.map V.int)) ∧ (∀ z ∈ ws, 0 ≤ z) ∧ ws.length ≤ i) ⟨[], rfl, (fun z hz => by cases hz), Nat.le_refl _⟩ (fun i H1 _ ⟨ws, e, _⟩ => by rw [e]; exact (sw _).seq hS) ?_ ?_
    · rintro i y H1 hi ⟨ws, rfl, h0, hw⟩
      obtain ⟨z, hz, rfl⟩ : ∃ z, ns[i]? = some z ∧ y = V.int z := by
        rw [List.getElem?_map] at hi
        cases e : ns[i]? with
        | none =>
          rw [e] at hi
          cases hi
        | some z =>
          rw [e] at hi
          exact ⟨z, rfl, (Option.some.inj hi).symm⟩
      have hin : i < 63 := Nat.lt_of_lt_of_le (List.getElem?_eq_some_iff.mp hz).1 hl
      refine ⟨rfl, _, rfl, z, rfl, _, _, rfl, rfl, ⟨by decide, by decide, by decide⟩, _, _, rfl, rfl, _, rfl, ?_⟩
      refine ite2 (fun hc => ?_) fun _ => ⟨ws, rfl, h0, by omega⟩
      refine ⟨_, rfl, z, rfl, _, _, rfl, rfl, ⟨by decide, by decide, by decide⟩, _, _, rfl, rfl, _, upd_same, (by rw [List.length_map]; exact Nat.lt_of_le_of_lt (Nat.le_trans hw (Nat.le_of_lt hin)) (by decide)), ?_⟩
      refine ⟨ws ++ [(if z < 0 then -z else z) - 10 ^ (18 : Int).toNat], ?_, fun q hq => ?_, by simp; omega⟩
      · rw [upd_upd, List.map_append]
        all_goals rfl
      · rcases List.mem_append.mp hq with m | m
        · exact h0 q m
        · have hc' := of_decide_eq_true hc
          rw [List.mem_singleton] at m
          subst m
          omega
    · rintro H1 ⟨ws, rfl, h0, hw⟩
      intro a na
      have nL : a ≠ lw := fun z => by
        rw [z, upd_same] at na
        cases na
      have na0 : H a = none := by
        rw [upd_ne nL] at na
        exact na
      have s1 : Same H (L2.upd (L2.upd H lw (.lst (ws.map V.int))) a (.dK [])) := (sw _).trans (Same.upd na)
      refine ⟨_, rfl, ?_⟩
      refine ⟨_, rfl, x, rfl, ⟨_, s1.seq hS⟩, fun lc nc => ?_⟩
      have sc : ∀ o, Same (L2.upd (L2.upd H lw (.lst (ws.map V.int))) a (.dK [])) (L2.upd (L2.upd (L2.upd H lw (.lst (ws.map V.int))) a (.dK [])) lc o) := fun o => Same.upd nc
      refine lc_list (K := K) (a := x) (xs := ns.map V.int) (fun i H1 => ∃ cs : List Int, H1 = L2.upd (L2.upd (L2.upd H lw (.lst (ws.map V.int))) a (.dK [])) lc (.lst (cs.map V.int)) ∧ cs.length = i) ⟨[], rfl, rfl⟩ (fun i H1 _ ⟨cs, e, _⟩ => by rw [e]; exact (s1.trans (sc _)).seq hS) ?_ ?_
      · rintro i y H1 hi ⟨cs, rfl, hcs⟩
        obtain ⟨z, hz, rfl⟩ : ∃ z, ns[i]? = some z ∧ y = V.int z := by
          rw [List.getElem?_map] at hi
          cases e : ns[i]? with
          | none =>
            rw [e] at hi
            cases hi
          | some z =>
            rw [e] at hi
            exact ⟨z, rfl, (Option.some.inj hi).symm⟩
        have hin : i < 63 := Nat.lt_of_lt_of_le (List.getElem?_eq_some_iff.mp hz).1 hl
        refine ⟨rfl, ?_⟩
        refine yes_if ?_
        refine ⟨_, rfl, z, rfl, _, upd_same, (by rw [List.length_map, hcs]; exact Nat.lt_trans hin (by decide)), ?_⟩
        exact ⟨cs ++ [if z < 0 then -z else z], by rw [upd_upd, List.map_append]; all_goals rfl, by simp [hcs]⟩
      · rintro H1 ⟨cs, rfl, hcs⟩
        have nLC : lw ≠ lc := ne_of_none (by rw [upd_ne nL.symm]; exact upd_same) nc
        have nAC : a ≠ lc := ne_of_none upd_same nc
        have hlw : ws.length ≤ 63 := by
          rw [List.length_map] at hw
          omega
        refine ⟨by rw [upd_ne nAC]; exact upd_same, stK lw lc 0 0, rfl, (by show 4 ≤ 15; decide), ?_⟩
        rw [stK_new]
        have nc0 : H lc = none := (s1.free nc)
        refine k a lw lc _ na0 nw nc0 ⟨⟨ws, cs, 0, 0, upd_same, ?_, ?_, Int.le_refl _, Int.le_refl _, Int.le_refl _, h0, hlw⟩, nLC⟩ ?_
        · rw [upd_ne nL.symm, upd_ne nLC, upd_ne nL.symm, upd_same]
        · rw [upd_ne nAC.symm, upd_same]
        · intro b o e
          rw [upd_ne (ne_of_none e na0)]
          exact (s1.trans (sc _)) b o e
end
end Own
set_option Elab.async false
set_option linter.all false
set_option maxRecDepth 100000
set_option maxHeartbeats 4000000
namespace Own
open PySem PySem.Spec PyProof.Rows L2 LamX
section
variable {P : Program} {w : World} {K : PySem.W.Frag} {mg : Str → Option Value} {base : Heap} {f fS fD : Addr} {fd fdS fdD : FuncData}
theorem ints_at {ns : List Int} {i : Nat} {y : V} (h : (ns.map V.int)[i]? = some y) : ∃ z, ns[i]? = some z ∧ y = V.int z := by
  rw [List.getElem?_map] at h
  cases e : ns[i]? with
  | none =>
    rw [e] at h
    cases h
  | some z =>
    rw [e] at h
    exact ⟨z, rfl, (Option.some.inj h).symm⟩
theorem scStir : FnScope ["_law_state", "_law_turn", "_law_found", "_law_prime", "_law_blend", "_law_cell"] ["_law_state"] (defScope sStir) := ⟨rfl, rfl, rfl, by decide +kernel, rfl, by decide +kernel, by decide +kernel⟩
def primes : List Int := [2147483647, 2147483629, 2147483587, 2147483579]
theorem ok_stir (F : FnP K "_law_stirred" sStir f fd) (T : Txt K mg) : FnOk P w K mg base CX0 1 f fd ["_law_state"] spStir := by
  refine F.ok scStir (fun vs H Q E h => ?_) (fun cdv A outer s H vs Q E hr h => ?_)
  · obtain ⟨a, lw, lc, t, rfl, _⟩ := h
    rfl
  · obtain ⟨a, lw, lc, t, rfl, S, ht, k⟩ := h
    have hu := hu_of hr
    refine ⟨_, PSs.nox (pss_cons (ps_par (i := 1) (j := 2) rfl scStir.nd rfl rfl (by decide) rfl rfl (pa_cons (pe_op op_add (pe_dget hu (pv 0) pe_str (fun _ _ => rfl)) pe_int) (pa_cons pe_int pa_nil)) (by rfl))
      (pss_cons (ps_dput hu (pv 0) pe_str (pv 1) rfl)
      (pss_cons (ps_for PassesOwn.never rfl (pi_list (pe_lst (pa_cons pe_int (pa_cons pe_int (pa_cons pe_int (pa_cons pe_int pa_nil)))))) (pg_name (i := 3) scStir.nd rfl (Or.inl rfl))
        (pss_cons (ps_set (i := 4) scStir.nd rfl (Or.inl rfl) (pe_op op_add (pe_op op_mul pe_int (pv 1)) (pe_op op_fdiv (pv 3) pe_int)))
        (pss_cons (ps_for PassesOwn.never rfl (pi_list (pe_dget hu (pv 0) pe_str (fun _ _ => rfl))) (pg_name (i := 5) scStir.nd rfl (Or.inl rfl))
          (pss_one (ps_set (i := 4) scStir.nd rfl (Or.inl rfl) (pe_op op_mod (pe_callTy call_int1 (by rfl) T.int boot_int (pa_cons (pe_op op_add (pe_op op_add (pe_op op_mul (pv 4) pe_int) (pv 5)) (pv 1)) pa_nil)) (pv 3)))))
        (pss_one (ps_set (i := 2) scStir.nd rfl (Or.inl rfl) (pe_op op_add (pe_op op_mul (pv 2) pe_int) (pe_op op_mod (pe_callTy call_int1 (by rfl) T.int boot_int (pa_cons (pe_op op_pow (pv 4) pe_int) pa_nil)) (pv 3))))))))
      (pss_one (ps_ret (pv 2)))))), ?_⟩
    obtain ⟨⟨ws, cs, r, u, h1, h2, h3, hr0, hu0, hut, hw0, hwl⟩, ne⟩ := S
    refine ⟨_, rfl, a, _, rfl, dget_k (.inr "turn") h1 (stK_turn ..), _, _, rfl, rfl, _, _, rfl, ?_⟩
    refine ⟨_, rfl, _, rfl, a, _, rfl, dput_k (.inr "turn") h1 (by show 4 < sizeLine; decide) (stK_putTurn ..), ?_⟩
    have nlw : lw ≠ a := ne_of h2 h1 (by intro z; cases z)
    have nlc : lc ≠ a := ne_of h3 h1 (by intro z; cases z)
    refine ⟨(by show 4 ≤ sizeLine; decide), fun p hp => ?_⟩
    have npa : p ≠ a := (ne_of_none upd_same hp).symm
    have npw : p ≠ lw := (ne_of_none (by rw [upd_ne nlw]; exact h2) hp).symm
    have npc : p ≠ lc := (ne_of_none (by rw [upd_ne nlc]; exact h3) hp).symm
    have hp0 : H p = none := by
      rw [upd_ne npa] at hp
      exact hp
    have np0 : SqL K (L2.upd (L2.upd H a (.dK (stK lw lc r (u + 1)))) p (.lst (primes.map V.int))) p (primes.map V.int) := SqL.of upd_same
    have atA : (L2.upd (L2.upd H a (.dK (stK lw lc r (u + 1)))) p (.lst (primes.map V.int))) a = some (.dK (stK lw lc r (u + 1))) := by rw [upd_ne npa.symm, upd_same]
    have atC : (L2.upd (L2.upd H a (.dK (stK lw lc r (u + 1)))) p (.lst (primes.map V.int))) lc = some (.lst (cs.map V.int)) := by rw [upd_ne npc.symm, upd_ne nlc]; exact h3
    refine ⟨p, rfl, ⟨_, np0⟩, for_list (K := K) (a := p) (xs := primes.map V.int) (fun i σ H1 => ∃ (z : Int) (v3 v4 v5 : Option V), σ = [some (.ref a), some (.int (u + 1)), some (.int z), v3, v4, v5] ∧ 0 ≤ z ∧ H1 = L2.upd (L2.upd H a (.dK (stK lw lc r (u + 1)))) p (.lst (primes.map V.int)))
      ⟨0, none, none, none, rfl, Int.le_refl _, rfl⟩ (fun i σ H1 _ ⟨_, _, _, _, _, _, e⟩ => by rw [e]; exact np0) ?_ ?_⟩
    · rintro i y σ H1 hi ⟨z, v3, v4, v5, rfl, hz, rfl⟩
      obtain ⟨q, hq, rfl⟩ := ints_at hi
      have hq2 : 2000000000 < q ∧ q < 3000000000 := by
        match i, hq with
        | 0, hq => cases hq; exact ⟨by decide, by decide⟩
        | 1, hq => cases hq; exact ⟨by decide, by decide⟩
        | 2, hq => cases hq; exact ⟨by decide, by decide⟩
        | 3, hq => cases hq; exact ⟨by decide, by decide⟩
        | j + 4, hq => cases hq
      refine ⟨_, rfl, _, _, rfl, rfl, .inl ⟨by decide, by decide⟩, _, rfl, _, _, rfl, rfl, ⟨by decide, by decide⟩, _, _, rfl, rfl, ?_⟩
      refine ⟨_, rfl, a, _, rfl, dget_k (.inr "cells") atA (stK_cells ..), lc, rfl, ⟨_, SqL.of atC⟩, ?_⟩
      refine for_list (K := K) (a := lc) (xs := cs.map V.int) (fun i σ H1 => ∃ (b : Int) (v5 : Option V), σ = [some (.ref a), some (.int (u + 1)), some (.int z), some (.int q), some (.int b), v5] ∧ 0 ≤ b ∧ b < 2 ^ 60 ∧ H1 = L2.upd (L2.upd H a (.dK (stK lw lc r (u + 1)))) p (.lst (primes.map V.int)))
        ⟨48271 * (u + 1) + q / 37, v5, rfl, by omega, by omega, rfl⟩ (fun i σ H1 _ ⟨_, _, _, _, _, e⟩ => by rw [e]; exact SqL.of atC) ?_ ?_
      · rintro j y σ H1 hj ⟨b, v5, rfl, hb0, hb1, rfl⟩
        obtain ⟨c, hc, rfl⟩ := ints_at hj
        refine ⟨_, rfl, _, _, rfl, rfl, .inr ⟨by decide, by decide⟩, _, rfl, _, _, rfl, rfl, _, rfl, _, _, rfl, rfl, .inl ⟨_, rfl, _, rfl, _, _, rfl, rfl, (by omega), ?_⟩⟩
        have m1 := Int.emod_nonneg (b * 69621 + c + (u + 1)) (show q ≠ 0 by omega)
        have m2 := Int.emod_lt_of_pos (b * 69621 + c + (u + 1)) (show 0 < q by omega)
        exact ⟨_, _, rfl, m1, by omega, rfl⟩
      · rintro σ H1 ⟨b, v5, rfl, hb0, hb1, rfl⟩
        refine ⟨_, rfl, _, _, rfl, rfl, .inr ⟨by decide, by decide⟩, _, rfl, _, _, rfl, rfl, ⟨by decide, by decide, by omega⟩, .inl ⟨_, rfl, _, rfl, _, _, rfl, rfl, (by omega), _, _, rfl, rfl, ?_⟩⟩
        have m1 := Int.emod_nonneg (b ^ (5 : Int).toNat) (show q ≠ 0 by omega)
        exact ⟨_, _, _, _, rfl, by omega, rfl⟩
    · rintro σ H1 ⟨z, v3, v4, v5, rfl, hz, rfl⟩
      refine ⟨_, rfl, ?_⟩
      refine k z _ hz ⟨⟨ws, cs, r, u + 1, atA, ?_, atC, hr0, by omega, by omega, hw0, hwl⟩, ne⟩ fun b o e nb => ?_
      · rw [upd_ne npw.symm, upd_ne nlw]
        exact h2
      · have nb2 : b ≠ a := fun z => nb (List.mem_singleton.mpr z)
        rw [upd_ne (ne_of_none e hp0), upd_ne nb2]
        exact e
end
end Own
set_option Elab.async false
set_option linter.all false
set_option maxRecDepth 100000
set_option maxHeartbeats 4000000
namespace Own
open PySem PySem.Spec PyProof.Rows L2 LamX
section
variable {P : Program} {w : World} {K : PySem.W.Frag} {mg : Str → Option Value} {base : Heap} {f fS fD : Addr} {fd fdS fdD : FuncData}
theorem dpAll_ints {H : Hp} : ∀ ws : List Int, DpAll K H (ws.map V.int) (ws.map PyData.int)
  | [] => .nil
  | z :: r => .cons (.int z) (dpAll_ints r)
theorem shaped_ints : ∀ ws : List Int, SeqAt.shaped (.list (ws.map PyData.int)) = true := by
  intro ws
  have h : ∀ l : List Int, PyData.canLayAll0 (l.map PyData.int) = true ∧ PyData.depthAll (l.map PyData.int) = 0 := by
    intro l
    induction l with
    | nil => exact ⟨rfl, rfl⟩
    | cons z r ih =>
      refine ⟨?_, ?_⟩
      · show (true && PyData.canLayAll0 (r.map PyData.int)) = true
        rw [ih.1]
        rfl
      · show max 0 (PyData.depthAll (r.map PyData.int)) = 0
        rw [ih.2]
        rfl
  show (PyData.canLayAll0 (ws.map PyData.int) && decide (PyData.depthAll (ws.map PyData.int) + 1 ≤ 64)) = true
  rw [(h ws).1, (h ws).2]
  rfl
theorem eqv_nil (ws : List Int) : PyData.eqv (.list (ws.map PyData.int)) (.list []) = ws.isEmpty := by
  cases ws <;> rfl
theorem scDraw : FnScope ["_law_state", "_law_room", "_law_found"] ["_law_state", "_law_room"] (defScope sDraw) := ⟨rfl, rfl, rfl, by decide +kernel, rfl, by decide +kernel, by decide +kernel⟩
theorem ok_draw (F : FnP K "_law_draw" sDraw f fd) (FS : FnP K "_law_stirred" sStir fS fdS) (gS : mg "_law_stirred" = some (.ref fS)) (T : Txt K mg) : FnOk P w K mg base CX0 2 f fd ["_law_state", "_law_room"] spDraw := by
  have GS : FnOk P w K mg base CX0 1 fS fdS ["_law_state"] spStir := ok_stir FS T
  have bS : Binds K fdS ["_law_state"] [] := FS.bindsN fun _ _ _ _ _ _ us hl => match us, hl with | [_], _ => rfl
  refine F.ok scDraw (fun vs H Q E h => ?_) (fun cdv A outer s H vs Q E hr h => ?_)
  · obtain ⟨a, lw, lc, t, n, rfl, _⟩ := h
    rfl
  · obtain ⟨a, lw, lc, t, n, rfl, S, ht, hn0, hn1, k⟩ := h
    have hu := hu_of hr
    refine ⟨_, PSs.nox (pss_cons (ps_if (pt_cmpR op_eq (pe_dget hu (pv 0) pe_str (fun _ _ => rfl)) pe_int (nomark _))
        (pss_one (ps_dput hu (pv 0) pe_str (pe_ifExp (pt_cmpR (op_neD hr.units) (pe_dget hu (pv 0) pe_str (fun _ _ => rfl)) (pe_lst pa_nil) (nomark _))
          (pe_bm PySem.F.plainAttrs_list PySem.F.slot_list_pop PySem.F.type_list_pop mt_popAt (pe_dget hu (pv 0) pe_str (fun _ _ => rfl)) (pa_cons pe_int pa_nil))
          (pe_call GS hr (by rfl) gS FS.kp bS .nil pass0 (pa_cons (pv 0) pa_nil))) rfl)) pss_nil)
      (pss_cons (ps_set (i := 2) scDraw.nd rfl (Or.inl rfl) (pe_op op_mod (pe_callTy call_int1 (by rfl) T.int boot_int (pa_cons (pe_dget hu (pv 0) pe_str (fun _ _ => rfl)) pa_nil)) (pv 1)))
      (pss_cons (ps_dput hu (pv 0) pe_str (pe_op op_fdivW (pe_dget hu (pv 0) pe_str (fun _ _ => rfl)) (pv 1)) rfl)
      (pss_one (ps_ret (pv 2)))))), ?_⟩
    -- what comes behind the first if
    have rest : ∀ H1, StA H1 a lw lc (t + 1) → Kp [a, lw] H H1 → ∀ x y : Option V, (tSeq (tAsg (tOp (rI (fun _ j => 0 < j) fun i j => .int (i % j)) (tCB (fun xs H Q => (∃ i, xs = [.int i] ∧ Q (.int i) H) ∨ ∃ k, xs = [.bl k] ∧ Q (.int (if k then 1 else 0)) H) (tCons (tDGet (tVar 0) (tC (.str "rest"))) tNil)) (tVar 1)) (gName 2))
        (tSeq (sDPut (tVar 0) (tC (.str "rest")) (tOp (rI CDivW fun i j => .int (i / j)) (tDGet (tVar 0) (tC (.str "rest"))) (tVar 1))) (tRet (tVar 2)))) { nx := fun _ H' => Q .non H', rt := Q } [some (.ref a), some (.int n), none] H1 := by
      intro H1 S1 K1 x y
      obtain ⟨⟨ws, cs, r, u, h1, h2, h3, hr0, hu0, hut, hw0, hwl⟩, ne⟩ := S1
      refine ⟨_, rfl, a, _, rfl, dget_k (.inr "rest") h1 (stK_rest ..), .inl ⟨_, rfl, _, rfl, _, _, rfl, rfl, hn0, ?_⟩⟩
      refine ⟨_, rfl, a, _, rfl, dget_k (.inr "rest") h1 (stK_rest ..), _, rfl, _, _, rfl, rfl, wide_div (b := 128) hn0 (by omega) (by decide) (by decide), _, rfl, a, _, rfl, dput_k (.inr "rest") h1 (by show 4 < sizeLine; decide) (stK_putRest ..), _, rfl, ?_⟩
      have nlw : lw ≠ a := ne_of h2 h1 (by intro z; cases z)
      have nlc : lc ≠ a := ne_of h3 h1 (by intro z; cases z)
      refine k _ _ (Int.emod_nonneg _ (by omega)) (Int.emod_lt_of_pos _ hn0) ⟨⟨ws, cs, r / n, u, upd_same, by rw [upd_ne nlw]; exact h2, by rw [upd_ne nlc]; exact h3, Int.ediv_nonneg hr0 (by omega), hu0, hut, hw0, hwl⟩, ne⟩ (K1.trans (Kp.upd (by simp)))
    obtain ⟨⟨ws, cs, r, u, h1, h2, h3, hr0, hu0, hut, hw0, hwl⟩, ne⟩ := id S
    have nlw : lw ≠ a := ne_of h2 h1 (by intro z; cases z)
    have nlc : lc ≠ a := ne_of h3 h1 (by intro z; cases z)
    refine ⟨_, rfl, a, _, rfl, dget_k (.inr "rest") h1 (stK_rest ..), rfl, _, rfl, ?_⟩
    refine ite2 (fun _ => ?_) (fun _ => rest H (S.more (Nat.le_succ t)) (Kp.refl _ _) none none)
    refine ⟨_, rfl, a, _, rfl, dget_k (.inr "wide") h1 (stK_wide ..), (by show 0 ≤ sizeLine; decide), fun p hp => ?_⟩
    have se : Same H (L2.upd H p (.lst [])) := Same.upd hp
    refine ⟨_, _, .lst (SqL.of (se _ _ h2)) (dpAll_ints ws), .lst (SqL.of upd_same) .nil, shaped_ints ws, rfl, _, rfl, ?_⟩
    rw [eqv_nil]
    have S1 := S.same se
    cases ws with
    | nil =>
      refine iteF ?_
      refine ⟨_, rfl, a, lw, lc, t, rfl, S1, ht, fun z H' hz S2 K2 => ?_⟩
      obtain ⟨⟨ws, cs, r, u, h1, h2, h3, hr0, hu0, hut, hw0, hwl⟩, ne⟩ := id S2
      have nlw : lw ≠ a := ne_of h2 h1 (by intro z; cases z)
      have nlc : lc ≠ a := ne_of h3 h1 (by intro z; cases z)
      refine ⟨_, rfl, a, _, rfl, dput_k (.inr "rest") h1 (by show 4 < sizeLine; decide) (stK_putRest ..), ?_⟩
      exact rest _ ⟨⟨ws, cs, z, u, upd_same, by rw [upd_ne nlw]; exact h2, by rw [upd_ne nlc]; exact h3, hz, hu0, hut, hw0, hwl⟩, ne⟩ (((Kp.of se).trans (K2.weak (by simp))).trans (Kp.upd (by simp))) none none
    | cons q ws =>
      refine iteT ?_
      have h1' := se _ _ h1
      have h2' := se _ _ h2
      refine ⟨_, rfl, a, _, rfl, dget_k (.inr "wide") h1' (stK_wide ..), .inl ⟨rfl, _, .inl (.inl h2')⟩, lw, _, 0, 0, .int q, rfl, rfl, h2', by decide, by decide, ?_, rfl, ?_⟩
      · unfold seqIndex?
        simp
      · have S3 : StA (L2.upd (L2.upd (L2.upd H p (.lst [])) lw (.lst (ws.map V.int))) a (.dK (stK lw lc q u))) a lw lc (t + 1) := by
          refine ⟨⟨ws, cs, q, u, upd_same, ?_, ?_, hw0 q List.mem_cons_self, hu0, by omega, fun z hz => hw0 z (List.mem_cons_of_mem _ hz), by rw [List.length_cons] at hwl; omega⟩, ne⟩
          · rw [upd_ne nlw, upd_same]
          · rw [upd_ne nlc, upd_ne ne.symm]
            exact se _ _ h3
        refine ⟨_, rfl, a, _, rfl, dput_k (.inr "rest") (by rw [upd_ne nlw.symm]; exact h1') (by show 4 < sizeLine; decide) (stK_putRest ..), ?_⟩
        exact rest _ S3 (((Kp.of se).trans (Kp.upd (by simp))).trans (Kp.upd (by simp))) none none
theorem scPick : FnScope ["_law_state", "_law_some"] ["_law_state", "_law_some"] (defScope sPick) := ⟨rfl, rfl, rfl, by decide +kernel, rfl, by decide +kernel, by decide +kernel⟩
theorem ok_pick (F : FnP K "_law_pick" sPick f fd) (FD : FnP K "_law_draw" sDraw fD fdD) (FS : FnP K "_law_stirred" sStir fS fdS) (gD : mg "_law_draw" = some (.ref fD)) (gS : mg "_law_stirred" = some (.ref fS)) (T : Txt K mg) : FnOk P w K mg base CX0 3 f fd ["_law_state", "_law_some"] (spPick K) := by
  have GD : FnOk P w K mg base CX0 2 fD fdD ["_law_state", "_law_room"] spDraw := ok_draw FD FS gS T
  have bD : Binds K fdD ["_law_state", "_law_room"] [] := FD.bindsN fun _ _ _ _ _ _ us hl => match us, hl with | [_, _], _ => rfl
  refine F.ok scPick (fun vs H Q E h => ?_) (fun cdv A outer s H vs Q E hr h => ?_)
  · obtain ⟨a, lw, lc, t, l, xs, rfl, _⟩ := h
    rfl
  · obtain ⟨a, lw, lc, t, l, xs, rfl, S, ht, hl, nl, h0, h1, k⟩ := h
    refine ⟨_, PSs.nox (pss_one (ps_ret (pe_ix ix_list (pv 1) (pe_call GD hr (by rfl) gD FD.kp bD .nil pass0 (pa_cons (pv 0) (pa_cons (pe_callB call_len_seq (by rfl) T.len PySem.boot_len (pa_cons (pv 1) pa_nil)) pa_nil))) (fun _ _ => rfl)))), ?_⟩
    refine ⟨_, rfl, _, rfl, _, rfl, l, _, rfl, .inl (SqL.of hl), a, lw, lc, t, _, rfl, S, ht, by omega, by omega, fun z H' hz0 hz1 S' K' => ?_⟩
    obtain ⟨⟨ws, cs, r, u, e1, _⟩, _⟩ := id S
    have na : l ≠ a := ne_of hl e1 (by intro z; cases z)
    have hl' := K' l _ hl (by simp [na, nl])
    obtain ⟨j, rfl⟩ : ∃ j : Nat, z = (j : Int) := ⟨z.toNat, by omega⟩
    have hj : j < xs.length := by omega
    refine ⟨l, _, _, xs[j], rfl, rfl, SqL.of hl', atI_nat (List.getElem?_eq_getElem hj), ?_⟩
    exact k j _ H' (List.getElem?_eq_getElem hj) S' K'
end
end Own
set_option Elab.async false
set_option linter.all false
set_option maxRecDepth 100000
set_option maxHeartbeats 400000
namespace Own
open PySem PySem.Spec PyProof.Rows L2
/-! ### two lists, item by item -/
inductive F2 {α β : Type} (R : α → β → Prop) : List α → List β → Prop
  | nil : F2 R [] []
  | cons {a : α} {b : β} {as : List α} {bs : List β} : R a b → F2 R as bs → F2 R (a :: as) (b :: bs)
section
variable {α β : Type} {R R' : α → β → Prop}
theorem F2.mono (h : ∀ a b, R a b → R' a b) : ∀ {as : List α} {bs : List β}, F2 R as bs → F2 R' as bs
  | _, _, .nil => .nil
  | _, _, .cons h1 h2 => .cons (h _ _ h1) (h2.mono h)
theorem F2.snoc : ∀ {as : List α} {bs : List β} {a : α} {b : β}, F2 R as bs → R a b → F2 R (as ++ [a]) (bs ++ [b])
  | _, _, _, _, .nil, h => .cons h .nil
  | _, _, _, _, .cons h1 h2, h => .cons h1 (h2.snoc h)
theorem F2.app : ∀ {as as' : List α} {bs bs' : List β}, F2 R as bs → F2 R as' bs' → F2 R (as ++ as') (bs ++ bs')
  | _, _, _, _, .nil, h => h
  | _, _, _, _, .cons h1 h2, h => .cons h1 (h2.app h)
theorem F2.len : ∀ {as : List α} {bs : List β}, F2 R as bs → as.length = bs.length
  | _, _, .nil => rfl
  | _, _, .cons _ h => congrArg (· + 1) h.len
theorem F2.at_ : ∀ {as : List α} {bs : List β} {i : Nat} {a : α}, F2 R as bs → as[i]? = some a → ∃ b, bs[i]? = some b ∧ R a b
  | _, _, 0, _, .cons h _, e => by cases e; exact ⟨_, rfl, h⟩
  | _, _, i + 1, _, .cons _ h, e => h.at_ (i := i) e
theorem F2.at' : ∀ {as : List α} {bs : List β} {i : Nat} {b : β}, F2 R as bs → bs[i]? = some b → ∃ a, as[i]? = some a ∧ R a b
  | _, _, 0, _, .cons h _, e => by cases e; exact ⟨_, rfl, h⟩
  | _, _, i + 1, _, .cons _ h, e => h.at' (i := i) e
theorem F2.left : ∀ {as : List α} {bs : List β} {a : α}, F2 R as bs → a ∈ as → ∃ b ∈ bs, R a b
  | _, _, _, .cons h r, m => by
    rcases List.mem_cons.mp m with rfl | m
    · exact ⟨_, List.mem_cons_self, h⟩
    · obtain ⟨b, hb, q⟩ := r.left m
      exact ⟨b, List.mem_cons_of_mem _ hb, q⟩
theorem F2.right : ∀ {as : List α} {bs : List β} {b : β}, F2 R as bs → b ∈ bs → ∃ a ∈ as, R a b
  | _, _, _, .cons h r, m => by
    rcases List.mem_cons.mp m with rfl | m
    · exact ⟨_, List.mem_cons_self, h⟩
    · obtain ⟨a, ha, q⟩ := r.right m
      exact ⟨a, List.mem_cons_of_mem _ ha, q⟩
theorem F2.map_eq {f : β → α} : ∀ {as : List α} {bs : List β}, F2 (fun a b => a = f b) as bs → as = bs.map f
  | _, _, .nil => rfl
  | _, _, .cons h r => by rw [h, r.map_eq]; rfl
theorem F2.of_map {f : β → α} : ∀ {bs : List β}, (∀ b ∈ bs, R (f b) b) → F2 R (bs.map f) bs
  | [], _ => .nil
  | b :: bs, h => .cons (h b List.mem_cons_self) (F2.of_map fun c hc => h c (List.mem_cons_of_mem _ hc))
/-- the left one rearranged: so is the right one -/
theorem F2.perm {as as' : List α} (p : as'.Perm as) : ∀ {bs : List β}, F2 R as bs → ∃ bs', bs'.Perm bs ∧ F2 R as' bs' := by
  induction p with
  | nil => intro bs h; cases h; exact ⟨[], .nil, .nil⟩
  | cons x p ih =>
    intro bs h
    cases h with
    | cons h1 h2 =>
      obtain ⟨b, pb, q⟩ := ih h2
      exact ⟨_ :: b, pb.cons _, .cons h1 q⟩
  | swap x y l =>
    intro bs h
    cases h with
    | cons h1 h2 =>
      cases h2 with
      | cons h3 h4 => exact ⟨_, .swap _ _ _, .cons h3 (.cons h1 h4)⟩
  | trans p1 p2 ih1 ih2 =>
    intro bs h
    obtain ⟨b1, q1, f1⟩ := ih2 h
    obtain ⟨b2, q2, f2⟩ := ih1 f1
    exact ⟨b2, q2.trans q1, f2⟩
end
theorem take_snoc {α : Type} {l : List α} {i : Nat} {x : α} (h : l[i]? = some x) : l.take (i + 1) = l.take i ++ [x] := by
  rw [List.take_succ, h]
  rfl
theorem same_upd {H : Hp} {a : Addr} {o : HO} (h : H a = none) : Same H (L2.upd H a o) := fun b u e => by
  rw [upd_ne (ne_of_none e h)]
  exact e
/-! ### comprehensions that change nothing but what they make -/
section
variable {It0 : It} {G : Hp → Prop} {Y : Nat → Hp → V → Hp → Prop} {tt : TT} {te : TE} {m : Nat} {σ : L2.St} {H1 : Hp} {D : Addr} {Qd : Hp → Prop}
/-- what is made stands to c x as rel says -/
theorem lc_rel {β : Type} {xs : List V} {p : V → Bool} {c : V → β} {rel : Hp → V → β → Prop} (w : Walk It0 xs.length G (YAt xs)) (hD : H1 D = none) (hz : xs.length < sizeLine) (hG : ∀ H', Same H1 H' → G H') (rs : ∀ {H H' y b}, Same H H' → rel H y b → rel H' y b)
    (ru : ∀ {H y b l}, H D = some (.lst l) → rel H y b → ∀ l', rel (upd H D (.lst l')) y b)
    (h2 : ∀ v, wipe ((wipe σ [m]).set m (some v)) [m] = wipe σ [m])
    (ht : ∀ x H', x ∈ xs → Same H1 H' → ∀ R : Bool → Hp → Prop, (∀ H'', Same H' H'' → R (p x) H'') → tt ((wipe σ [m]).set m (some x)) H' R)
    (he : ∀ x H', x ∈ xs → p x = true → Same H1 H' → ∀ R : V → Hp → Prop, (∀ y H'', Same H' H'' → rel H'' y (c x) → R y H'') → te ((wipe σ [m]).set m (some x)) H' R)
    (hd : ∀ H' ys, Same H1 H' → H' D = some (.lst ys) → F2 (rel H') ys ((xs.filter p).map c) → Qd H') :
    ∃ W : Nat → Nat → Hp → Prop, (∃ m, W 0 m (upd H1 D (.lst []))) ∧ ∀ i k H, W i k H →
      (It0.stop i H ∧ Qd H) ∨ (It0.go i H ∧ ∃ Nx : Hp → Prop, (∀ H', Nx H' → ∃ k', k' < k ∧ W (i + 1) k' H') ∧ ∀ x H', It0.yld i H x H' → gName m x (wipe σ [m]) H' fun σ2 H2 => wipe σ2 [m] = wipe σ [m] ∧ tt σ2 H2 fun b H3 =>
        if b = true then te σ2 H3 fun y H4 => ∃ acc, H4 D = some (.lst acc) ∧ acc.length < sizeLine ∧ Nx (upd H4 D (.lst (acc ++ [y]))) else Nx H3) := by
  refine lc_it w (fun i H => Same H1 H ∧ ∃ ys, H D = some (.lst ys) ∧ F2 (rel H) ys (((xs.take i).filter p).map c)) ⟨same_upd hD, [], upd_same, .nil⟩ (fun i H _ q => hG H q.1) ?_ ?_
  · rintro i x H H' hi ⟨sH, ys, eD, f⟩ ⟨rfl, hx⟩
    have mx : x ∈ xs := List.mem_of_getElem? hx
    have et := take_snoc hx
    refine ⟨h2 x, ht x H' mx sH _ fun H2 s2 => ?_⟩
    cases e : p x with
    | false =>
      rw [if_neg Bool.false_ne_true]
      refine ⟨sH.trans s2, ys, s2 _ _ eD, ?_⟩
      rw [et, List.filter_append, List.filter_cons_of_neg (by rw [e]; exact Bool.false_ne_true), List.filter_nil, List.append_nil]
      exact f.mono fun _ _ q => rs s2 q
    | true =>
      rw [if_pos rfl]
      refine he x H2 mx e (sH.trans s2) _ fun y H3 s3 ry => ?_
      have e3 := s3 _ _ (s2 _ _ eD)
      refine ⟨ys, e3, ?_, ?_⟩
      · have l1 := f.len
        rw [List.length_map] at l1
        have l2 := List.length_filter_le p (xs.take i)
        rw [List.length_take] at l2
        omega
      · refine ⟨fun b o hb => ?_, ys ++ [y], upd_same, ?_⟩
        · have nb : b ≠ D := fun z => by rw [z, hD] at hb; cases hb
          rw [upd_ne nb]
          exact s3 _ _ (s2 _ _ (sH _ _ hb))
        · rw [et, List.filter_append, List.filter_cons_of_pos e, List.filter_nil, List.map_append]
          exact (f.mono fun _ _ q => ru e3 (rs s3 (rs s2 q)) _).snoc (ru e3 ry _)
  · rintro H ⟨sH, ys, eD, f⟩
    rw [List.take_length] at f
    exact hd H ys sH eD f
/-- a filter -/
theorem lc_filt {xs : List V} {p : V → Bool} (w : Walk It0 xs.length G (YAt xs)) (hD : H1 D = none) (hz : xs.length < sizeLine) (hG : ∀ H', Same H1 H' → G H') (hm : m < σ.length)
    (ht : ∀ x H', x ∈ xs → Same H1 H' → ∀ R : Bool → Hp → Prop, (∀ H'', Same H' H'' → R (p x) H'') → tt ((wipe σ [m]).set m (some x)) H' R)
    (hd : ∀ H', Same H1 H' → H' D = some (.lst (xs.filter p)) → Qd H') :
    ∃ W : Nat → Nat → Hp → Prop, (∃ m, W 0 m (upd H1 D (.lst []))) ∧ ∀ i k H, W i k H →
      (It0.stop i H ∧ Qd H) ∨ (It0.go i H ∧ ∃ Nx : Hp → Prop, (∀ H', Nx H' → ∃ k', k' < k ∧ W (i + 1) k' H') ∧ ∀ x H', It0.yld i H x H' → gName m x (wipe σ [m]) H' fun σ2 H2 => wipe σ2 [m] = wipe σ [m] ∧ tt σ2 H2 fun b H3 =>
        if b = true then tVar m σ2 H3 fun y H4 => ∃ acc, H4 D = some (.lst acc) ∧ acc.length < sizeLine ∧ Nx (upd H4 D (.lst (acc ++ [y]))) else Nx H3) := by
  refine lc_rel (p := p) (c := fun x => x) (rel := fun _ y x => y = x) w hD hz hG (fun _ q => q) (fun _ q _ => q) (fun v => ?_) ht (fun x H' mx _ _ R k => ⟨x, ?_, k x H' (Same.refl _) rfl⟩) fun H' ys sH eD f => hd H' sH ?_
  · show ((σ.set m none).set m (some v)).set m none = σ.set m none
    rw [List.set_set, List.set_set]
  · show ((σ.set m none).set m (some x))[m]? = _
    rw [List.getElem?_set_self (by rw [List.length_set]; exact hm)]
  · rw [eD, f.map_eq (f := fun x => x), List.map_id', List.map_id']
end
end Own
set_option Elab.async false
set_option linter.all false
set_option maxRecDepth 100000
set_option maxHeartbeats 400000
namespace Own
open PySem PySem.Spec PyProof.Rows L2
/-! ### lists of flat values against [] -/
def fd : V → PyData
  | .bl b => .bool b
  | .int i => .int i
  | .str x => .str x
  | _ => .none
def fok : V → Bool
  | .non => true
  | .bl _ => true
  | .int _ => true
  | .str x => x.cps.all (· < 0x110000)
  | _ => false
theorem dp_flat1 {K : PySem.W.Frag} {H : Hp} : ∀ {x : V}, fok x = true → Dp K H x (fd x) ∧ (fd x).canLay0 = true ∧ (fd x).depth = 0
  | .non, _ => ⟨.non, rfl, rfl⟩
  | .bl b, _ => ⟨.bl b, rfl, rfl⟩
  | .int i, _ => ⟨.int i, rfl, rfl⟩
  | .str x, h => ⟨.str x, h, rfl⟩
theorem dp_flat {K : PySem.W.Frag} {H : Hp} : ∀ {xs : List V}, xs.all fok = true → DpAll K H xs (xs.map fd) ∧ PyData.canLayAll0 (xs.map fd) = true ∧ PyData.depthAll (xs.map fd) = 0
  | [], _ => ⟨.nil, rfl, rfl⟩
  | x :: r, h => by
    rw [List.all_cons, Bool.and_eq_true] at h
    obtain ⟨a1, a2, a3⟩ := dp_flat1 (K := K) (H := H) h.1
    obtain ⟨b1, b2, b3⟩ := dp_flat (K := K) (H := H) h.2
    refine ⟨.cons a1 b1, ?_, ?_⟩
    · show ((fd x).canLay0 && PyData.canLayAll0 (r.map fd)) = true
      rw [a2, b2]
      rfl
    · show max (fd x).depth (PyData.depthAll (r.map fd)) = 0
      rw [a3, b3]
      rfl
theorem shaped_flat (K : PySem.W.Frag) (H : Hp) {xs : List V} (h : xs.all fok = true) : SeqAt.shaped (.list (xs.map fd)) = true := by
  obtain ⟨_, a, b⟩ := dp_flat (K := K) (H := H) h
  show (PyData.canLayAll0 (xs.map fd) && decide (PyData.depthAll (xs.map fd) + 1 ≤ 64)) = true
  rw [a, b]
  rfl
theorem eqv_nil2 (xs : List V) : PyData.eqv (.list (xs.map fd)) (.list []) = xs.isEmpty := by
  cases xs <;> rfl
theorem ne_nil {K : PySem.W.Frag} {H : Hp} {a b : Addr} {xs : List V} {Q : VK} (ha : SqL K H a xs) (hb : SqL K H b []) (hf : xs.all fok = true) (q : Q (.bl (!xs.isEmpty)) H) : rNeD K (.ref a) (.ref b) H Q :=
  ⟨_, _, .lst ha (dp_flat hf).1, .lst hb .nil, shaped_flat K H hf, rfl, by rw [eqv_nil2]; exact q⟩
theorem eq_nil {K : PySem.W.Frag} {H : Hp} {a b : Addr} {xs : List V} {Q : VK} (ha : SqL K H a xs) (hb : SqL K H b []) (hf : xs.all fok = true) (q : Q (.bl xs.isEmpty) H) : rEqD K (.ref a) (.ref b) H Q :=
  ⟨_, _, .lst ha (dp_flat hf).1, .lst hb .nil, shaped_flat K H hf, rfl, by rw [eqv_nil2]; exact q⟩
theorem cut_drop {xs : List V} {k : Nat} (h : k ≤ xs.length) : cutV xs (some (k : Int)) none = xs.drop k := by
  show (xs.drop (HT.sIx xs.length 0 (some (k : Int)))).take (HT.sIx xs.length xs.length none - HT.sIx xs.length 0 (some (k : Int))) = _
  rw [HT.sIx_none, HT.sIx_nat, Nat.min_eq_left h]
  exact List.take_of_length_le (by rw [List.length_drop]; exact Nat.le_refl _)
theorem decStr {x y : Str} : decide (V.str x = V.str y) = decide (x = y) := by
  rw [Bool.eq_iff_iff]
  simp
theorem at_nat {xs : List V} {k : Nat} {v : V} (h : xs[k]? = some v) : atI xs ((k : Nat) : Int) = some v := atI_nat h
theorem inV_str (w : Str) : ∀ xs : List Str, inV (.str w) (xs.map V.str) = decide (w ∈ xs)
  | [] => rfl
  | x :: r => by
    show ((x == w) || inV (.str w) (r.map V.str)) = _
    rw [inV_str w r]
    by_cases h : x = w
    · subst h
      simp
    · have h2 : ¬ w = x := fun z => h z.symm
      have h3 : (x == w) = false := by simpa using h
      rw [h3]
      simp [h2]
theorem fok_ints (is : List Int) : (is.map V.int).all fok = true := by
  rw [List.all_map, List.all_eq_true]
  intro _ _
  rfl

theorem seqT {K : PySem.W.Frag} {H H' : Hp} {a : Addr} {xs : List V} (e : Same H H') (h : SqT K H a xs) : SqT K H' a xs := by
  rcases h with (h | ⟨o, h⟩) | h
  · exact .inl (.inl (e _ _ h))
  · exact .inl (.inr ⟨o, e _ _ h⟩)
  · exact .inr h
/-- .. != [], .. == [] behind a list of flat values -/
theorem tail_ne {K : PySem.W.Frag} {σ : L2.St} {H : Hp} {D : Addr} {xs : List V} {Q : VK} (hD : H D = some (.lst xs)) (hf : xs.all fok = true) (k : ∀ H', Same H H' → Q (.bl (!xs.isEmpty)) H') : tLst tNil σ H fun y H2 => rNeD K (.ref D) y H2 Q := by
  refine ⟨(by show 0 ≤ sizeLine; decide), fun q nq => ?_⟩
  have s := same_upd (o := .lst []) nq
  exact ne_nil (SqL.of (s _ _ hD)) (SqL.of upd_same) hf (k _ s)
theorem tail_eq {K : PySem.W.Frag} {σ : L2.St} {H : Hp} {D : Addr} {xs : List V} {Q : VK} (hD : H D = some (.lst xs)) (hf : xs.all fok = true) (k : ∀ H', Same H H' → Q (.bl xs.isEmpty) H') : tLst tNil σ H fun y H2 => rEqD K (.ref D) y H2 Q := by
  refine ⟨(by show 0 ≤ sizeLine; decide), fun q nq => ?_⟩
  have s := same_upd (o := .lst []) nq
  exact eq_nil (SqL.of (s _ _ hD)) (SqL.of upd_same) hf (k _ s)
theorem all_filter {xs : List V} {p : V → Bool} (h : xs.all fok = true) : (xs.filter p).all fok = true := by
  rw [List.all_eq_true] at h ⊢
  exact fun x hx => h x (List.mem_filter.mp hx).1
theorem filter_any {xs : List V} {p : V → Bool} : (!(xs.filter p).isEmpty) = xs.any p := by
  induction xs with
  | nil => rfl
  | cons x r ih =>
    cases e : p x with
    | true => simp [e]
    | false =>
      rw [List.filter_cons_of_neg (by rw [e]; exact Bool.false_ne_true), ih]
      simp [e]
/-- [x for x in t if T] != [], t a tuple -/
theorem any_ne {K : PySem.W.Frag} {σ : L2.St} {H : Hp} {Q : VK} {a : Addr} {xs : List V} {p : V → Bool} {tt : TT} {m : Nat} (hs : SqT K H a xs) (hf : xs.all fok = true) (hz : xs.length < sizeLine) (hm : m < σ.length)
    (ht : ∀ x H', x ∈ xs → Same H H' → ∀ R : Bool → Hp → Prop, (∀ H'', Same H' H'' → R (p x) H'') → tt ((wipe σ [m]).set m (some x)) H' R) (k : ∀ H', Same H H' → Q (.bl (xs.any p)) H') :
    ∃ b, V.ref a = .ref b ∧ (∃ ys, SqT K H b ys) ∧ ∀ D, H D = none → ∃ W : Nat → Nat → Hp → Prop, (∃ m, W 0 m (L2.upd H D (.lst []))) ∧ ∀ i k H, W i k H →
      ((Itt K b).stop i H ∧ tLst tNil σ H fun y H2 => rNeD K (.ref D) y H2 Q) ∨ ((Itt K b).go i H ∧ ∃ Nx : Hp → Prop, (∀ H', Nx H' → ∃ k', k' < k ∧ W (i + 1) k' H') ∧ ∀ x H', (Itt K b).yld i H x H' → gName m x (wipe σ [m]) H' fun σ2 H2 => wipe σ2 [m] = wipe σ [m] ∧ tt σ2 H2 fun b H3 =>
        if b = true then tVar m σ2 H3 fun y H4 => ∃ acc, H4 D = some (.lst acc) ∧ acc.length < sizeLine ∧ Nx (L2.upd H4 D (.lst (acc ++ [y]))) else Nx H3) := by
  refine ⟨a, rfl, ⟨_, hs⟩, fun D nD => lc_filt (p := p) walk_tup nD hz (fun H' s => seqT s hs) hm ht fun H' s eD => ?_⟩
  exact tail_ne eD (all_filter hf) fun H'' s2 => by
    rw [filter_any]
    exact k H'' (s.trans s2)
/-! ### within a comprehension's block: K told -/
section
variable {X : Cx} {K : PySem.W.Frag}
theorem op_inK (h : X.K = K) : OpR X (compareOp .In) (rIn K false) := h ▸ op_in_seq
theorem op_notInK (h : X.K = K) : OpR X (compareOp .NotIn) (rIn K true) := h ▸ op_notIn_seq
theorem ix_tupK (h : X.K = K) : IxR X (rIxT K) := h ▸ ix_tup
theorem op_eqDK (h : X.K = K) (hu : X.A.units + 64 < cLine) : OpR X (compareOp .Eq) (rEqD K) := h ▸ op_eqD hu
theorem op_neDK (h : X.K = K) (hu : X.A.units + 64 < cLine) : OpR X (compareOp .NotEq) (rNeD K) := h ▸ op_neD hu
end
end Own
set_option Elab.async false
set_option linter.all false
set_option maxRecDepth 100000
set_option maxHeartbeats 400000
namespace Own
open PySem PySem.Spec PyProof.Rows L2
/-! ### data of any kind at a value, none of it at the places N -/
mutual
inductive Dq (N : List Addr) (H : Hp) : V → PyData → Prop
  | non : Dq N H .non .none
  | bl (b : Bool) : Dq N H (.bl b) (.bool b)
  | int (i : Int) : Dq N H (.int i) (.int i)
  | str (z : Str) : Dq N H (.str z) (.str z)
  | lst {a : Addr} {xs : List V} {ds : List PyData} : a ∉ N → H a = some (.lst xs) → DqAll N H xs ds → Dq N H (.ref a) (.list ds)
  | tup {a : Addr} {xs : List V} {ds : List PyData} : a ∉ N → H a = some (.tup xs) → DqAll N H xs ds → Dq N H (.ref a) (.tuple ds)
  | dict {a : Addr} {kvs : List (Key × V)} : a ∉ N → H a = some (.dK kvs) → Dq N H (.ref a) (.dict [])
inductive DqAll (N : List Addr) (H : Hp) : List V → List PyData → Prop
  | nil : DqAll N H [] []
  | cons {v : V} {vs : List V} {d : PyData} {ds : List PyData} : Dq N H v d → DqAll N H vs ds → DqAll N H (v :: vs) (d :: ds)
end
/-- all but what stands at xs and the tables is as it was -/
def KpE (xs : List Addr) (H H' : Hp) : Prop := ∀ b o, H b = some o → b ∉ xs → (∀ ps, o ≠ .tbl ps) → H' b = some o
mutual
theorem Dq.keep {N : List Addr} {H H' : Hp} (k : KpE N H H') : ∀ (d : PyData) (v : V), Dq N H v d → Dq N H' v d
  | .none, _, h => by
    cases h
    exact .non
  | .bool b, _, h => by
    cases h
    exact .bl b
  | .int i, _, h => by
    cases h
    exact .int i
  | .str z, _, h => by
    cases h
    exact .str z
  | .list ds, _, h => by
    cases h with
    | lst n e a => exact .lst n (k _ _ e n fun _ z => by cases z) (DqAll.keep k ds _ a)
  | .tuple ds, _, h => by
    cases h with
    | tup n e a => exact .tup n (k _ _ e n fun _ z => by cases z) (DqAll.keep k ds _ a)
  | .dict _, _, h => by
    cases h with
    | dict n e => exact .dict n (k _ _ e n fun _ z => by cases z)
theorem DqAll.keep {N : List Addr} {H H' : Hp} (k : KpE N H H') : ∀ (ds : List PyData) (vs : List V), DqAll N H vs ds → DqAll N H' vs ds
  | [], _, h => by
    cases h
    exact .nil
  | d :: ds, _, h => by
    cases h with
    | cons h1 h2 => exact .cons (Dq.keep k d _ h1) (DqAll.keep k ds _ h2)
end
mutual
theorem Dq.weak {N M : List Addr} {H : Hp} (s : ∀ b ∈ M, b ∈ N) : ∀ (d : PyData) (v : V), Dq N H v d → Dq M H v d
  | .none, _, h => by
    cases h
    exact .non
  | .bool b, _, h => by
    cases h
    exact .bl b
  | .int i, _, h => by
    cases h
    exact .int i
  | .str z, _, h => by
    cases h
    exact .str z
  | .list ds, _, h => by
    cases h with
    | lst n e a => exact .lst (fun z => n (s _ z)) e (DqAll.weak s ds _ a)
  | .tuple ds, _, h => by
    cases h with
    | tup n e a => exact .tup (fun z => n (s _ z)) e (DqAll.weak s ds _ a)
  | .dict _, _, h => by
    cases h with
    | dict n e => exact .dict (fun z => n (s _ z)) e
theorem DqAll.weak {N M : List Addr} {H : Hp} (s : ∀ b ∈ M, b ∈ N) : ∀ (ds : List PyData) (vs : List V), DqAll N H vs ds → DqAll M H vs ds
  | [], _, h => by
    cases h
    exact .nil
  | d :: ds, _, h => by
    cases h with
    | cons h1 h2 => exact .cons (Dq.weak s d _ h1) (DqAll.weak s ds _ h2)
end
theorem Dq.none_N {N : List Addr} {H : Hp} {d : PyData} {v : V} (h : Dq N H v d) : Dq [] H v d := Dq.weak (fun _ z => by cases z) d v h
theorem KpE.same {H H' : Hp} (e : Same H H') (N : List Addr) : KpE N H H' := fun b o h _ _ => e b o h
theorem KpE.of {xs : List Addr} {H H' : Hp} (k : ∀ b o, H b = some o → b ∉ xs → H' b = some o) : KpE xs H H' := fun b o e n _ => k b o e n
theorem KpE.trans {xs : List Addr} {H H1 H2 : Hp} (a : KpE xs H H1) (b : KpE xs H1 H2) : KpE xs H H2 := fun c o e n m => b c o (a c o e n m) n m
theorem KpE.refl (xs : List Addr) (H : Hp) : KpE xs H H := fun _ _ h _ _ => h
theorem Dq.same {N : List Addr} {H H' : Hp} {d : PyData} {v : V} (h : Dq N H v d) (e : Same H H') : Dq N H' v d := Dq.keep (KpE.same e N) d v h
theorem DqAll.same {N : List Addr} {H H' : Hp} {ds : List PyData} {vs : List V} (h : DqAll N H vs ds) (e : Same H H') : DqAll N H' vs ds := DqAll.keep (KpE.same e N) ds vs h
theorem DqAll.f2 {N : List Addr} {H : Hp} : ∀ {vs : List V} {ds : List PyData}, DqAll N H vs ds → F2 (Dq N H) vs ds
  | _, [], h => by
    cases h
    exact .nil
  | _, d :: ds, h => by
    cases h with
    | cons h1 h2 => exact .cons h1 h2.f2
theorem DqAll.of {N : List Addr} {H : Hp} : ∀ {vs : List V} {ds : List PyData}, F2 (Dq N H) vs ds → DqAll N H vs ds
  | _, _, .nil => .nil
  | _, _, .cons h1 h2 => .cons h1 (DqAll.of h2)
mutual
theorem Dq.dp {K : PySem.W.Frag} {N : List Addr} {H : Hp} : ∀ (d : PyData) (v : V), Dq N H v d → d.canLay0 = true → Dp K H v d
  | .none, _, h, _ => by
    cases h
    exact .non
  | .bool b, _, h, _ => by
    cases h
    exact .bl b
  | .int i, _, h, _ => by
    cases h
    exact .int i
  | .str z, _, h, _ => by
    cases h
    exact .str z
  | .list ds, _, h, c => by
    cases h with
    | lst n e a => exact .lst (SqL.of e) (DqAll.dp ds _ a c)
  | .tuple ds, _, h, c => by
    cases h with
    | tup n e a => exact .tup (SqT.of e) (DqAll.dp ds _ a c)
  | .dict _, _, _, c => by cases c
theorem DqAll.dp {K : PySem.W.Frag} {N : List Addr} {H : Hp} : ∀ (ds : List PyData) (vs : List V), DqAll N H vs ds → PyData.canLayAll0 ds = true → DpAll K H vs ds
  | [], _, h, _ => by
    cases h
    exact .nil
  | d :: ds, _, h, c => by
    have c' : (d.canLay0 && PyData.canLayAll0 ds) = true := c
    rw [Bool.and_eq_true] at c'
    cases h with
    | cons h1 h2 => exact .cons (Dq.dp d _ h1 c'.1) (DqAll.dp ds _ h2 c'.2)
end
/-! #### of what type -/
def tyOf : PyData → String
  | .none => "NoneType"
  | .bool _ => "bool"
  | .int _ => "int"
  | .str _ => "str"
  | .list _ => "list"
  | .tuple _ => "tuple"
  | .dict _ => "dict"
theorem Dq.ty {K : PySem.W.Frag} {N : List Addr} {H : Hp} {d : PyData} {v : V} (h : Dq N H v d) : TyX K H v (.type (tyOf d)) := by
  cases h with
  | non => exact .base .non
  | bl b => exact .base (.bl b)
  | int i => exact .base (.int i)
  | str z => exact .base (.str z)
  | lst _ e _ => exact .base (.lst e)
  | tup _ e _ => exact .base (.tup e)
  | dict _ e => exact .base (.dK e)
def isT : PyData → Bool
  | .tuple _ => true
  | _ => false
theorem k_NoneType_tuple : kitB "NoneType" "tuple" = some false := by decide +kernel
theorem k_bool_tuple : kitB "bool" "tuple" = some false := by decide +kernel
theorem k_int_tuple : kitB "int" "tuple" = some false := by decide +kernel
theorem k_str_tuple : kitB "str" "tuple" = some false := by decide +kernel
theorem k_list_tuple : kitB "list" "tuple" = some false := by decide +kernel
theorem k_tuple_tuple : kitB "tuple" "tuple" = some true := by decide +kernel
theorem k_dict_tuple : kitB "dict" "tuple" = some false := by decide +kernel
theorem kit_tuple : ∀ d : PyData, kitB (tyOf d) "tuple" = some (isT d)
  | .none => k_NoneType_tuple
  | .bool _ => k_bool_tuple
  | .int _ => k_int_tuple
  | .str _ => k_str_tuple
  | .list _ => k_list_tuple
  | .tuple _ => k_tuple_tuple
  | .dict _ => k_dict_tuple
def isL : PyData → Bool
  | .list _ => true
  | _ => false
theorem k_NoneType_list : kitB "NoneType" "list" = some false := by decide +kernel
theorem k_bool_list : kitB "bool" "list" = some false := by decide +kernel
theorem k_int_list : kitB "int" "list" = some false := by decide +kernel
theorem k_str_list : kitB "str" "list" = some false := by decide +kernel
theorem k_list_list : kitB "list" "list" = some true := by decide +kernel
theorem k_tuple_list : kitB "tuple" "list" = some false := by decide +kernel
theorem k_dict_list : kitB "dict" "list" = some false := by decide +kernel
theorem kit_list : ∀ d : PyData, kitB (tyOf d) "list" = some (isL d)
  | .none => k_NoneType_list
  | .bool _ => k_bool_list
  | .int _ => k_int_list
  | .str _ => k_str_list
  | .list _ => k_list_list
  | .tuple _ => k_tuple_list
  | .dict _ => k_dict_list
def isS : PyData → Bool
  | .str _ => true
  | _ => false
theorem k_NoneType_str : kitB "NoneType" "str" = some false := by decide +kernel
theorem k_bool_str : kitB "bool" "str" = some false := by decide +kernel
theorem k_int_str : kitB "int" "str" = some false := by decide +kernel
theorem k_str_str : kitB "str" "str" = some true := by decide +kernel
theorem k_list_str : kitB "list" "str" = some false := by decide +kernel
theorem k_tuple_str : kitB "tuple" "str" = some false := by decide +kernel
theorem k_dict_str : kitB "dict" "str" = some false := by decide +kernel
theorem kit_str : ∀ d : PyData, kitB (tyOf d) "str" = some (isS d)
  | .none => k_NoneType_str
  | .bool _ => k_bool_str
  | .int _ => k_int_str
  | .str _ => k_str_str
  | .list _ => k_list_str
  | .tuple _ => k_tuple_str
  | .dict _ => k_dict_str
def isI : PyData → Bool
  | .bool _ => true
  | .int _ => true
  | _ => false
theorem k_NoneType_int : kitB "NoneType" "int" = some false := by decide +kernel
theorem k_bool_int : kitB "bool" "int" = some true := by decide +kernel
theorem k_int_int : kitB "int" "int" = some true := by decide +kernel
theorem k_str_int : kitB "str" "int" = some false := by decide +kernel
theorem k_list_int : kitB "list" "int" = some false := by decide +kernel
theorem k_tuple_int : kitB "tuple" "int" = some false := by decide +kernel
theorem k_dict_int : kitB "dict" "int" = some false := by decide +kernel
theorem kit_int : ∀ d : PyData, kitB (tyOf d) "int" = some (isI d)
  | .none => k_NoneType_int
  | .bool _ => k_bool_int
  | .int _ => k_int_int
  | .str _ => k_str_int
  | .list _ => k_list_int
  | .tuple _ => k_tuple_int
  | .dict _ => k_dict_int
def isB : PyData → Bool
  | .bool _ => true
  | _ => false
theorem k_NoneType_bool : kitB "NoneType" "bool" = some false := by decide +kernel
theorem k_bool_bool : kitB "bool" "bool" = some true := by decide +kernel
theorem k_int_bool : kitB "int" "bool" = some false := by decide +kernel
theorem k_str_bool : kitB "str" "bool" = some false := by decide +kernel
theorem k_list_bool : kitB "list" "bool" = some false := by decide +kernel
theorem k_tuple_bool : kitB "tuple" "bool" = some false := by decide +kernel
theorem k_dict_bool : kitB "dict" "bool" = some false := by decide +kernel
theorem kit_bool : ∀ d : PyData, kitB (tyOf d) "bool" = some (isB d)
  | .none => k_NoneType_bool
  | .bool _ => k_bool_bool
  | .int _ => k_int_bool
  | .str _ => k_str_bool
  | .list _ => k_list_bool
  | .tuple _ => k_tuple_bool
  | .dict _ => k_dict_bool
def isD : PyData → Bool
  | .dict _ => true
  | _ => false
theorem k_NoneType_dict : kitB "NoneType" "dict" = some false := by decide +kernel
theorem k_bool_dict : kitB "bool" "dict" = some false := by decide +kernel
theorem k_int_dict : kitB "int" "dict" = some false := by decide +kernel
theorem k_str_dict : kitB "str" "dict" = some false := by decide +kernel
theorem k_list_dict : kitB "list" "dict" = some false := by decide +kernel
theorem k_tuple_dict : kitB "tuple" "dict" = some false := by decide +kernel
theorem k_dict_dict : kitB "dict" "dict" = some true := by decide +kernel
theorem kit_dict : ∀ d : PyData, kitB (tyOf d) "dict" = some (isD d)
  | .none => k_NoneType_dict
  | .bool _ => k_bool_dict
  | .int _ => k_int_dict
  | .str _ => k_str_dict
  | .list _ => k_list_dict
  | .tuple _ => k_tuple_dict
  | .dict _ => k_dict_dict
/-! #### small data -/
mutual
def sml : PyData → Bool
  | .str z => decide (z.length ≤ 1000)
  | .list ds => decide (ds.length ≤ 1000) && smls ds
  | .tuple ds => decide (ds.length ≤ 1000) && smls ds
  | _ => true
def smls : List PyData → Bool
  | [] => true
  | d :: ds => sml d && smls ds
end
def gdb (d : PyData) : Bool := d.canLay0 && (decide (d.depth ≤ 50) && sml d)
theorem smls_mem : ∀ {ds : List PyData}, smls ds = true → ∀ d ∈ ds, sml d = true
  | [], _, d, hd => by cases hd
  | e :: ds, h, d, hd => by
    have h' : (sml e && smls ds) = true := h
    rw [Bool.and_eq_true] at h'
    rcases List.mem_cons.mp hd with rfl | hd
    · exact h'.1
    · exact smls_mem h'.2 d hd
theorem lay_mem : ∀ {ds : List PyData}, PyData.canLayAll0 ds = true → ∀ d ∈ ds, d.canLay0 = true
  | [], _, d, hd => by cases hd
  | e :: ds, h, d, hd => by
    have h' : (e.canLay0 && PyData.canLayAll0 ds) = true := h
    rw [Bool.and_eq_true] at h'
    rcases List.mem_cons.mp hd with rfl | hd
    · exact h'.1
    · exact lay_mem h'.2 d hd
theorem lay_all : ∀ {ds : List PyData}, (∀ d ∈ ds, d.canLay0 = true) → PyData.canLayAll0 ds = true
  | [], _ => rfl
  | e :: ds, h => by
    show (e.canLay0 && PyData.canLayAll0 ds) = true
    rw [h e List.mem_cons_self, lay_all fun d hd => h d (List.mem_cons_of_mem _ hd)]
    rfl
theorem depth_mem : ∀ {ds : List PyData} {n : Nat}, PyData.depthAll ds ≤ n → ∀ d ∈ ds, d.depth ≤ n
  | [], _, _, d, hd => by cases hd
  | e :: ds, n, h, d, hd => by
    have h' : max e.depth (PyData.depthAll ds) ≤ n := h
    rcases List.mem_cons.mp hd with rfl | hd
    · omega
    · exact depth_mem (by omega) d hd
theorem depth_all : ∀ {ds : List PyData} {n : Nat}, (∀ d ∈ ds, d.depth ≤ n) → PyData.depthAll ds ≤ n
  | [], n, _ => Nat.zero_le _
  | e :: ds, n, h => by
    show max e.depth (PyData.depthAll ds) ≤ n
    have := h e List.mem_cons_self
    have := depth_all fun d hd => h d (List.mem_cons_of_mem _ hd)
    omega
theorem gdb_list {ds : List PyData} (h : gdb (.list ds) = true) : ds.length ≤ 1000 ∧ ∀ d ∈ ds, gdb d = true := by
  have h' : (PyData.canLayAll0 ds && (decide (PyData.depthAll ds + 1 ≤ 50) && (decide (ds.length ≤ 1000) && smls ds))) = true := h
  rw [Bool.and_eq_true, Bool.and_eq_true, Bool.and_eq_true, decide_eq_true_iff, decide_eq_true_iff] at h'
  obtain ⟨a, b, c, e⟩ := h'
  refine ⟨c, fun d hd => ?_⟩
  unfold gdb
  have := depth_mem (n := 49) (by omega) d hd
  rw [lay_mem a d hd, decide_eq_true (by omega : d.depth ≤ 50), smls_mem e d hd]
  rfl
theorem gdb_tuple {ds : List PyData} (h : gdb (.tuple ds) = true) : ds.length ≤ 1000 ∧ ∀ d ∈ ds, gdb d = true := gdb_list (ds := ds) h
theorem gdb_str {z : Str} (h : gdb (.str z) = true) : z.length ≤ 1000 ∧ fok (.str z) = true := by
  have h' : (z.cps.all (· < 0x110000) && (decide ((0 : Nat) ≤ 50) && decide (z.length ≤ 1000))) = true := h
  rw [Bool.and_eq_true, Bool.and_eq_true, decide_eq_true_iff, decide_eq_true_iff] at h'
  exact ⟨h'.2.2, h'.1⟩
theorem gdb_lay {d : PyData} (h : gdb d = true) : d.canLay0 = true ∧ d.depth ≤ 50 := by
  unfold gdb at h
  rw [Bool.and_eq_true, Bool.and_eq_true, decide_eq_true_iff] at h
  exact ⟨h.1, h.2.1⟩
/-- a value: a dict, or small data -/
def vdb (d : PyData) : Bool := isD d || gdb d
/-- a value that may hold such -/
def wdb : PyData → Bool
  | .list ds => decide (ds.length ≤ 1000) && ds.all vdb
  | .tuple ds => decide (ds.length ≤ 1000) && ds.all vdb
  | d => vdb d
/-! #### [x for x in .. if T] != [] over such -/
section
variable {It0 : It} {G : Hp → Prop} {tt : TT} {m : Nat} {σ : L2.St} {H1 : Hp} {D : Addr} {Qd : Hp → Prop}
theorem lc_any {N : List Addr} {xs : List V} {ds : List PyData} {p : PyData → Bool} (w : Walk It0 xs.length G (YAt xs)) (hf : F2 (Dq N H1) xs ds) (hD : H1 D = none) (hz : xs.length < sizeLine) (hG : ∀ H', Same H1 H' → G H') (hm : m < σ.length)
    (ht : ∀ (x : V) (d : PyData) H', d ∈ ds → Dq N H' x d → Same H1 H' → ∀ R : Bool → Hp → Prop, (∀ H'', Same H' H'' → R (p d) H'') → tt ((wipe σ [m]).set m (some x)) H' R)
    (hd : ∀ H' ys es, Same H1 H' → H' D = some (.lst ys) → F2 (Dq N H') ys es → (∀ e ∈ es, e ∈ ds) → ys.isEmpty = !ds.any p → Qd H') :
    ∃ W : Nat → Nat → Hp → Prop, (∃ m, W 0 m (upd H1 D (.lst []))) ∧ ∀ i k H, W i k H →
      (It0.stop i H ∧ Qd H) ∨ (It0.go i H ∧ ∃ Nx : Hp → Prop, (∀ H', Nx H' → ∃ k', k' < k ∧ W (i + 1) k' H') ∧ ∀ x H', It0.yld i H x H' → gName m x (wipe σ [m]) H' fun σ2 H2 => wipe σ2 [m] = wipe σ [m] ∧ tt σ2 H2 fun b H3 =>
        if b = true then tVar m σ2 H3 fun y H4 => ∃ acc, H4 D = some (.lst acc) ∧ acc.length < sizeLine ∧ Nx (upd H4 D (.lst (acc ++ [y]))) else Nx H3) := by
  have len := hf.len
  refine lc_it w (fun i H => Same H1 H ∧ ∃ ys es, H D = some (.lst ys) ∧ F2 (Dq N H1) ys es ∧ (∀ e ∈ es, e ∈ ds) ∧ ys.length ≤ i ∧ ys.isEmpty = !(ds.take i).any p) ⟨same_upd hD, [], [], upd_same, .nil, (fun _ h => by cases h), Nat.le_refl _, rfl⟩ (fun i H _ q => hG H q.1) ?_ ?_
  · rintro i x H H' hi ⟨sH, ys, es, eD, f, sub, ly, em⟩ ⟨rfl, hx⟩
    obtain ⟨d, hd', hxd⟩ := hf.at_ hx
    have md : d ∈ ds := List.mem_of_getElem? hd'
    have et := take_snoc hd'
    refine ⟨?_, ht x d H' md (hxd.same sH) sH _ fun H2 s2 => ?_⟩
    · show ((σ.set m none).set m (some x)).set m none = σ.set m none
      rw [List.set_set, List.set_set]
    cases e : p d with
    | false =>
      rw [if_neg Bool.false_ne_true]
      refine ⟨sH.trans s2, ys, es, s2 _ _ eD, f, sub, by omega, ?_⟩
      rw [et, List.any_append, em]
      simp [e]
    | true =>
      rw [if_pos rfl]
      refine ⟨x, ?_, ys, s2 _ _ eD, by omega, ?_⟩
      · show ((σ.set m none).set m (some x))[m]? = _
        rw [List.getElem?_set_self (by rw [List.length_set]; exact hm)]
      have sN : Same H1 (upd H2 D (.lst (ys ++ [x]))) := fun b o hb => by
        have nb : b ≠ D := fun z => by rw [z, hD] at hb; cases hb
        rw [upd_ne nb]
        exact s2 _ _ (sH _ _ hb)
      refine ⟨sN, ys ++ [x], es ++ [d], upd_same, ?_, fun q hq => ?_, by rw [List.length_append]; show ys.length + 1 ≤ i + 1; omega, ?_⟩
      · exact f.snoc hxd
      · rcases List.mem_append.mp hq with hq | hq
        · exact sub q hq
        · rw [List.mem_singleton.mp hq]
          exact md
      · rw [et, List.any_append]
        simp [e]
  · rintro H ⟨sH, ys, es, eD, f, sub, ly, em⟩
    rw [len, List.take_length] at em
    exact hd H ys es sH eD (f.mono fun _ _ q => q.same sH) sub em
end
end Own
set_option Elab.async false
set_option linter.all false
set_option maxRecDepth 100000
set_option maxHeartbeats 400000
namespace Own
open PySem PySem.Spec PyProof.Rows L2
/-! ### deeds and drawings, in plain words -/
def LET : List Nat := ("abcdefghijklmnopqrstuvwxyz" : Str).cps.toList
def LEDI : List Nat := ("abcdefghijklmnopqrstuvwxyz" ++ "0123456789" : Str).cps.toList
def NameOk (z : Str) : Prop := z.length ≤ 8 ∧ z ≠ "" ∧ (∀ c ∈ z.cps.toList.head?, c ∈ LET) ∧ ∀ c ∈ z.cps.toList, c ∈ LEDI
instance (z : Str) : Decidable (NameOk z) := by
  unfold NameOk
  exact inferInstance
def FORM : List (Str × Nat × Nat) := ("meet", 4, 0) :: ("upright", 5, 0) :: ("gauge", 2, 0) :: ("dividers", 4, 0) :: ("halver", 5, 0) :: ("strip", 5, 0) :: ("disc", 2, 1) :: ("rims", 4, 1) :: ("corner", 4, 1) :: ("compass", 4, 1) :: ("circles", 4, 1) :: []
def OTHL : List (Str × Str) := ("meet", "") :: ("upright", "square") :: ("circles", "compass") :: []
def toolS (w : Str) : Str := (OTHL.lookup w).getD w
structure Deed where
  word : Str
  names : List Str
  way : List Int
def Deed.vs (d : Deed) : List V := .str d.word :: (d.names.map V.str ++ d.way.map V.int)
/-- a right deed -/
def DeedOk (d : Deed) : Prop := ∃ m k, (d.word, m, k) ∈ FORM ∧ d.names.length = m ∧ (∀ z ∈ d.names, NameOk z) ∧ d.way.length = k ∧ ∀ z ∈ d.way, 1 ≤ z ∧ z ≤ 2
/-- names once each -/
def once (ns : List Str) : List Str := ns.foldl (fun l x => if x ∈ l then l else l ++ [x]) []
theorem once_from : ∀ (ns l : List Str) (x : Str), x ∈ ns.foldl (fun l x => if x ∈ l then l else l ++ [x]) l ↔ x ∈ l ∨ x ∈ ns
  | [], l, x => by simp
  | y :: ns, l, x => by
    rw [List.foldl_cons, once_from ns]
    by_cases h : y ∈ l
    · rw [if_pos h, List.mem_cons]
      constructor
      · rintro (a | a)
        · exact .inl a
        · exact .inr (.inr a)
      · rintro (a | rfl | a)
        · exact .inl a
        · exact .inl h
        · exact .inr a
    · rw [if_neg h, List.mem_append, List.mem_singleton, List.mem_cons]
      constructor
      · rintro ((a | a) | a)
        · exact .inl a
        · exact .inr (.inl a)
        · exact .inr (.inr a)
      · rintro (a | a | a)
        · exact .inl (.inl a)
        · exact .inl (.inr a)
        · exact .inr a
theorem once_mem (ns : List Str) (x : Str) : x ∈ once ns ↔ x ∈ ns := by
  unfold once
  rw [once_from]
  simp
theorem once_len : ∀ (ns l : List Str), (ns.foldl (fun l x => if x ∈ l then l else l ++ [x]) l).length ≤ l.length + ns.length
  | [], l => by simp
  | y :: ns, l => by
    rw [List.foldl_cons]
    have := once_len ns (if y ∈ l then l else l ++ [y])
    rw [List.length_cons]
    split at this
    · rename_i h
      rw [if_pos h]
      omega
    · rename_i h
      rw [if_neg h]
      rw [List.length_append, List.length_singleton] at this
      omega
/-- a drawing, judged from the known names on (none: no step at all) -/
def drawB : List Str → List (Option (Str × Deed)) → Bool
  | _, [] => true
  | _, none :: _ => false
  | kn, some (n, d) :: r => decide (n ∉ kn) && (d.names.all (fun z => decide (z ∈ kn)) && drawB (kn ++ [n]) r)
theorem form_facts : ∀ t ∈ FORM, t.1 ≠ "" ∧ fok (.str t.1) = true ∧ t.2.1 ≤ 5 ∧ t.2.2 ≤ 1 := by decide +kernel
end Own
set_option Elab.async false
set_option linter.all false
set_option maxRecDepth 100000
set_option maxHeartbeats 400000
namespace Own
open PySem PySem.Spec PyProof.Rows L2
/-! ### any value, judged -/
def nameB : PyData → Bool
  | .str z => decide (NameOk z)
  | _ => false
def wayB : PyData → Bool
  | .int i => decide (1 ≤ i) && decide (i ≤ 2)
  | _ => false
def formB2 (q : Nat × Nat) (r : List PyData) : Bool := decide (r.length = q.1 + q.2) && ((r.take q.1).all nameB && (r.drop q.1).all wayB)
def deedB : PyData → Bool
  | .tuple (.str w :: r) => match FORM.lookup w with
    | some q => formB2 q r
    | none => false
  | _ => false
def strD : PyData → Str
  | .str z => z
  | _ => ""
def dnames : PyData → List Str
  | .tuple (.str w :: r) => match FORM.lookup w with
    | some q => (r.take q.1).map strD
    | none => []
  | _ => []
def Deed.pys (d : Deed) : List PyData := .str d.word :: (d.names.map PyData.str ++ d.way.map PyData.int)
def Deed.py (d : Deed) : PyData := .tuple d.pys
theorem form_look : ∀ t ∈ FORM, FORM.lookup t.1 = some t.2 := by decide +kernel
theorem look_mem {α β : Type} [BEq α] [LawfulBEq α] {w : α} {q : β} : ∀ {l : List (α × β)}, l.lookup w = some q → (w, q) ∈ l
  | [], h => by cases h
  | (a, b) :: l, h => by
    rw [List.lookup_cons] at h
    cases e : w == a with
    | true =>
      rw [e] at h
      have := eq_of_beq e
      subst this
      cases h
      exact List.mem_cons_self
    | false =>
      rw [e] at h
      exact List.mem_cons_of_mem _ (look_mem h)
theorem all_name (ns : List Str) (h : ∀ z ∈ ns, NameOk z) : (ns.map PyData.str).all nameB = true := by
  rw [List.all_map, List.all_eq_true]
  exact fun z hz => decide_eq_true (h z hz)
theorem all_way (is : List Int) (h : ∀ z ∈ is, 1 ≤ z ∧ z ≤ 2) : (is.map PyData.int).all wayB = true := by
  rw [List.all_map, List.all_eq_true]
  intro z hz
  show (decide (1 ≤ z) && decide (z ≤ 2)) = true
  rw [decide_eq_true (h z hz).1, decide_eq_true (h z hz).2]
  rfl
theorem deedB_of {d : Deed} (h : DeedOk d) : deedB d.py = true := by
  obtain ⟨m, k, hm, nm, okN, nk, okW⟩ := h
  show (match FORM.lookup d.word with
    | some q => formB2 q (d.names.map PyData.str ++ d.way.map PyData.int)
    | none => false) = true
  rw [form_look _ hm]
  show formB2 (m, k) _ = true
  unfold formB2
  have l1 : (d.names.map PyData.str).length = m := by rw [List.length_map, nm]
  rw [List.take_left' l1, List.drop_left' l1, all_name _ okN, all_way _ okW, decide_eq_true (by simp [nm, nk])]
  rfl
theorem strs_of : ∀ {l : List PyData}, l.all nameB = true → ∃ ns : List Str, l = ns.map PyData.str ∧ ∀ z ∈ ns, NameOk z
  | [], _ => ⟨[], rfl, fun _ h => by cases h⟩
  | d :: l, h => by
    rw [List.all_cons, Bool.and_eq_true] at h
    obtain ⟨ns, rfl, ok⟩ := strs_of h.2
    cases d with
    | str z =>
      refine ⟨z :: ns, rfl, fun y hy => ?_⟩
      rcases List.mem_cons.mp hy with rfl | hy
      · exact of_decide_eq_true h.1
      · exact ok y hy
    | _ => cases h.1
theorem ints_of : ∀ {l : List PyData}, l.all wayB = true → ∃ is : List Int, l = is.map PyData.int ∧ ∀ z ∈ is, 1 ≤ z ∧ z ≤ 2
  | [], _ => ⟨[], rfl, fun _ h => by cases h⟩
  | d :: l, h => by
    rw [List.all_cons, Bool.and_eq_true] at h
    obtain ⟨ns, rfl, ok⟩ := ints_of h.2
    cases d with
    | int z =>
      refine ⟨z :: ns, rfl, fun y hy => ?_⟩
      rcases List.mem_cons.mp hy with rfl | hy
      · have q : (decide (1 ≤ y) && decide (y ≤ 2)) = true := h.1
        rw [Bool.and_eq_true, decide_eq_true_iff, decide_eq_true_iff] at q
        exact q
      · exact ok y hy
    | _ => cases h.1
theorem deedB_ok {e : PyData} (h : deedB e = true) : ∃ d : Deed, e = d.py ∧ DeedOk d := by
  unfold deedB at h
  split at h
  · rename_i w r
    split at h
    · rename_i q hq
      have hm := look_mem hq
      unfold formB2 at h
      rw [Bool.and_eq_true, Bool.and_eq_true, decide_eq_true_iff] at h
      obtain ⟨h1, h2, h3⟩ := h
      obtain ⟨ns, e1, ok1⟩ := strs_of h2
      obtain ⟨is, e2, ok2⟩ := ints_of h3
      have e3 : r = ns.map PyData.str ++ is.map PyData.int := by rw [← e1, ← e2, List.take_append_drop]
      have l1 : ns.length = q.1 := by
        have := congrArg List.length e1
        rw [List.length_take, List.length_map] at this
        omega
      have l2 : is.length = q.2 := by
        have := congrArg List.length e2
        rw [List.length_drop, List.length_map] at this
        omega
      exact ⟨⟨w, ns, is⟩, by rw [e3]; rfl, q.1, q.2, hm, l1, ok1, l2, ok2⟩
    · cases h
  · cases h
theorem dnames_py {d : Deed} (h : DeedOk d) : dnames d.py = d.names := by
  obtain ⟨m, k, hm, nm, okN, nk, okW⟩ := h
  show (match FORM.lookup d.word with
    | some q => ((d.names.map PyData.str ++ d.way.map PyData.int).take q.1).map strD
    | none => []) = d.names
  rw [form_look _ hm]
  show ((d.names.map PyData.str ++ d.way.map PyData.int).take m).map strD = d.names
  rw [List.take_left' (by rw [List.length_map, nm]), List.map_map]
  exact List.map_id _
def StepOk (kn : List Str) (n : Str) (e : PyData) : Prop := NameOk n ∧ n ∉ kn ∧ deedB e = true ∧ ∀ z ∈ dnames e, z ∈ kn
instance (kn : List Str) (n : Str) (e : PyData) : Decidable (StepOk kn n e) := by
  unfold StepOk
  exact inferInstance
def stepB (kn : List Str) : PyData → Option Str
  | .tuple [.str n, e] => if StepOk kn n e then some n else none
  | _ => none
def goesB : List Str → List PyData → Bool
  | _, [] => true
  | kn, d :: r => match stepB kn d with
    | some n => goesB (kn ++ [n]) r
    | none => false
def itemsOf : PyData → Option (List PyData)
  | .list ds => some ds
  | .tuple ds => some ds
  | _ => none
def drawV (kn : List Str) (d : PyData) : Bool := match itemsOf d with
  | some ds => goesB kn ds
  | none => false
theorem goes_bad {kn : List Str} {d : PyData} {r : List PyData} (h : stepB kn d = none) : goesB kn (d :: r) = false := by
  show (match stepB kn d with
    | some n => goesB (kn ++ [n]) r
    | none => false) = false
  rw [h]
theorem goes_good {kn : List Str} {n : Str} {e : PyData} {r : List PyData} (h : StepOk kn n e) : goesB kn (.tuple [.str n, e] :: r) = goesB (kn ++ [n]) r := by
  show (match (if StepOk kn n e then some n else none : Option Str) with
    | some n => goesB (kn ++ [n]) r
    | none => false) = _
  rw [if_pos h]
theorem step_no {kn : List Str} {n : Str} {e : PyData} (h : ¬ StepOk kn n e) : stepB kn (.tuple [.str n, e]) = none := if_neg h
/-- words that may stand ahead of a tuple -/
def Ready (NOW : List Str) (d : PyData) : Prop := ∀ w r, d = .tuple (.str w :: r) → (∃ q, FORM.lookup w = some q) ∨ w ∈ NOW
theorem Ready.other {NOW : List Str} {d : PyData} (h : isT d = false) : Ready NOW d := fun w r e => by
  rw [e] at h
  cases h
theorem Ready.py {NOW : List Str} {d : Deed} (h : DeedOk d) : Ready NOW d.py := fun w r e => by
  obtain ⟨m, k, hm, _⟩ := h
  have e2 : d.word = w := by
    injection e with e
    injection e with e _
    injection e
  rw [← e2]
  exact .inl ⟨_, form_look _ hm⟩
/-! #### what stands there -/
theorem dq_strs {N : List Addr} {H : Hp} : ∀ {ns : List Str} {xs : List V} {ds : List PyData}, DqAll N H xs (ns.map PyData.str ++ ds) → ∃ ys, xs = ns.map V.str ++ ys ∧ DqAll N H ys ds
  | [], xs, ds, h => ⟨xs, rfl, h⟩
  | n :: ns, xs, ds, h => by
    cases h with
    | cons h1 h2 =>
      obtain ⟨ys, rfl, q⟩ := dq_strs h2
      cases h1
      exact ⟨ys, rfl, q⟩
theorem dq_ints {N : List Addr} {H : Hp} : ∀ {is : List Int} {xs : List V}, DqAll N H xs (is.map PyData.int) → xs = is.map V.int
  | [], xs, h => by
    cases h
    rfl
  | n :: ns, xs, h => by
    cases h with
    | cons h1 h2 =>
      rw [dq_ints h2]
      cases h1
      rfl
theorem Dq.deed {N : List Addr} {H : Hp} {v : V} {d : Deed} (h : Dq N H v d.py) : ∃ a, v = .ref a ∧ a ∉ N ∧ H a = some (.tup d.vs) := by
  cases h with
  | tup n e a =>
    cases a with
    | cons h1 h2 =>
      obtain ⟨ys, rfl, q⟩ := dq_strs h2
      have := dq_ints q
      subst this
      cases h1
      exact ⟨_, rfl, n, e⟩
theorem dq_str_of {N : List Addr} {H : Hp} : ∀ (ns : List Str) {xs : List V} {ds : List PyData}, DqAll N H xs ds → DqAll N H (ns.map V.str ++ xs) (ns.map PyData.str ++ ds)
  | [], _, _, h => h
  | n :: ns, _, _, h => .cons (.str n) (dq_str_of ns h)
theorem dq_int_of {N : List Addr} {H : Hp} : ∀ (is : List Int), DqAll N H (is.map V.int) (is.map PyData.int)
  | [] => .nil
  | n :: ns => .cons (.int n) (dq_int_of ns)
theorem Dq.of_deed {N : List Addr} {H : Hp} {a : Addr} {d : Deed} (n : a ∉ N) (h : H a = some (.tup d.vs)) : Dq N H (.ref a) d.py :=
  .tup n h (.cons (.str _) (dq_str_of _ (dq_int_of _)))
/-! #### lists of such -/
theorem F2.drop {α β : Type} {R : α → β → Prop} : ∀ {as : List α} {bs : List β} (n : Nat), F2 R as bs → F2 R (as.drop n) (bs.drop n)
  | _, _, 0, h => h
  | _, _, _ + 1, .nil => .nil
  | _, _, n + 1, .cons _ h => F2.drop n h
theorem F2.take {α β : Type} {R : α → β → Prop} : ∀ {as : List α} {bs : List β} (n : Nat), F2 R as bs → F2 R (as.take n) (bs.take n)
  | _, _, 0, _ => .nil
  | _, _, _ + 1, .nil => .nil
  | _, _, n + 1, .cons h1 h => .cons h1 (F2.take n h)
theorem dp_some {K : PySem.W.Frag} {N : List Addr} {H : Hp} {ys : List V} {es : List PyData} (h : F2 (Dq N H) ys es) (g : ∀ e ∈ es, gdb e = true) : DpAll K H ys es ∧ PyData.canLayAll0 es = true ∧ PyData.depthAll es ≤ 50 := by
  have c := lay_all fun e he => (gdb_lay (g e he)).1
  exact ⟨DqAll.dp es ys (DqAll.of h) c, c, depth_all fun e he => (gdb_lay (g e he)).2⟩
theorem eqv_nilL (es : List PyData) : PyData.eqv (.list es) (.list []) = es.isEmpty := by
  cases es <;> rfl
theorem tail_neD {K : PySem.W.Frag} {N : List Addr} {σ : L2.St} {H : Hp} {D : Addr} {ys : List V} {es : List PyData} {Q : VK} (hD : H D = some (.lst ys)) (hf : F2 (Dq N H) ys es) (g : ∀ e ∈ es, gdb e = true) (k : ∀ H', Same H H' → Q (.bl (!ys.isEmpty)) H') : tLst tNil σ H fun y H2 => rNeD K (.ref D) y H2 Q := by
  refine ⟨(by show 0 ≤ sizeLine; decide), fun q nq => ?_⟩
  have s := same_upd (o := .lst []) nq
  obtain ⟨a, b, c⟩ := dp_some (K := K) (hf.mono fun _ _ z => z.same s) g
  refine ⟨.list es, .list [], .lst (SqL.of (s _ _ hD)) a, .lst (SqL.of upd_same) .nil, ?_, rfl, ?_⟩
  · show (PyData.canLayAll0 es && decide (PyData.depthAll es + 1 ≤ 64)) = true
    rw [b, decide_eq_true (by omega)]
    rfl
  · rw [eqv_nilL]
    have e : es.isEmpty = ys.isEmpty := by
      have := hf.len
      cases ys <;> cases es <;> first | rfl | cases this
    rw [e]
    exact k _ s
end Own
set_option Elab.async false
set_option linter.all false
set_option maxRecDepth 100000
set_option maxHeartbeats 400000
namespace L2
open PySem PySem.Spec PyProof.Rows
/-! ### d.get(k, x) of a written dict -/
section
variable {X : Cx} {d : Addr} {es : Array DictEntry} {n : Nat}
theorem mt_get_kd (D : KDict X.K X.w d es n) : MtR X "dict.get" (fun x xs H Q => ∃ (z : Str) (dv : V), x = .ref d ∧ xs = [.str z, dv] ∧ ((∃ u0 v0, PySem.W.nsIn X.K d z = some (some u0) ∧ RelV v0 u0 ∧ Q v0 H) ∨ (PySem.W.nsIn X.K d z = some none ∧ Q dv H))) := by
  intro pins s σ H x xs v us Q I rx rs h
  obtain ⟨z, dv, rfl, rfl, h⟩ := h
  cases rx
  obtain ⟨u1, u2, rfl, r1, r2⟩ := vals2 rs
  obtain ⟨t, rfl⟩ := r1
  have hm := PySem.W.mapOf_K (prog := X.prog) (w := X.w) I.kIn D.at_ D.lit
  refine call_meetsIn PySem.F.slot_dict_get hm.typeIs PySem.F.entry_dict_get (PySem.F.args_dict_get_3 _ _ _) (meets_dict_get_default (PySem.strKind X.prog X.w) d (PySem.strKind_is X.prog X.w z t) D.low u2) ⟨_, hm, ?_⟩
  rcases h with ⟨u0, v0, e, r, q⟩ | ⟨e, q⟩
  · rw [PySem.W.find_K D.at_ e]
    exact ⟨v0, H, I.tok _, r, q⟩
  · rw [PySem.W.find_K D.at_ e]
    exact ⟨dv, H, I.tok _, r2, q⟩
/-- o.get(e, f), o a written dict -/
def tGetK (K : PySem.W.Frag) (d : Addr) (td : TE) (t : TA) : TE := fun σ H Q => td σ H fun x H1 => x = .ref d ∧ t σ H1 fun xs H2 => ∃ (z : Str) (dv : V), xs = [.str z, dv] ∧ ((∃ u0 v0, PySem.W.nsIn K d z = some (some u0) ∧ RelV v0 u0 ∧ Q v0 H2) ∨ (PySem.W.nsIn K d z = some none ∧ Q dv H2))
theorem pe_getK {o e : Expr} {ex : List Expr} {apos cpos : Pos} {td : TE} {t : TA} (D : KDict X.K X.w d es n) (ho : PE X o td) (ha : PA X (e :: ex) t) (hbase : attributeBase o "get" X.env (eval o X.env) = eval o X.env := by rfl)
    (hfew : ((backTo cpos (starEach (e :: ex) X.env)).all (fun x => !x.1) && (backToKw cpos (keywordEach [] X.env)).all (fun x => x.1.isSome)
      && decide ((e :: ex).length + ([] : List Keyword).length + (if ([] : List Keyword).isEmpty then 0 else 1) < 30)) = true := by rfl)
    (hline : (apos.endLine == cpos.line) = true := by rfl) (hs : starEach (e :: ex) X.env = (false, eval e X.env) :: starEach ex X.env := by rfl) (hplain : (backTo cpos (starEach ex X.env)).any (·.1) = false := by rfl) :
    PE X (.Call (.Attribute o "get" apos) (e :: ex) [] cpos) (tGetK X.K d td t) := by
  refine ⟨fun pins s σ H Q I h => ?_⟩
  refine wpAny_Call_method hbase hfew hline PySem.F.plainAttrs_dict PySem.F.slot_dict_get PySem.F.type_dict_get (thn (ho.run pins s σ H _ I h) fun u s1 q => ?_)
  obtain ⟨x, H1, I1, rx, rfl, q1⟩ := q
  cases rx
  have hm := PySem.W.mapOf_K (prog := X.prog) (w := X.w) I1.kIn D.at_ D.lit
  refine ⟨hm.typeIs, hm.noDict, ?_⟩
  have hA := ha.run cpos pins s1 σ H1 _ I1 q1
  rw [hs] at hA ⊢
  refine Calls.callWith_builtin (by show (false || (backTo cpos (starEach ex X.env)).any (·.1)) = false; rw [hplain] <;> rfl) (Calls.evalArgs_plain ?_)
  exact thn hA fun us s2 q2 => by
    obtain ⟨vs, H2, I2, r2, z, dv, e2, q3⟩ := q2
    exact mt_get_kd D pins s2 σ H2 (.ref d) vs (.ref d) us Q I2 rfl r2 ⟨z, dv, rfl, e2, q3⟩
end
end L2
set_option Elab.async false
set_option linter.all false
set_option maxRecDepth 100000
set_option maxHeartbeats 4000000
namespace Own
open PySem PySem.Spec PyProof.Rows L2
/-! ### enumerate over a tuple, and over what is a list or a tuple -/
section
open PySem (wpAny_stack_any)
theorem meets_enum1 {v : Value} {o : Obj} {G : Heap → Prop} (B : Begins v o G) :
    Meets (Builtin.«enumerate.__new__» ⟨[.type "enumerate", v], []⟩) (fun _ R s => G s.heap ∧
      R (.ok (.ret (.ref (s.heap.push o).objs.size))) { s with heap := (s.heap.push o).push { cls := .type "enumerate", data := .fields #[.none, .bool false, .ref s.heap.objs.size, rawInt 0, .none, .none] } }) := by
  refine Meets.of_wp fun prog w A R s h => ?_
  obtain ⟨hp, gg, dd, tk, os⟩ := s
  obtain ⟨hG, hR⟩ := h
  have hsub := sub_enumerate
  have q1 : ∀ {A2 : Around} {E : Value → Shared → Prop} {Q : Value → Shared → Prop}, Q (.ref hp.objs.size) ⟨hp.push o, gg, dd, tk, os⟩ → wpAny (model prog w) A2 (pyIter v) Q E ⟨hp, gg, dd, tk, os⟩ := fun q => B.iter prog w _ _ ⟨hp, gg, dd, tk, os⟩ _ hG q
  wp_walk using q1
  refine wpAny_stack_any fun st => wpAny_pure ?_
  split
  · rename_i c _ _ _ _ _
    cases (c == Value.type "enumerate") with
    | false => wp_walk using q1; exact ⟨_, rfl, hR⟩
    | true => wp_walk using q1; exact ⟨_, rfl, hR⟩
  · wp_walk using q1
    exact ⟨_, rfl, hR⟩
theorem call_enum_tuple {prog : Program} {w : World} {A : Around} {E : Value → Shared → Prop} {s : Shared} {l : Addr} {items : Array Value} {Q : Value → Shared → Prop} (hT : s.heap.IsTuple l items)
    (h : ∀ h', IsEnum h' (s.heap.objs.size + 1) s.heap.objs.size 0 .none → h'.IsTupleIter s.heap.objs.size l 0 → (∀ b o, s.heap.get? b = some o → h'.get? b = some o) → Q (.ref (s.heap.objs.size + 1)) { s with heap := h' }) :
    wpAny (model prog w) A (call (.type "enumerate") [.ref l]) Q E s := by
  refine callType_new F.called_enumerate (by decide) (F.typeCall_enumerate_1 _) (F.newCall_enumerate_1 _) (fun obj => F.args_object_init_2 obj _) F.entry_enumerate_new (meets_enum1 (begins_tuple l items)) ⟨hT, ?_⟩
  have hz : (s.heap.push { cls := .type "tuple_iterator", data := .fields #[.ref l, .int 0 0] }).objs.size = s.heap.objs.size + 1 := Heap.size_push ..
  show _ ∧ _
  rw [hz]
  have atE := Heap.get?_push_size (s.heap.push { cls := .type "tuple_iterator", data := .fields #[.ref l, .int 0 0] }) (o := { cls := .type "enumerate", data := .fields #[.none, .bool false, .ref s.heap.objs.size, rawInt 0, .none, .none] }) rfl
  rw [hz] at atE
  exact ⟨⟨_, atE, rfl⟩, h _ atE ⟨_, Heap.get?_push_of_some _ (Heap.get?_push_size _ rfl), rfl, rfl⟩ fun b o x => Heap.get?_push_of_some _ (Heap.get?_push_of_some _ x)⟩
end
theorem next_enum_tupEnd {prog : Program} {w : World} {A : Around} {E : Value → Shared → Prop} {s : Shared} {e it l : Addr} {i : Nat} {items : Array Value} {old : Value} {Q : Option Value → Shared → Prop} (hh : A.handled = none)
    (he : IsEnum s.heap e it i old) (hit : s.heap.IsTupleIter it l i) (hl : s.heap.IsTuple l items) (hx : items[i]? = none) (hQ : ∀ h', Heap.ExtBut it s.heap h' → Q none { s with heap := h' }) : wpAny (model prog w) A (pyNext (.ref e)) Q E s := by
  have ty : s.TypeIs (.ref e) "enumerate" := ⟨_, he, rfl⟩
  unfold pyNext
  refine wpAny_bind (wpAny_attempt (wpAny_callSpecial?_slot (name := Str.ofString "__next__") ty F.slot_enumerate_next (wpAny_call_entry F.slot_enumerate_next ty F.entry_enumerate_next ?_ (F.args_enumerate_next_1 _))))
  show wpAny _ _ (field (.ref e) 2 >>= _) _ _ s
  refine wpAny_bind (wpAny_field he rfl (x := .ref it) rfl (wpAny_bind (wpAny_nextOf_tuple_end (show A.in1.handled = none from hh) hit hl hx fun h1 x he1 hx1 => ?_)))
  obtain ⟨o, ho, hc⟩ := hx1
  exact wpAny_bind (wpAny_isInstance (T := "StopIteration") (b := true) ⟨o, ho, hc⟩ isSubtype_stop (wpAny_pure (hQ _ he1)))
def IteT (K : PySem.W.Frag) (a : Addr) : It :=
  ⟨fun i H => ∃ (xs : List V) (x : V), SqT K H a xs ∧ xs[i]? = some x, fun i H v H' => ∃ T x, v = .ref T ∧ H T = none ∧ H' = L2.upd H T (.tup [.int (i : Nat), x]) ∧ ∀ xs, SqT K H a xs → xs[i]? = some x, fun i H => ∃ xs : List V, SqT K H a xs ∧ xs.length ≤ i⟩
theorem turn_enumT {P : Program} {w : World} {K : PySem.W.Frag} {elts : List Expr} {kk : Nat} {tpos : Pos} (a e it : Addr) :
    Turn P w K (.Tuple elts kk tpos) (IteT K a) [e, it] e (fun i h => (∃ old, IsEnum h e it ((i : Nat) : Int) old) ∧ h.IsTupleIter it a i ∧ e ≠ it) := by
  have two : ∀ {b : Addr}, b ∈ [e, it] → b = e ∨ b = it := fun hb => by simpa using hb
  refine ⟨by simp, fun i h st b hb => ?_, fun i h h' st k => ?_, ?_, ?_, fun A i s Q E st h => ?_⟩
  · obtain ⟨⟨old, he⟩, ⟨o, ho, hc, hd⟩, _⟩ := st
    cases two hb with
    | inl z => subst z; exact ⟨_, he, fun v q => nomatch q⟩
    | inr z => subst z; exact ⟨o, ho, fun v q => by rw [hd] at q; cases q⟩
  · obtain ⟨⟨old, he⟩, hi, hne⟩ := st
    exact ⟨⟨old, k e (by simp) _ he⟩, hi.at fun o q => k it (by simp) o q, hne⟩
  · intro X hP hw hK hc i pins s σ H E I hf st hg
    subst hP hw hK
    obtain ⟨⟨old, he⟩, hit, hne⟩ := st
    obtain ⟨xs, x, hq, hx⟩ := hg
    obtain ⟨its, rv, p, hz⟩ := I.tuple hq
    have pT : s.heap.IsTuple a its.toArray := p
    have eN : e ≠ a := fun z => by
      obtain ⟨o, ho, hcl, _⟩ := pT
      subst z
      rw [he] at ho
      cases ho
      injection hcl with q
      revert q
      decide
    have iN : a ≠ it := fun z => by
      obtain ⟨o, ho, hcl, _⟩ := pT
      obtain ⟨o2, ho2, hcl2, _⟩ := hit
      subst z
      rw [ho] at ho2
      cases ho2
      rw [hcl] at hcl2
      injection hcl2 with q
      revert q
      decide
    have el : e < s.heap.objs.size := Heap.lt_size he
    have il : it < s.heap.objs.size := by
      obtain ⟨_, q, _⟩ := hit
      exact Heap.lt_size q
    have hlen := (List.getElem?_eq_some_iff.mp hx).1
    have hn := rv.length
    refine wpAny_pyNext_enum_itemC (Draws.tuple (A := X.A.in1) (show X.A.in1.handled = none from I.ok.hd hc) it a iN its.toArray) he ⟨hit, pT⟩ (by simp; omega) hne (by simp [hne, eN]) fun u h1 tk hu ho hst hT hsz hk => ?_
    refine ⟨_, rfl, wpAny_letOwnedTupleGo_enum (s := { s with heap := h1, toks := tk + 1 }) ho fun h2 he2 sb => ?_⟩
    have hT2 : h2.get? s.heap.objs.size = some { cls := .type "tuple", data := .seq #[.int i tk, u] } := (sb.2 _ (Nat.ne_of_gt el)).trans hT
    have ru : RelV x u := by
      obtain ⟨u2, hu2, r2⟩ := rv.get hx
      have : its.toArray[i]? = its[i]? := by simp
      rw [this, hu2] at hu
      cases hu
      exact r2
    have I1 : Inv X pins σ (L2.upd H s.heap.objs.size (.tup [.int (i : Nat), x])) { s with heap := h2, toks := tk + 1 } :=
      I.turnedNew (ch := [e, it]) (fun b ob hb q => (sb.2 b (fun z => hb (by simp [z]))).trans (hk b ob (fun z => hb (by simp [z])) (fun z => hb (by simp [z])) q)) hf (Nat.le_refl _)
        ⟨by show 2 ≤ sizeLine; decide, [.int i tk, u], .cons ⟨_, rfl⟩ (.cons ru .nil), ⟨_, hT2, rfl, _, rfl⟩⟩
    refine ⟨.ref s.heap.objs.size, _, I1, rfl, ⟨_, x, rfl, I.hok.fresh (Nat.le_refl _), rfl, fun ys hy => by rw [I.tuple_inj hy hq]; exact hx⟩, ⟨⟨u, ?_⟩, hst.1.at fun o q => (sb.2 it (Ne.symm hne)).trans q, hne⟩, fun b hb => ?_⟩
    · have e1 : ((i + 1 : Nat) : Int) = (i : Int) + 1 := by omega
      rw [e1]
      exact he2
    · have lt : b < s.heap.objs.size := by
        cases two hb with
        | inl z => subst z; exact el
        | inr z => subst z; exact il
      rw [upd_ne (Nat.ne_of_lt lt)]
      exact (hf b hb).1
  · intro X hP hw hK hc i pins s σ H E I hf st hg
    subst hP hw hK
    obtain ⟨⟨old, he⟩, hit, hne⟩ := st
    obtain ⟨xs, hq, hx⟩ := hg
    obtain ⟨its, rv, p, hz⟩ := I.tuple hq
    obtain ⟨f0, f1, f2, f3, f4, f5⟩ := hf it (by simp)
    have pT : s.heap.IsTuple a its.toArray := p
    have hl := rv.length
    exact next_enum_tupEnd (I.ok.hd hc) he hit pT (by simp; omega) fun h1 eb => ⟨rfl, I.turned (t' := s.toks) (fun b o hb q => eb b o hb q) f0 f1 f3 f4 f5⟩
  · obtain ⟨⟨old, he⟩, _⟩ := st
    exact wpAny_pyIter_enum he h
/-- enumerate(e), e a list or a tuple -/
def iEnumS (K : PySem.W.Frag) (ta : TA) : TI := fun σ H R => ta σ H fun vs H1 => ∃ a, vs = [.ref a] ∧ ((∃ xs, SqL K H1 a xs ∧ R (Ite K a) H1) ∨ ∃ xs, SqT K H1 a xs ∧ R (IteT K a) H1)
theorem pi_enumS {X : Cx} {e : Expr} {ta : TA} {p pos tpos : Pos} {elts : List Expr} {kk : Nat} (hg : Gl X "enumerate") (hm : X.mg "enumerate" = none) (ha : PA X [e] ta) (hs : starEach [e] X.env = [(false, eval e X.env)] := by rfl) :
    PI X (.Tuple elts kk tpos) (.Call (.Name "enumerate" p) [e] [] pos) (iEnumS X.K ta) := by
  refine ⟨fun pins s σ H R I h => ?_⟩
  refine Call_ (ld_blt I hg hm boot_enumerate (PyProof.Rows.callWith_type1 (thn (ha.run pos pins s σ H _ I h) fun us s1 h1 => ?_) hs rfl))
  obtain ⟨vs, H1, I1, r1, a, rfl, q⟩ := h1
  match us, r1 with
  | [_], .cons r .nil =>
    cases r
    have low : ∀ b ∈ [s1.heap.objs.size + 1, s1.heap.objs.size], s1.heap.objs.size ≤ b := fun b hb => by
      have : b = s1.heap.objs.size + 1 ∨ b = s1.heap.objs.size := by simpa using hb
      omega
    rcases q with ⟨xs, hq, q⟩ | ⟨xs, hq, q⟩
    · obtain ⟨its, rv, pl, hz⟩ := I1.list hq
      refine call_enumerate_list pl.isList fun h2 he hit hsz hk => wpAny_pyIter_enum he ?_
      exact ⟨s1.heap.objs.size + 1, [s1.heap.objs.size + 1, s1.heap.objs.size], _, _, H1, rfl, I1.kept (t' := s1.toks) hk, turn_enum a _ _, ⟨⟨.none, he⟩, hit, Nat.succ_ne_self _⟩, fun b hb => I1.fpOk (low b hb) (I1.hok.fresh (low b hb)), q⟩
    · obtain ⟨its, rv, pl, hz⟩ := I1.tuple hq
      refine call_enum_tuple (show s1.heap.IsTuple a its.toArray from pl) fun h2 he hit hk => wpAny_pyIter_enum he ?_
      exact ⟨s1.heap.objs.size + 1, [s1.heap.objs.size + 1, s1.heap.objs.size], _, _, H1, rfl, I1.kept (t' := s1.toks) hk, turn_enumT a _ _, ⟨⟨.none, he⟩, hit, Nat.succ_ne_self _⟩, fun b hb => I1.fpOk (low b hb) (I1.hok.fresh (low b hb)), q⟩
theorem walk_enumT {K : PySem.W.Frag} {a : Addr} {xs : List V} : Walk (IteT K a) xs.length (fun H => SqT K H a xs) (YPair (fun i => some (.int (i : Nat))) (fun i => xs[i]?)) := by
  refine ⟨fun i _ hi q => ⟨xs, xs[i], q, by simp [hi]⟩, fun _ q => ⟨xs, q, Nat.le_refl _⟩, fun i H v H' _ q y => ?_⟩
  obtain ⟨T, x, e1, e2, e3, e4⟩ := y
  exact ⟨T, _, x, e1, e2, e3, rfl, e4 xs q⟩
end Own
set_option Elab.async false
set_option linter.all false
set_option maxRecDepth 100000
set_option maxHeartbeats 4000000
namespace Own
open PySem PySem.Spec PyProof.Rows L2 LamX
/-! ### f(k = v, ..), all by keywords -/
section
variable {X : Cx} {CX : CXT} {k : Nat} {f : Addr} {fd : FuncData} {ps ks : List Str} {sp : Sp} {E : XK} {x : Str} {p pos : Pos} {kws : List Keyword} {tk : TA} {g : List Value → List Value → List Value} {gV : List V → List V → List V}
def tCallK0 (m : Nat) (sp : Sp) (gV : List V → List V → List V) (E : XK) (tk : TA) : TE := fun σ H Q => tk σ H fun zs H2 => zs.length = m ∧ sp (gV [] zs) H2 Q E
theorem pe_kw0 (F : FnOk X.prog X.w X.K X.mg X.base CX k f fd ps sp) (hr : Room k X.A) (hg : Gl X x) (hm : X.mg x = some (.ref f)) (hk : PySem.W.keepIn X.K (.ref f) = true) (hb : KBn X.K fd ps 0 ks g gV) (hx : Passes CX X E) (hkw : PK X kws tk)
    (hall : (backToKw pos (keywordEach kws X.env)).all (·.1.isSome) = true := by rfl) (hks : (backToKw pos (keywordEach kws X.env)).filterMap (·.1) = ks := by rfl) (hdb : (x == ("__debug__" : Str)) = false := by decide)
    (hpl : ((backTo pos (starEach [] X.env)).any (·.1) || (backToKw pos (keywordEach kws X.env)).any (·.1.isNone)) = false := by rfl) : PE X (.Call (.Name x p) [] kws pos) (tCallK0 ks.length sp gV E tk) := by
  constructor
  intro pins s σ H Q I h
  refine wpAny_Call_Name_kw (ld_glob I hg hm (PySem.W.callWith_KW0 (h₀ := X.base) I.ok.mod.kin hk hall (thn (hkw.run pos pins s σ H _ I h) fun ws s2 ⟨zs, H2, I2, rz, l2, q2⟩ => ⟨I2.kIn, ?_⟩) hpl) hdb)
  rw [hks]
  exact run_fnN (us := []) (vs := []) F hr hb hx I2 .nil rz rfl l2 q2
end
theorem kb_one {K : PySem.W.Frag} {x qual : Str} {params : Arguments} {body : List Stmt} {scope : Scope} {kws : List (Str × V)} {f : Addr} {fd : FuncData} {p : Str} (F : FunD K x qual params body scope [] kws f fd)
    (h : ∀ (kV doc pm : Value) (an : Option Addr) (cdv ct u : Value), bindArgs (PySem.W.fnOf x qual params body scope .none kV doc pm an cdv ct) ⟨[], [(p, u)]⟩ = pure [(p, u)]) : KBn K fd [p] 0 [p] (fun _ ws => ws) (fun _ zs => zs) := by
  obtain ⟨oc, od, dV, kV, doc, pm, an, cdv, ct, osl, rfl, lk, hcd, hD, hK⟩ := F.ex
  refine ⟨fun s us ws X l1 l2 => ?_, fun _ r => r⟩
  match us, ws, l1, l2 with
  | [], [u], _, _ =>
    rcases hD with ⟨_, rfl⟩ | ⟨e, _⟩
    · exact .of_eq (h kV doc pm an cdv ct u)
    · exact absurd rfl e
/-- len of a list, a tuple, the written part told by its own name -/
theorem call_lenK {X : Cx} {K : PySem.W.Frag} (hK : X.K = K) : CallR X (.builtin "len") (fun xs H Q => ∃ p ys, xs = [.ref p] ∧ (SqL K H p ys ∨ SqT K H p ys) ∧ Q (.int (List.length ys)) H) := by
  subst hK
  exact call_len_seq
end Own
set_option Elab.async false
set_option linter.all false
set_option maxRecDepth 100000
set_option maxHeartbeats 400000
namespace Own
open PySem PySem.Spec PyProof.Rows L2 LamX
/-! ### what the walk asks of the module -/
/-- the module's constants -/
structure Cst (K : PySem.W.Frag) (mg : Str → Option Value) : Prop where
  letters : ∃ t, mg "LETTERS" = some (.str "abcdefghijklmnopqrstuvwxyz" t)
  digits : ∃ t, mg "DIGITS" = some (.str "0123456789" t)
/-- the module's two tables -/
structure Dct (NOW : List Str) (K : PySem.W.Frag) (w : World) (mg : Str → Option Value) : Prop where
  forms : ∃ p es n, mg "FORMS" = some (.ref p) ∧ KDict K w p es n ∧ (∀ t ∈ FORM, ∃ q, PySem.W.nsIn K p t.1 = some (some (.ref q)) ∧ ∀ H, SqT K H q [.int t.2.1, .int t.2.2]) ∧ ∀ z ∈ NOW, PySem.W.nsIn K p z = some none
  others : ∃ p es n, mg "OTHERS" = some (.ref p) ∧ KDict K w p es n ∧ ∀ t ∈ FORM, (∃ z u, OTHL.lookup t.1 = some z ∧ PySem.W.nsIn K p t.1 = some (some (.str z u))) ∨ (OTHL.lookup t.1 = none ∧ PySem.W.nsIn K p t.1 = some none)
/-- an error class without fields -/
structure ExcT (K : PySem.W.Frag) (mg : Str → Option Value) (x : Str) (C : Addr) : Prop where
  g : mg x = some (.ref C)
  x : PySem.W.excIn K C He.veBase "ValueError.__new__" = true
  k : PySem.W.keepIn K (.ref C) = true
  b : PySem.W.subIn K (.ref C) (.type "BaseException") = some true
  t : PySem.W.typeIn K (.ref C) = some (.type "type")
/-- a def of the module, ready to be called -/
structure Fk (P : Program) (w : World) (K : PySem.W.Frag) (mg : Str → Option Value) (base : Heap) (CX : CXT) (k : Nat) (x : Str) (fd : FuncData) (ps : List Str) (sp : Sp) : Prop where
  ok : FnOk P w K mg base CX k (He.ga K x) fd ps sp
  b : Binds K fd ps []
  kp : PySem.W.keepIn K (.ref (He.ga K x)) = true
  g : mg x = some (.ref (He.ga K x))
def signs (z : Str) : List V := z.cps.toList.map fun c => V.str ⟨#[c]⟩
theorem walk_signs {z : Str} : Walk (Its z) (signs z).length (fun _ => True) (YAt (signs z)) := by
  have e : (signs z).length = z.cps.size := by unfold signs; rw [List.length_map, Array.length_toList]
  rw [e]
  refine walk_str.mono (fun _ h => h) fun i H x H' hi _ y => ?_
  obtain ⟨e1, c, hc, rfl⟩ := y
  refine ⟨e1, ?_⟩
  unfold signs
  rw [List.getElem?_map, Array.getElem?_toList, hc]
  rfl
theorem signs_len (z : Str) : (signs z).length = z.length := by
  unfold signs
  rw [List.length_map]
  rfl
theorem cut_mid {xs : List V} {i j : Nat} (hj : j ≤ xs.length) (hi : i ≤ j) : cutV xs (some (i : Int)) (some (j : Int)) = (xs.drop i).take (j - i) := by
  show (xs.drop (HT.sIx xs.length 0 (some (i : Int)))).take (HT.sIx xs.length xs.length (some (j : Int)) - HT.sIx xs.length 0 (some (i : Int))) = _
  rw [HT.sIx_nat, HT.sIx_nat, Nat.min_eq_left hj, Nat.min_eq_left (by omega)]
theorem cut_mid1 {xs : List V} {m : Nat} (hj : 1 + m ≤ xs.length) : cutV xs (some 1) (some (1 + (m : Int))) = (xs.drop 1).take m := by
  have e : (1 + (m : Int)) = ((1 + m : Nat) : Int) := by omega
  rw [e]
  have := cut_mid (i := 1) hj (by omega)
  rw [Nat.add_sub_cancel_left] at this
  exact this
theorem cut_notwhole {xs : List V} {j : Option Int} (h : 0 < xs.length) : ¬ (HT.sIx xs.length 0 (some 1) = 0 ∧ HT.sIx xs.length xs.length j = xs.length) := by
  rintro ⟨h1, _⟩
  have e : HT.sIx xs.length 0 (some ((1 : Nat) : Int)) = min 1 xs.length := HT.sIx_nat _ _ _
  have h' : HT.sIx xs.length 0 (some ((1 : Nat) : Int)) = 0 := h1
  omega
theorem fok_name {z : Str} (h : NameOk z) : fok (.str z) = true := by
  show z.cps.all (· < 0x110000) = true
  rw [← Array.all_toList, List.all_eq_true]
  intro c hc
  have h1 : ∀ c ∈ LEDI, c < 0x110000 := by decide +kernel
  exact decide_eq_true (h1 c (h.2.2.2 c hc))
theorem fok_names {ns : List Str} (h : ∀ z ∈ ns, NameOk z) : (ns.map V.str).all fok = true := by
  rw [List.all_map, List.all_eq_true]
  exact fun z hz => fok_name (h z hz)
theorem fok_signs {z : Str} (h : fok (.str z) = true) : ∀ x ∈ signs z, fok x = true := fun x hx => by
  obtain ⟨c, hc, rfl⟩ := List.mem_map.mp hx
  have h' : z.cps.all (· < 0x110000) = true := h
  rw [← Array.all_toList, List.all_eq_true] at h'
  have := h' c hc
  show (#[c] : Array Nat).all (· < 0x110000) = true
  rw [← Array.all_toList]
  show (decide (c < 0x110000) && true) = true
  rw [this]
  rfl
end Own
set_option Elab.async false
set_option linter.all false
set_option maxRecDepth 100000
set_option maxHeartbeats 400000
namespace Own
open PySem PySem.Spec PyProof.Rows L2 LamX
/-! ### is_name of any value -/
def spName : Sp := fun vs H Q _ => ∃ (x : V) (d : PyData), vs = [x] ∧ Dq [] H x d ∧ vdb d = true ∧ ∀ H', Same H H' → Q (.bl (nameB d)) H'
/-- a sign that may stand in a name -/
def ledB : V → Bool
  | .str z => decide (∀ c ∈ z.cps.toList, c ∈ LEDI)
  | _ => false
theorem name_none {d : PyData} (h : isS d = false) : nameB d = false := by
  cases d <;> first | rfl | cases h
theorem vdb_gdb {d : PyData} (h : vdb d = true) (n : isD d = false) : gdb d = true := by
  unfold vdb at h
  rw [n] at h
  exact h
theorem name_eq {z : Str} {c : Nat} {r : List Nat} (ec : z.cps.toList = c :: r) (h8 : z.length ≤ 8) : nameB (.str z) = (decide (c ∈ LET) && !(signs z).any fun x => !ledB x) := by
  show decide (NameOk z) = _
  have z2 : z ≠ "" := fun e => by
    rw [e] at ec
    cases ec
  have e1 : (!(signs z).any fun x => !ledB x) = decide (∀ c ∈ z.cps.toList, c ∈ LEDI) := by
    rw [Bool.eq_iff_iff, Bool.not_eq_true', ← Bool.not_eq_true, List.any_eq_true, decide_eq_true_iff]
    constructor
    · intro h c hc
      refine Classical.byContradiction fun n => h ⟨.str ⟨#[c]⟩, List.mem_map.mpr ⟨c, hc, rfl⟩, ?_⟩
      show (!decide (∀ x ∈ ([c] : List Nat), x ∈ LEDI)) = true
      simpa using n
    · rintro h ⟨x, hx, hn⟩
      obtain ⟨c, hc, rfl⟩ := List.mem_map.mp hx
      have : (!decide (∀ x ∈ ([c] : List Nat), x ∈ LEDI)) = true := hn
      have q := h c hc
      simp [q] at this
  rw [e1, Bool.eq_iff_iff, decide_eq_true_iff, Bool.and_eq_true, decide_eq_true_iff, decide_eq_true_iff]
  unfold NameOk
  rw [ec]
  constructor
  · rintro ⟨_, _, a, b⟩
    exact ⟨a c rfl, b⟩
  · rintro ⟨a, b⟩
    exact ⟨h8, z2, fun y hy => by cases hy; exact a, b⟩
section
variable {P : Program} {w : World} {K : PySem.W.Frag} {mg : Str → Option Value} {base : Heap} {f fN fI fD : Addr} {fd2 fdN fdI fdD : FuncData}
theorem scName : FnScope ["value", "mark"] ["value"] (defScope sName) := ⟨rfl, rfl, rfl, by decide +kernel, rfl, by decide +kernel, by decide +kernel⟩
theorem ok_name (F : FnP K "is_name" sName f fd2) (T : Txt K mg) (C : Cst K mg) : FnOk P w K mg base CX0 1 f fd2 ["value"] spName := by
  obtain ⟨tl, hl⟩ := C.letters
  obtain ⟨td, hd⟩ := C.digits
  refine F.ok scName (fun vs H Q E h => ?_) (fun cdv A outer s H vs Q E hr h => ?_)
  · obtain ⟨x, d, rfl, _⟩ := h
    rfl
  · obtain ⟨x, d, rfl, hx, vd, k⟩ := h
    refine ⟨_, PSs.nox (pss_cons (ps_if (PW.pt (pw_or (pt_not (pt_val (pe_callB call_isi (by rfl) T.isi boot_isinstance (pa_cons (pv 0) (pa_cons (pe_bltn (v := .ty "str") (by rfl) T.str (by decide +kernel) rfl) pa_nil)))))
        (pw_or (pt_cmpR op_eq (pv 0) pe_str (nomark _)) (pw_or1 (pt_cmpR op_gt (pe_callB call_len_str (by rfl) T.len PySem.boot_len (pa_cons (pv 0) pa_nil)) pe_int (nomark _)))))) (pss_one (ps_ret pe_bl)) pss_nil)
      (pss_one (ps_ret (pe_and (pe_cmpR op_in_sign (pe_ix ix_str (pv 0) pe_int (fun _ _ => rfl)) (pe_glob (v := .str "abcdefghijklmnopqrstuvwxyz") (by rfl) hl ⟨_, rfl⟩) (by rfl))
        (pe_one (pe_cmpR (op_eqD hr.units) (pe_lc (own := [("mark", 1)]) (g := gName 1) (by rfl) scName.nd (pi_str (pv 0)) (blkOk_by (own := [("mark", 1)]) (N := ["value", "mark"]) (sc := defScope sName) (by decide +kernel))
          (fun _ _ _ _ _ => pg_name (i := 1) scName.nd rfl (Or.inl rfl)) (fun _ _ _ _ _ => pts_one (pt_cmpR op_notIn_sign (pv 1) (pe_op op_add_str (pe_glob (v := .str "abcdefghijklmnopqrstuvwxyz") (by rfl) hl ⟨_, rfl⟩) (pe_glob (v := .str "0123456789") (by rfl) hd ⟨_, rfl⟩)) (by rfl))) (fun _ _ _ _ _ => pv 1)) (pe_lst pa_nil) (nomark _))))))), ?_⟩
    refine ⟨_, rfl, x, .ty "str", .type (tyOf d), .type "str", isS d, rfl, .ty _, hx.ty, kit_ty (kit_str d), _, rfl, ?_⟩
    cases es : isS d with
    | false =>
      refine iteT ?_
      have q := k H (Same.refl _)
      rw [name_none es] at q
      exact q
    | true =>
      refine iteF ?_
      obtain ⟨z, rfl⟩ : ∃ z, d = .str z := by
        cases d <;> first | exact ⟨_, rfl⟩ | cases es
      obtain ⟨zl, zf⟩ := gdb_str (vdb_gdb vd rfl)
      cases hx
      have zs : z.length ≤ sizeLine := Nat.le_trans zl (by decide)
      refine ⟨_, rfl, rfl, _, rfl, ?_⟩
      rw [decStr]
      by_cases z2 : z = ""
      · rw [decide_eq_true z2]
        refine iteT ?_
        have q := k H (Same.refl _)
        have e : nameB (.str z) = false := decide_eq_false fun h => h.2.1 z2
        rw [e] at q
        exact q
      rw [decide_eq_false z2]
      refine iteF ?_
      refine ⟨_, rfl, z, rfl, zs, _, _, rfl, rfl, _, rfl, ?_⟩
      by_cases z8 : z.length ≤ 8
      · have e8 : decide ((8 : Int) < ((z.length : Nat) : Int)) = false := decide_eq_false (by omega)
        rw [e8]
        refine iteF ?_
        obtain ⟨c, r, ec⟩ : ∃ c r, z.cps.toList = c :: r := by
          cases e : z.cps.toList with
          | nil =>
            exfalso
            apply z2
            exact TL.ext_tl e
          | cons c r => exact ⟨c, r, rfl⟩
        have en := name_eq ec z8
        rw [en] at k
        refine ⟨_, rfl, z, _, c, rfl, rfl, zs, ?_, ⟨c, _, rfl, rfl, decide (c ∈ LET), rfl, ?_⟩⟩
        · rw [ec]
          exact atI_nat (j := 0) rfl
        cases hc : decide (c ∈ LET) with
        | false =>
          refine iteF ?_
          have q := k H (Same.refl _)
          rw [hc] at q
          exact q
        | true =>
          refine iteT ?_
          refine ⟨_, rfl, z, rfl, fun D nD => ?_⟩
          have sl : (signs z).length < sizeLine := by
            rw [signs_len]
            exact Nat.lt_of_le_of_lt z8 (by decide)
          refine lc_filt (p := fun x => !ledB x) walk_signs nD sl (fun _ _ => trivial) (by show 1 < 2; decide) (fun x H' hx _ R kR => ?_) fun H' sH eD => ?_
          · obtain ⟨c, hc, rfl⟩ := List.mem_map.mp hx
            refine ⟨_, rfl, _, _, rfl, rfl, by decide, ⟨c, _, rfl, rfl, _, rfl, ?_⟩⟩
            have e1 : ledB (V.str ⟨#[c]⟩) = decide (c ∈ ("abcdefghijklmnopqrstuvwxyz" ++ "0123456789" : Str).cps.toList) := by
              show decide (∀ x ∈ ([c] : List Nat), x ∈ LEDI) = _
              rw [Bool.eq_iff_iff, decide_eq_true_iff, decide_eq_true_iff]
              exact ⟨fun h => h c (by simp), fun h y hy => by rw [List.mem_singleton.mp hy]; exact h⟩
            have q := kR H' (Same.refl _)
            rw [e1] at q
            exact q
          · refine tail_eq eD (all_filter (List.all_eq_true.mpr (fok_signs zf))) fun H'' s2 => ?_
            have q := k H'' (sH.trans s2)
            rw [hc, Bool.true_and, ← filter_any, Bool.not_not] at q
            exact q
      · have e8 : decide ((8 : Int) < ((z.length : Nat) : Int)) = true := decide_eq_true (by omega)
        rw [e8]
        refine iteT ?_
        have q := k H (Same.refl _)
        have e : nameB (.str z) = false := decide_eq_false fun h => z8 h.1
        rw [e] at q
        exact q
end
end Own
set_option Elab.async false
set_option linter.all false
set_option maxRecDepth 100000
set_option maxHeartbeats 400000
namespace Own
open PySem PySem.Spec PyProof.Rows L2 LamX
/-! ### deeds, any value -/
theorem Dq.kind {K : PySem.W.Frag} {N : List Addr} {H : Hp} {d : PyData} {v : V} (h : Dq N H v d) : Kind K H v (isI d) (isB d) := ⟨tyOf d, h.ty, kit_int d, kit_bool d⟩
def DeedIn (NOW : List Str) (H : Hp) (x : V) (d : PyData) : Prop := Dq [] H x d ∧ vdb d = true ∧ Ready NOW d
theorem DeedIn.same {NOW : List Str} {H H' : Hp} {x : V} {d : PyData} (h : DeedIn NOW H x d) (e : Same H H') : DeedIn NOW H' x d := ⟨h.1.same e, h.2⟩
theorem strok_of {z : Str} {n : Nat} (h : NameOk z) (hn : 8 ≤ n) : z.length ≤ n := Nat.le_trans h.1 hn
def spDeed (NOW : List Str) : Sp := fun vs H Q _ => ∃ (x : V) (d : PyData), vs = [x] ∧ DeedIn NOW H x d ∧ ∀ H', Same H H' → Q (.bl (deedB d)) H'
def spNeedD (NOW : List Str) (CD : Addr) : Sp := fun vs H Q E => ∃ (x : V) (d : PyData), vs = [x] ∧ DeedIn NOW H x d ∧ ((deedB d = true ∧ ∀ H', Same H H' → Q .non H') ∨ (deedB d = false ∧ ∀ H', Same H H' → E (.ref CD) none H'))
/-- a def of a deed: an error for what is none -/
def spOfDeed (NOW : List Str) (CD : Addr) (R : Deed → VK → Hp → Prop) : Sp := fun vs H Q E => ∃ (x : V) (d : PyData), vs = [x] ∧ DeedIn NOW H x d ∧ ((∃ dd, d = dd.py ∧ DeedOk dd ∧ R dd Q H) ∨ (deedB d = false ∧ ∀ H', Same H H' → E (.ref CD) none H'))
def rNames : Deed → VK → Hp → Prop := fun d Q H => ∀ p H', Same H H' → H p = none → H' p = some (.tup ((once d.names).map V.str)) → Q (.ref p) H'
def rTool : Deed → VK → Hp → Prop := fun d Q H => ∀ H', Same H H' → Q (.str (toolS d.word)) H'
theorem deed_head (d : Deed) : atI d.vs (0 : Int) = some (.str d.word) := at_nat (k := 0) rfl
theorem deed_len (d : Deed) : d.vs.length = 1 + d.names.length + d.way.length := by
  unfold Deed.vs
  rw [List.length_cons, List.length_append, List.length_map, List.length_map]
  omega
theorem deed_names {d : Deed} {m : Nat} (h : d.names.length = m) : cutV d.vs (some 1) (some (1 + (m : Int))) = d.names.map V.str := by
  rw [cut_mid1 (by rw [deed_len]; omega)]
  unfold Deed.vs
  rw [List.drop_succ_cons, List.drop_zero, ← h]
  exact List.take_left' (by rw [List.length_map])
theorem deed_notwhole {d : Deed} {j : Option Int} : ¬ (HT.sIx d.vs.length 0 (some 1) = 0 ∧ HT.sIx d.vs.length d.vs.length j = d.vs.length) := cut_notwhole (by rw [deed_len]; omega)
theorem deed_none {d : PyData} (h : isT d = false) : deedB d = false := by
  cases d <;> first | rfl | cases h
theorem deed_head_none {e : PyData} {r : List PyData} (h : isS e = false) : deedB (.tuple (e :: r)) = false := by
  cases e <;> first | rfl | cases h
theorem deedB_cons (w : Str) (r : List PyData) {q : Nat × Nat} (h : FORM.lookup w = some q) : deedB (.tuple (.str w :: r)) = formB2 q r := by
  show (match FORM.lookup w with
    | some q => formB2 q r
    | none => false) = _
  rw [h]
theorem deedB_no (w : Str) (r : List PyData) (h : FORM.lookup w = none) : deedB (.tuple (.str w :: r)) = false := by
  show (match FORM.lookup w with
    | some q => formB2 q r
    | none => false) = _
  rw [h]
section
variable {NOW : List Str} {P : Program} {w : World} {K : PySem.W.Frag} {mg : Str → Option Value} {base : Heap} {f fN fI fD CD : Addr} {fd2 fdN fdI fdD : FuncData}
theorem scDeed : FnScope ["value", "many", "ways", "name"] ["value"] (defScope sDeed) := ⟨rfl, rfl, rfl, by decide +kernel, rfl, by decide +kernel, by decide +kernel⟩
theorem ok_deed (F : FnP K "is_deed" sDeed f fd2) (KN : Fk P w K mg base CX0 1 "is_name" fdN ["value"] spName) (KI : Fk P w K mg base CX0 1 "is_whole" fdI ["value"] (spWhole K)) (T : Txt K mg) (W : Dct NOW K w mg) (hNOW : ∀ z ∈ NOW, FORM.lookup z = none) :
    FnOk P w K mg base CX0 2 f fd2 ["value"] (spDeed NOW) := by
  obtain ⟨pf, es, n0, hpf, DF, atF, noF⟩ := W.forms
  refine F.ok scDeed (fun vs H Q E h => ?_) (fun cdv A outer s H vs Q E hr h => ?_)
  · obtain ⟨x, d, rfl, _⟩ := h
    rfl
  · obtain ⟨x, d, rfl, ⟨hx, vd, rdy⟩, k⟩ := h
    refine ⟨_, PSs.nox (pss_cons (ps_if (PW.pt (pw_or (pt_not (pt_val (pe_callB call_isi (by rfl) T.isi boot_isinstance (pa_cons (pv 0) (pa_cons (pe_bltn (v := .ty "tuple") (by rfl) T.tuple (by decide +kernel) rfl) pa_nil)))))
        (pw_or (pt_cmpR op_eq (pe_callB call_len_seq (by rfl) T.len PySem.boot_len (pa_cons (pv 0) pa_nil)) pe_int (nomark _)) (pw_or1 (pt_not (pt_val (pe_callB call_isi (by rfl) T.isi boot_isinstance (pa_cons (pe_ix ix_tup (pv 0) pe_int (fun _ _ => rfl)) (pa_cons (pe_bltn (v := .ty "str") (by rfl) T.str (by decide +kernel) rfl) pa_nil))))))))) (pss_one (ps_ret pe_bl)) pss_nil)
      (pss_cons (ps_if (pt_cmpR (op_notIn_kd DF) (pe_ix ix_tup (pv 0) pe_int (fun _ _ => rfl)) (pe_glob (v := .ref pf) (by rfl) hpf rfl) (by rfl)) (pss_one (ps_ret pe_bl)) pss_nil)
      (pss_cons (ps_asg (pe_ix ix_kdict (pe_glob (v := .ref pf) (by rfl) hpf rfl) (pe_ix ix_tup (pv 0) pe_int (fun _ _ => rfl)) (fun _ _ => rfl)) (pg_tup rfl (pgs_cons (pg_name (i := 1) scDeed.nd rfl (.inl rfl)) (pgs_cons (pg_name (i := 2) scDeed.nd rfl (.inl rfl)) pgs_nil))))
      (pss_cons (ps_if (pt_cmpR op_ne (pe_callB call_len_seq (by rfl) T.len PySem.boot_len (pa_cons (pv 0) pa_nil)) (pe_op op_add (pe_op op_add pe_int (pv 1)) (pv 2)) (nomark _)) (pss_one (ps_ret pe_bl)) pss_nil)
      (pss_cons (ps_if (pt_cmpR (op_neD hr.units) (pe_lc (own := [("name", 3)]) (g := gName 3) (by rfl) scDeed.nd (pi_tup (pe_slice sl_tup (pv 0) (po_some pe_int) (po_some (pe_op op_add pe_int (pv 1))))) (blkOk_by (own := [("name", 3)]) (N := ["value", "many", "ways", "name"]) (sc := defScope sDeed) (by decide +kernel))
          (fun _ _ _ _ _ => pg_name (i := 3) scDeed.nd rfl (Or.inl rfl)) (fun _ _ _ _ _ => pts_one (pt_not (pt_val (pe_call KN.ok hr (by rfl) KN.g KN.kp KN.b .nil pass0 (pa_cons (pv 3) pa_nil))))) (fun _ _ _ _ _ => pv 3)) (pe_lst pa_nil) (nomark _)) (pss_one (ps_ret pe_bl)) pss_nil)
      (pss_one (ps_ret (pe_or (pe_cmpR op_eq (pv 2) pe_int (nomark _)) (pe_one (pe_and (pe_call KI.ok hr (by rfl) KI.g KI.kp KI.b .nil pass0 (pa_cons (pe_ix ix_tup (pv 0) (pe_op op_add pe_int (pv 1)) (fun _ _ => rfl)) pa_nil))
        (pe_one (pe_chain op_le op_le pe_int (pe_ix ix_tup (pv 0) (pe_op op_add pe_int (pv 1)) (fun _ _ => rfl)) pe_int)))))))))))), ?_⟩
    have k0 := k H (Same.refl _)
    refine ⟨_, rfl, x, .ty "tuple", .type (tyOf d), .type "tuple", isT d, rfl, .ty _, hx.ty, kit_ty (kit_tuple d), _, rfl, ?_⟩
    cases eT : isT d with
    | false =>
      refine iteT ?_
      rw [deed_none eT] at k0
      exact k0
    | true =>
    refine iteF ?_
    cases hx with
    | non => cases eT
    | bl => cases eT
    | int => cases eT
    | str => cases eT
    | lst => cases eT
    | dict => cases eT
    | @tup a xs ds na ha hds =>
    have hs : SqT K H a xs := SqT.of ha
    obtain ⟨l1000, gds⟩ := gdb_tuple (vdb_gdb vd rfl)
    have f2 := hds.f2
    have len := f2.len
    refine ⟨_, rfl, a, _, rfl, .inr hs, rfl, _, rfl, ?_⟩
    cases hds with
    | nil =>
      refine iteT ?_
      exact k0
    | @cons v0 vs0 d0 ds0 h0 h1 =>
    have e0 : decide (V.int (((v0 :: vs0).length : Nat) : Int) = V.int 0) = false := decide_eq_false (by simp only [V.int.injEq, List.length_cons]; omega)
    rw [e0]
    refine iteF ?_
    have at0 : atI (v0 :: vs0) (0 : Int) = some v0 := at_nat (k := 0) rfl
    refine ⟨_, rfl, a, _, _, _, rfl, rfl, hs, at0, v0, .ty "str", .type (tyOf d0), .type "str", isS d0, rfl, .ty _, h0.ty, kit_ty (kit_str d0), _, rfl, ?_⟩
    cases eS : isS d0 with
    | false =>
      refine iteT ?_
      rw [deed_head_none eS] at k0
      exact k0
    | true =>
    refine iteF ?_
    obtain ⟨wd, rfl⟩ : ∃ z, d0 = .str z := by
      cases d0 <;> first | exact ⟨_, rfl⟩ | cases eS
    cases h0
    rcases rdy wd ds0 rfl with ⟨⟨m, kk⟩, hq⟩ | hno
    rotate_left
    · refine ⟨_, rfl, a, _, _, _, rfl, rfl, hs, at0, wd, _, rfl, rfl, noF wd hno, _, rfl, ?_⟩
      refine iteT ?_
      rw [deedB_no _ _ (hNOW _ hno)] at k0
      exact k0
    have hm := look_mem hq
    obtain ⟨f1, _, f3, f4⟩ := form_facts _ hm
    obtain ⟨q, hq2, sq⟩ := atF _ hm
    have eB := deedB_cons wd ds0 hq
    rw [eB] at k k0
    refine ⟨_, rfl, a, _, _, _, rfl, rfl, hs, at0, wd, _, rfl, rfl, hq2, _, rfl, ?_⟩
    refine iteF ?_
    refine ⟨_, rfl, a, _, _, _, rfl, rfl, hs, at0, pf, wd, .ref q, rfl, rfl, ⟨es, n0, _, DF.at_, DF.lit, hq2, rfl⟩, ?_⟩
    refine ⟨q, _, rfl, sq H, rfl, _, _, rfl, _, _, rfl, rfl, ?_⟩
    refine ⟨_, rfl, a, _, rfl, .inr hs, _, rfl, _, _, rfl, rfl, _, rfl, _, _, rfl, rfl, rfl, _, rfl, ?_⟩
    have l2 : vs0.length = ds0.length := by simpa using len
    by_cases hl : ds0.length = m + kk
    rotate_left
    · have e1 : (!decide (V.int (((V.str wd :: vs0).length : Nat) : Int) = V.int (1 + (m : Int) + (kk : Int)))) = true := by
        rw [decide_eq_false (by simp only [V.int.injEq, List.length_cons]; omega)]
        rfl
      rw [e1]
      refine iteT ?_
      have : formB2 (m, kk) ds0 = false := by
        unfold formB2
        rw [decide_eq_false hl]
        rfl
      rw [this] at k0
      exact k0
    have e1 : (!decide (V.int (((V.str wd :: vs0).length : Nat) : Int) = V.int (1 + (m : Int) + (kk : Int)))) = false := by
      rw [decide_eq_true (by simp only [V.int.injEq, List.length_cons]; omega)]
      rfl
    rw [e1]
    refine iteF ?_
    refine ⟨_, rfl, _, rfl, _, rfl, _, _, rfl, rfl, _, rfl, a, _, rfl, hs, cut_notwhole (by simp), fun p np => ?_⟩
    have lm : 1 + m ≤ (V.str wd :: vs0).length := by
      rw [List.length_cons, l2, hl]
      omega
    rw [cut_mid1 (m := m) lm, List.drop_succ_cons, List.drop_zero]
    have s1 := same_upd (o := .tup (vs0.take m)) np
    have f3' : m ≤ 5 := f3
    have hz : (vs0.take m).length < sizeLine := by
      rw [List.length_take]
      exact Nat.lt_of_le_of_lt (Nat.le_trans (Nat.min_le_left _ _) f3') (by decide)
    have hp := upd_same (H := H) (a := p) (o := .tup (vs0.take m))
    have gt : ∀ e ∈ ds0.take m, gdb e = true := fun e he => gds e (List.mem_cons_of_mem _ (List.mem_of_mem_take he))
    refine ⟨p, rfl, ⟨_, SqT.of hp⟩, fun D nD => ?_⟩
    refine lc_any (N := []) (ds := ds0.take m) (p := fun e => !nameB e) walk_tup (F2.take m (h1.same s1).f2) nD hz (fun H' s' => SqT.of (s' _ _ hp)) (by show 3 < 4; decide) (fun y e H' he hy _ R kR => ?_) fun H1 ys es1 sH eD f5 sub em => ?_
    · refine ⟨_, rfl, y, e, rfl, hy, ?_, fun H2 s3 => ⟨_, rfl, kR H2 s3⟩⟩
      unfold vdb
      rw [gt e he, Bool.or_true]
    refine tail_neD eD f5 (fun e he => gt e (sub e he)) fun H2 s2 => ⟨_, rfl, ?_⟩
    rw [em, Bool.not_not]
    have sA := (s1.trans sH).trans s2
    have k2 := k H2 sA
    unfold formB2 at k2
    rw [decide_eq_true hl, Bool.true_and] at k2
    have eN : (ds0.take m).any (fun e => !nameB e) = !(ds0.take m).all nameB := by
      rw [List.all_eq_not_any_not, Bool.not_not]
    rw [eN]
    have e3 : formB2 (m, kk) ds0 = ((ds0.take m).all nameB && (ds0.drop m).all wayB) := by
      unfold formB2
      rw [decide_eq_true hl, Bool.true_and]
    cases eA : (ds0.take m).all nameB with
    | false =>
      refine iteT ?_
      have k2' : Q (.bl ((ds0.take m).all nameB && (ds0.drop m).all wayB)) H2 := k2
      rw [eA] at k2'
      exact k2'
    | true =>
    have k2' : Q (.bl ((ds0.take m).all nameB && (ds0.drop m).all wayB)) H2 := k2
    rw [eA, Bool.true_and] at k2'
    refine iteF ?_
    refine ⟨_, rfl, rfl, _, rfl, ?_⟩
    by_cases hk : kk = 0
    · subst hk
      have e5 : ds0.drop m = [] := List.drop_eq_nil_of_le (by omega)
      rw [e5] at k2'
      exact iteT k2'
    have e4 : decide (V.int (kk : Int) = V.int 0) = false := decide_eq_false (by simp only [V.int.injEq]; omega)
    rw [e4]
    refine iteF ?_
    have f4' : kk ≤ 1 := f4
    have k1 : kk = 1 := by omega
    subst k1
    obtain ⟨eW, hW⟩ : ∃ e, ds0.drop m = [e] := by
      have : (ds0.drop m).length = 1 := by
        rw [List.length_drop, hl]
        omega
      match hd : ds0.drop m, this with
      | [e], _ => exact ⟨e, rfl⟩
    have hat0 : ds0[m]? = some eW := by
      have : (ds0.drop m)[0]? = some eW := by rw [hW]; rfl
      rw [List.getElem?_drop] at this
      simpa using this
    obtain ⟨vW, hvW, hqW⟩ := h1.f2.at' hat0
    have hat : atI (V.str wd :: vs0) (1 + (m : Int)) = some vW := by
      have e6 : (1 + (m : Int)) = ((m + 1 : Nat) : Int) := by omega
      rw [e6]
      exact at_nat hvW
    have hs2 : SqT K H2 a (V.str wd :: vs0) := seqT sA hs
    rw [hW] at k2'
    refine ⟨_, rfl, _, rfl, _, _, rfl, rfl, a, _, _, _, rfl, rfl, hs2, hat, vW, isI eW, isB eW, rfl, (hqW.same sA).kind, _, rfl, ?_⟩
    have k3 : Q (.bl (wayB eW)) H2 := by
      have : [eW].all wayB = wayB eW := by simp
      rw [this] at k2'
      exact k2'
    cases hqW with
    | int z =>
      refine iteT ?_
      have k4 : Q (.bl (decide (1 ≤ z) && decide (z ≤ 2))) H2 := k3
      refine ⟨_, rfl, _, rfl, _, _, rfl, rfl, a, _, _, _, rfl, rfl, hs2, hat, _, _, rfl, rfl, decide (1 ≤ z), rfl, ?_⟩
      cases eZ : decide (1 ≤ z) with
      | false =>
        rw [eZ] at k4
        exact iteF k4
      | true =>
        rw [eZ] at k4
        refine iteT ?_
        exact ⟨_, _, rfl, rfl, k4⟩
    | non => exact iteF k3
    | bl => exact iteF k3
    | str => exact iteF k3
    | lst => exact iteF k3
    | tup => exact iteF k3
    | dict => exact iteF k3
theorem scNeedD : FnScope ["deed"] ["deed"] (defScope sNeedD) := ⟨rfl, rfl, rfl, by decide +kernel, rfl, by decide +kernel, by decide +kernel⟩
theorem ok_needd (F : FnP K "need_deed" sNeedD f fd2) (KD : Fk P w K mg base CX0 2 "is_deed" fdD ["value"] (spDeed NOW)) (B : ExcT K mg "BadDeed" CD) : FnOk P w K mg base (L2.CX P w) 3 f fd2 ["deed"] (spNeedD NOW CD) := by
  refine F.ok scNeedD (fun vs H Q E h => ?_) (fun cdv A outer s H vs Q E hr h => ?_)
  · obtain ⟨x, d, rfl, _⟩ := h
    rfl
  · obtain ⟨x, d, rfl, hx, k⟩ := h
    refine ⟨_, pss_one (ps_if (pt_not (pt_val (pe_call KD.ok hr (by rfl) KD.g KD.kp KD.b .nil pass0 (pa_cons (pv 0) pa_nil)))) (pss_one (ps_raise rfl (takes_of rfl rfl rfl rfl) (pmk_own PySem.F.excBase_ValueError B.x B.g B.k (raises_own B.b B.t) rfl))) pss_nil), ?_⟩
    refine ⟨_, rfl, x, d, rfl, hx, fun H1 s1 => ⟨_, rfl, ?_⟩⟩
    rcases k with ⟨e, k⟩ | ⟨e, k⟩
    · rw [e]
      exact iteF (k H1 s1)
    · rw [e]
      exact iteT (k H1 s1)
theorem scTool : FnScope ["deed"] ["deed"] (defScope sTool) := ⟨rfl, rfl, rfl, by decide +kernel, rfl, by decide +kernel, by decide +kernel⟩
theorem ok_tool (F : FnP K "tool_of" sTool f fd2) (KD : Fk P w K mg base (L2.CX P w) 3 "need_deed" fdD ["deed"] (spNeedD NOW CD)) (W : Dct NOW K w mg) : FnOk P w K mg base (L2.CX P w) 4 f fd2 ["deed"] (spOfDeed NOW CD rTool) := by
  obtain ⟨po, es, n0, hpo, DO, atO⟩ := W.others
  refine F.ok scTool (fun vs H Q E h => ?_) (fun cdv A outer s H vs Q E hr h => ?_)
  · obtain ⟨x, d, rfl, _⟩ := h
    rfl
  · obtain ⟨x, d, rfl, hx, k⟩ := h
    refine ⟨_, pss_cons (ps_expr (pe_call KD.ok hr (by rfl) KD.g KD.kp KD.b .nil (passes_call (takes_of rfl rfl rfl rfl) fun _ _ _ _ h => h) (pa_cons (pv 0) pa_nil)))
      (PSs.nox (pss_one (ps_ret (pe_getK DO (pe_glob (v := .ref po) (by rfl) hpo rfl) (pa_cons (pe_ix ix_tup (pv 0) pe_int (fun _ _ => rfl)) (pa_cons (pe_ix ix_tup (pv 0) pe_int (fun _ _ => rfl)) pa_nil)))))), ?_⟩
    rcases k with ⟨dd, rfl, ok, k⟩ | ⟨e, k⟩
    rotate_left
    · exact ⟨_, rfl, x, d, rfl, hx, .inr ⟨e, k⟩⟩
    refine ⟨_, rfl, x, _, rfl, hx, .inl ⟨deedB_of ok, fun H1 s1 => ?_⟩⟩
    obtain ⟨a, rfl, _, ha⟩ := hx.1.deed
    have hs : SqT K H1 a dd.vs := SqT.of (s1 _ _ ha)
    obtain ⟨m, kk, hm, _⟩ := ok
    refine ⟨rfl, _, rfl, a, _, _, _, rfl, rfl, hs, deed_head dd, _, rfl, a, _, _, _, rfl, rfl, hs, deed_head dd, dd.word, .str dd.word, rfl, ?_⟩
    have q := k H1 s1
    unfold toolS at q
    rcases atO _ hm with ⟨z, u, e1, e2⟩ | ⟨e1, e2⟩
    · rw [e1] at q
      exact .inl ⟨_, .str z, e2, ⟨u, rfl⟩, q⟩
    · rw [e1] at q
      exact .inr ⟨e2, q⟩
theorem scNames : FnScope ["deed", "found", "name"] ["deed"] (defScope sNames) := ⟨rfl, rfl, rfl, by decide +kernel, rfl, by decide +kernel, by decide +kernel⟩
theorem once_step (ns : List Str) (i : Nat) (z : Str) (h : ns[i]? = some z) : once (ns.take (i + 1)) = if z ∈ once (ns.take i) then once (ns.take i) else once (ns.take i) ++ [z] := by
  unfold once
  rw [take_snoc h, List.foldl_append]
  rfl
theorem flat_strs (c : List Str) : (c.map V.str).all flatV = true := by
  rw [List.all_map, List.all_eq_true]
  intro _ _
  rfl
theorem ok_names (F : FnP K "names_of" sNames f fd2) (KD : Fk P w K mg base (L2.CX P w) 3 "need_deed" fdD ["deed"] (spNeedD NOW CD)) (T : Txt K mg) (W : Dct NOW K w mg) : FnOk P w K mg base (L2.CX P w) 4 f fd2 ["deed"] (spOfDeed NOW CD rNames) := by
  obtain ⟨pf, es, nE, hpf, DF, atF, _⟩ := W.forms
  refine F.ok scNames (fun vs H Q E h => ?_) (fun cdv A outer s H vs Q E hr h => ?_)
  · obtain ⟨x, d, rfl, _⟩ := h
    rfl
  · obtain ⟨x, d, rfl, hx, k⟩ := h
    refine ⟨_, pss_cons (ps_expr (pe_call KD.ok hr (by rfl) KD.g KD.kp KD.b .nil (passes_call (takes_of rfl rfl rfl rfl) fun _ _ _ _ h => h) (pa_cons (pv 0) pa_nil)))
      (PSs.nox (pss_cons (ps_set (i := 1) scNames.nd rfl (.inl rfl) (pe_lst pa_nil))
      (pss_cons (ps_for PassesOwn.never rfl (pi_tup (pe_slice sl_tup (pv 0) (po_some pe_int) (po_some (pe_op op_add pe_int (pe_ix ix_tup (pe_ix ix_kdict (pe_glob (v := .ref pf) (by rfl) hpf rfl) (pe_ix ix_tup (pv 0) pe_int (fun _ _ => rfl)) (fun _ _ => rfl)) pe_int (fun _ _ => rfl)))))) (pg_name (i := 2) scNames.nd rfl (Or.inl rfl))
        (pss_one (ps_if (pt_cmpR op_notIn_seq (pv 2) (pv 1) (by rfl)) (pss_one (ps_expr (pe_bm PySem.F.plainAttrs_list PySem.F.slot_list_append PySem.F.type_list_append mt_append (pv 1) (pa_cons (pv 2) pa_nil)))) pss_nil)))
      (pss_one (ps_ret (pe_tupleOf (by rfl) T.tuple (pv 1))))))), ?_⟩
    rcases k with ⟨d, rfl, ok, k⟩ | ⟨e, k⟩
    rotate_left
    · exact ⟨_, rfl, x, d, rfl, hx, .inr ⟨e, k⟩⟩
    refine ⟨_, rfl, x, _, rfl, hx, .inl ⟨deedB_of ok, fun H1 s1 => ?_⟩⟩
    obtain ⟨a, rfl, _, ha⟩ := hx.1.deed
    obtain ⟨m, kk, hm, nm, okN, _⟩ := id ok
    obtain ⟨q, hq, sq⟩ := atF _ hm
    obtain ⟨f1, f2, f3, f4⟩ := form_facts _ hm
    refine ⟨(by show 0 ≤ sizeLine; decide), fun l0 n0 => ?_⟩
    have s2 := same_upd (o := .lst []) n0
    generalize hH2 : L2.upd H1 l0 (.lst []) = H2 at s2
    have hl0 : H2 l0 = some (.lst []) := by rw [← hH2, upd_same]
    have hs : SqT K H2 a d.vs := SqT.of (s2 _ _ (s1 _ _ ha))
    refine ⟨_, rfl, _, rfl, _, rfl, a, _, _, _, rfl, rfl, hs, deed_head d, pf, d.word, .ref q, rfl, rfl, ⟨es, nE, _, DF.at_, DF.lit, hq, rfl⟩, q, _, _, _, rfl, rfl, sq H2, at_nat (k := 0) rfl, _, _, rfl, rfl, _, rfl, a, _, rfl, hs, deed_notwhole, fun p np => ?_⟩
    rw [deed_names nm]
    have s3 := same_upd (o := .tup (d.names.map V.str)) np
    have npl : l0 ≠ p := ne_of_none hl0 np
    generalize hH3 : L2.upd H2 p (.tup (d.names.map V.str)) = H3 at s3
    have hp : H3 p = some (.tup (d.names.map V.str)) := by rw [← hH3, upd_same]
    have hl3 := s3 _ _ hl0
    have low := (s1.trans s2).trans s3
    have lz : H l0 = none := s1.free n0
    refine ⟨p, rfl, ⟨_, SqT.of hp⟩, ?_⟩
    refine for_tup (K := K) (a := p) (xs := d.names.map V.str) (fun i σ G => ∃ v2, σ = [some (.ref a), some (.ref l0), v2] ∧ Kp [l0] H3 G ∧ G l0 = some (.lst ((once (d.names.take i)).map V.str))) ⟨none, rfl, Kp.refl _ _, hl3⟩ (fun i σ G _ ⟨_, _, kG, _⟩ => SqT.of (kG _ _ hp (by simp [npl.symm]))) ?_ ?_
    · rintro i y σ G hi ⟨v2, rfl, kG, gl⟩
      rw [List.getElem?_map] at hi
      cases ez : d.names[i]? with
      | none => rw [ez] at hi; cases hi
      | some z =>
        rw [ez] at hi
        cases hi
        refine ⟨_, rfl, _, rfl, l0, _, rfl, .inl (SqL.of gl), rfl, flat_strs _, _, rfl, ?_⟩
        rw [inV_str]
        have eo := once_step d.names i z ez
        by_cases hz : z ∈ once (d.names.take i)
        · rw [if_pos hz] at eo
          rw [decide_eq_true hz]
          refine iteF ?_
          exact ⟨_, rfl, kG, by rw [eo]; exact gl⟩
        · rw [if_neg hz] at eo
          rw [decide_eq_false hz]
          refine iteT ?_
          have len : (once (d.names.take i)).length ≤ 5 := by
            have h1 := once_len (d.names.take i) []
            have h2 : (d.names.take i).length ≤ 5 := by
              rw [List.length_take, nm]
              have f3' : m ≤ 5 := f3
              omega
            have h3 : ([] : List Str).length = 0 := rfl
            unfold once
            omega
          refine ⟨_, rfl, .inl ⟨rfl, _, .inl (.inl gl)⟩, _, rfl, l0, _, _, rfl, rfl, gl, by rw [List.length_map]; exact Nat.lt_of_le_of_lt len (by decide), ?_⟩
          refine ⟨_, rfl, kG.trans (Kp.upd (by simp)), ?_⟩
          rw [upd_same, eo, List.map_append]
          rfl
    · rintro σ G ⟨v2, rfl, kG, gl⟩
      rw [List.length_map, List.take_length] at gl
      refine ⟨_, rfl, .inl ⟨l0, _, rfl, SqL.of gl, fun r nr => ?_⟩⟩
      have s4 := same_upd (o := .tup ((once d.names).map V.str)) nr
      have hr0 : H r = none := by
        cases e : H r with
        | none => rfl
        | some o =>
          have : r ≠ l0 := fun z => by rw [z, lz] at e; cases e
          have := kG _ _ (low _ _ e) (by simp [this])
          rw [nr] at this
          cases this
      refine k r _ (fun b o e => s4 _ _ (kG _ _ (low _ _ e) ?_)) hr0 upd_same
      have : b ≠ l0 := fun z => by rw [z, lz] at e; cases e
      simp [this]
end
end Own
set_option Elab.async false
set_option linter.all false
set_option maxRecDepth 100000
set_option maxHeartbeats 400000
namespace Own
open PySem PySem.Spec PyProof.Rows L2 LamX
/-! ### the sheet: towers and numbers -/
theorem pe_never {X : Cx} {e : Expr} : PE X e fun _ _ _ => False := ⟨fun _ _ _ _ _ _ h => h.elim⟩
theorem pt_never {X : Cx} {e : Expr} : PT X e fun _ _ _ => False := ⟨fun _ _ _ _ _ _ h => h.elim⟩
def clsBody (s : Stmt) : List Stmt := match s with
  | .ClassDef _ _ _ b _ _ _ _ _ _ _ => b
  | _ => []
abbrev sTowI : Stmt := (clsBody cTower).getD 0 (.Pass ⟨0, 0, 0, 0⟩)
abbrev sNumI : Stmt := (clsBody cNumber).getD 0 (.Pass ⟨0, 0, 0, 0⟩)
/-- what the walk asks of the two classes -/
structure Obj2 (K : PySem.W.Frag) (mg : Str → Option Value) (CT CN fT fN pE : Addr) (dT dN : FuncData) : Prop where
  gT : mg "Tower" = some (.ref CT)
  gN : mg "Number" = some (.ref CN)
  kT : Mk K CT fT
  kN : Mk K CN fN
  iT : C8.InsC K CT
  cN : Cls K CN
  iN : C8.InsC K CN
  intN : PySem.W.kitOne K (.type "int") (.ref CN) = some false
  n1 : NoAttr K CT "rows"
  n2 : NoAttr K CT "squares"
  n3 : NoAttr K CN "tower"
  n4 : NoAttr K CN "vector"
  eE : ∃ o, K.lookup pE = some o ∧ o.cls = .type "tuple"
  sE : ∀ H, SqT K H pE []
  most : ∃ t, mg "MOST" = some (.int 6 t)
  FT : FunD K "__init__" "Tower.__init__" (defArgs sTowI) (defBody sTowI) (defScope sTowI) [.ref pE, .non] [] fT dT
  FN : FunD K "__init__" "Number.__init__" (defArgs sNumI) (defBody sNumI) (defScope sNumI) [.non] [] fN dN
def spRows (pE : Addr) : Sp := fun vs H Q _ => vs = [.ref pE] ∧ ∀ p H', Same H H' → H p = none → H' p = some (.tup []) → Q (.ref p) H'
def spTowI (CT pE : Addr) : Sp := fun vs H Q _ => ∃ (x dx : Addr), vs = [.ref x, .ref pE, .non] ∧ H x = some (.ins CT dx []) ∧ ∀ H' fs, Kp [x] H H' → H' x = some (.ins CT dx fs) → Q .non H'
def spNeedT (CT : Addr) : Sp := fun vs H Q _ => ∃ (x dx : Addr) (fs : List (Str × V)), vs = [.ref x] ∧ H x = some (.ins CT dx fs) ∧ Q .non H
def spLowest : Sp := fun vs H Q _ => ∃ (v ws : Addr) (n : Int), vs = [.ref v] ∧ H v = some (.tup [.ref ws, .int 1]) ∧ H ws = some (.tup [.int n]) ∧ Q (.ref v) H
def spNumI (CT CN : Addr) : Sp := fun vs H Q _ => ∃ (x dx t dt : Addr) (fs : List (Str × V)) (pp v ws : Addr) (n : Int), vs = [.ref x, .ref t, pp |> V.ref, .ref v] ∧ H x = some (.ins CN dx []) ∧ H t = some (.ins CT dt fs) ∧ H v = some (.tup [.ref ws, .int 1]) ∧ H ws = some (.tup [.int n]) ∧
  ∀ H' fs', Kp [x] H H' → H' x = some (.ins CN dx fs') → Q .non H'
def spFrac (CN : Addr) : Sp := fun vs H Q _ => ∃ n : Int, vs = [.int n, .int 1] ∧ ∀ p dx fs H', Same H H' → H' p = some (.ins CN dx fs) → Q (.ref p) H'
def SHEET : List Str := "o" :: "u" :: "uu" :: "v" :: "vv" :: []
/-- a pair of Numbers -/
def PointV (CN : Addr) (H : Hp) (v : V) : Prop := ∃ t a b da fa db fb, v = .ref t ∧ H t = some (.tup [.ref a, .ref b]) ∧ H a = some (.ins CN da fa) ∧ H b = some (.ins CN db fb)
theorem PointV.same {CN : Addr} {H H' : Hp} {v : V} (h : PointV CN H v) (e : Same H H') : PointV CN H' v := by
  obtain ⟨t, a, b, da, fa, db, fb, rfl, h1, h2, h3⟩ := h
  exact ⟨t, a, b, da, fa, db, fb, rfl, e _ _ h1, e _ _ h2, e _ _ h3⟩
def spSheet (CN : Addr) : Sp := fun vs H Q _ => vs = [] ∧ ∀ d ws H', Same H H' → H d = none → ws.length = 5 → H' d = some (.dK ((SHEET.map Sum.inr).zip ws)) → (∀ v ∈ ws, PointV CN H' v) → Q (.ref d) H'
section
variable {P : Program} {w : World} {K : PySem.W.Frag} {mg : Str → Option Value} {base : Heap} {f fR fI fW fL fNd CT CN fT fN pE : Addr} {fd2 fdR fdI fdW fdL dT dN fdNd : FuncData}
theorem scRows : FnScope ["squares", "rows", "at", "parts", "vector"] ["squares"] (defScope sRowsOf) := ⟨rfl, rfl, rfl, by decide +kernel, rfl, by decide +kernel, by decide +kernel⟩
theorem ok_rows (F : FnP K "rows_of" sRowsOf f fd2) (T : Txt K mg) (O : Obj2 K mg CT CN fT fN pE dT dN) : FnOk P w K mg base CX0 1 f fd2 ["squares"] (spRows pE) := by
  obtain ⟨tm, hm⟩ := O.most
  obtain ⟨oE, eE, cE⟩ := O.eE
  refine F.ok scRows (fun vs H Q E h => ?_) (fun cdv A outer s H vs Q E hr h => ?_)
  · obtain ⟨rfl, _⟩ := h
    rfl
  · obtain ⟨rfl, k⟩ := h
    refine ⟨_, PSs.nox (pss_cons (ps_if (PW.pt (pw_or (pt_not (pt_val (pe_callB call_isi (by rfl) T.isi boot_isinstance (pa_cons (pv 0) (pa_cons (pe_bltn (v := .ty "tuple") (by rfl) T.tuple (by decide +kernel) rfl) pa_nil)))))
        (pw_or1 (pt_cmpR op_gt (pe_callB call_len_seq (by rfl) T.len PySem.boot_len (pa_cons (pv 0) pa_nil)) (pe_glob (v := .int 6) (by rfl) hm ⟨_, rfl⟩) (nomark _))))) pss_never pss_nil)
      (pss_cons (ps_set (i := 1) scRows.nd rfl (.inl rfl) (pe_tup pa_nil))
      (pss_cons (ps_for PassesOwn.never rfl (pi_enumS (by rfl) T.enum (pa_cons (pv 0) pa_nil)) (pg_tup rfl (pgs_cons (pg_name (i := 2) scRows.nd rfl (.inl rfl)) (pgs_cons (pg_name (i := 3) scRows.nd rfl (.inl rfl)) pgs_nil))) pss_never)
      (pss_one (ps_ret (pv 1)))))), ?_⟩
    refine ⟨_, rfl, .ref pE, .ty "tuple", .type "tuple", .type "tuple", true, rfl, .ty _, .kTuple eE cE, kit_ty (by decide +kernel), true, rfl, ?_⟩
    refine iteF ?_
    refine ⟨_, rfl, pE, _, rfl, .inr (O.sE H), _, _, rfl, rfl, _, rfl, ?_⟩
    refine iteF ?_
    refine ⟨(by show 0 ≤ sizeLine; decide), fun p np => ?_⟩
    have s1 := same_upd (o := .tup []) np
    refine ⟨_, rfl, pE, rfl, .inr ⟨_, O.sE _, ?_⟩⟩
    refine for_it walk_enumT (fun i σ G => σ = [some (.ref pE), some (.ref p), none, none, none] ∧ G = L2.upd H p (.tup [])) ⟨rfl, rfl⟩ (fun i σ G _ q => O.sE G) (fun i x σ G H' hi => absurd hi (Nat.not_lt_zero _)) ?_
    rintro σ G ⟨rfl, rfl⟩
    exact ⟨_, rfl, k p _ s1 np upd_same⟩
theorem scTowI : FnScope ["self", "squares", "known"] ["self", "squares", "known"] (defScope sTowI) := ⟨rfl, rfl, rfl, by decide +kernel, rfl, by decide +kernel, by decide +kernel⟩
theorem ok_towI (FR : FnP K "rows_of" sRowsOf fR fdR) (gR : mg "rows_of" = some (.ref fR)) (T : Txt K mg) (O : Obj2 K mg CT CN fT fN pE dT dN) : FnOk P w K mg base CX0 2 fT dT ["self", "squares", "known"] (spTowI CT pE) := by
  have GR : FnOk P w K mg base CX0 1 fR fdR ["squares"] (spRows pE) := ok_rows FR T O
  have bR : Binds K fdR ["squares"] [] := FR.bindsN fun _ _ _ _ _ _ us hl => match us, hl with | [_], _ => rfl
  refine O.FT.ok scTowI (fun vs H Q E h => ?_) (fun cdv A outer s H vs Q E hr h => ?_)
  · obtain ⟨x, dx, rfl, _⟩ := h
    rfl
  · obtain ⟨x, dx, rfl, hx, k⟩ := h
    refine ⟨_, PSs.nox (pss_cons (ps_fld (pv 0) (pe_ifExp (pt_cmpR op_isN (pv 2) pe_non (nomark _)) (pe_call GR hr (by rfl) gR FR.kp bR .nil pass0 (pa_cons (pv 1) pa_nil)) pe_never) rfl)
      (pss_one (ps_fld (pv 0) (pv 1) rfl))), ?_⟩
    refine ⟨_, rfl, rfl, _, rfl, ?_⟩
    refine iteT ?_
    refine ⟨_, rfl, rfl, fun p H1 s1 np hp => ?_⟩
    refine ⟨_, rfl, x, CT, dx, _, rfl, s1 _ _ hx, O.iT.cl, O.n1, by decide, ?_⟩
    refine ⟨_, rfl, _, rfl, x, CT, dx, _, rfl, upd_same, O.iT.cl, O.n2, by show (1 : Nat) < 1000; decide, ?_⟩
    refine k _ _ (((Kp.of s1).trans (Kp.upd (by simp))).trans (Kp.upd (by simp))) upd_same
theorem scNeedT : FnScope ["value"] ["value"] (defScope sNeedT) := ⟨rfl, rfl, rfl, by decide +kernel, rfl, by decide +kernel, by decide +kernel⟩
theorem ok_needt (F : FnP K "need_tower" sNeedT f fd2) (T : Txt K mg) (O : Obj2 K mg CT CN fT fN pE dT dN) : FnOk P w K mg base CX0 1 f fd2 ["value"] (spNeedT CT) := by
  refine F.ok scNeedT (fun vs H Q E h => ?_) (fun cdv A outer s H vs Q E hr h => ?_)
  · obtain ⟨x, dx, fs, rfl, _⟩ := h
    rfl
  · obtain ⟨x, dx, fs, rfl, hx, k⟩ := h
    refine ⟨_, PSs.nox (pss_one (ps_if (pt_not (pt_val (pe_callB (C8.call_isC O.iT) (by rfl) T.isi boot_isinstance (pa_cons (pv 0) (pa_cons (pe_glob (v := .ref CT) (by rfl) O.gT rfl) pa_nil))))) pss_never pss_nil)), ?_⟩
    refine ⟨_, rfl, x, dx, fs, rfl, hx, _, rfl, ?_⟩
    exact iteF k
theorem scLowest : FnScope ["vector", "wholes", "both", "whole"] ["vector"] (defScope sLowest) := ⟨rfl, rfl, rfl, by decide +kernel, rfl, by decide +kernel, by decide +kernel⟩
theorem ok_lowest (F : FnP K "vec_lowest" sLowest f fd2) : FnOk P w K mg base CX0 1 f fd2 ["vector"] spLowest := by
  refine F.ok scLowest (fun vs H Q E h => ?_) (fun cdv A outer s H vs Q E hr h => ?_)
  · obtain ⟨v, ws, n, rfl, _⟩ := h
    rfl
  · obtain ⟨v, ws, n, rfl, hv, hw, k⟩ := h
    refine ⟨_, PSs.nox (pss_cons (ps_asg (pv 0) (pg_tup rfl (pgs_cons (pg_name (i := 1) scLowest.nd rfl (.inl rfl)) (pgs_cons (pg_name (i := 2) scLowest.nd rfl (.inr rfl)) pgs_nil))))
      (pss_cons (ps_for PassesOwn.never rfl (pi_tup (pv 1)) (pg_name (i := 3) scLowest.nd rfl (Or.inl rfl)) (pss_cons (ps_if (pt_cmpR op_eq (pv 2) pe_int (nomark _)) (pss_one (ps_ret (pv 0))) pss_nil) pss_never)) pss_never)), ?_⟩
    refine ⟨_, rfl, v, _, rfl, SqT.of hv, rfl, _, _, rfl, _, _, rfl, rfl, ?_⟩
    refine ⟨_, rfl, ws, rfl, ⟨_, SqT.of hw⟩, ?_⟩
    refine for_tup (K := K) (a := ws) (xs := [V.int n]) (fun i σ G => i = 0 ∧ G = H ∧ σ = [some (.ref v), some (.ref ws), some (.int 1), none]) ⟨rfl, rfl, rfl⟩ (fun i σ G _ q => by rw [q.2.1]; exact SqT.of hw) ?_ ?_
    · rintro i y σ G hi ⟨rfl, rfl, rfl⟩
      cases hi
      refine ⟨_, rfl, rfl, _, rfl, ?_⟩
      refine iteT ?_
      exact ⟨_, rfl, k⟩
    · rintro σ G ⟨h0, _⟩
      cases h0
theorem scNumI : FnScope ["self", "tower", "parts", "known"] ["self", "tower", "parts", "known"] (defScope sNumI) := ⟨rfl, rfl, rfl, by decide +kernel, rfl, by decide +kernel, by decide +kernel⟩
theorem ok_numI (FW : FnP K "need_tower" sNeedT fW fdW) (FL : FnP K "vec_lowest" sLowest fL fdL) (gW : mg "need_tower" = some (.ref fW)) (gL : mg "vec_lowest" = some (.ref fL)) (T : Txt K mg) (O : Obj2 K mg CT CN fT fN pE dT dN) :
    FnOk P w K mg base CX0 2 fN dN ["self", "tower", "parts", "known"] (spNumI CT CN) := by
  have GW : FnOk P w K mg base CX0 1 fW fdW ["value"] (spNeedT CT) := ok_needt FW T O
  have bW : Binds K fdW ["value"] [] := FW.bindsN fun _ _ _ _ _ _ us hl => match us, hl with | [_], _ => rfl
  have GL : FnOk P w K mg base CX0 1 fL fdL ["vector"] spLowest := ok_lowest FL
  have bL : Binds K fdL ["vector"] [] := FL.bindsN fun _ _ _ _ _ _ us hl => match us, hl with | [_], _ => rfl
  refine O.FN.ok scNumI (fun vs H Q E h => ?_) (fun cdv A outer s H vs Q E hr h => ?_)
  · obtain ⟨x, dx, t, dt, fs, pp, v, ws, n, rfl, _⟩ := h
    rfl
  · obtain ⟨x, dx, t, dt, fs, pp, v, ws, n, rfl, hx, ht, hv, hw, k⟩ := h
    refine ⟨_, PSs.nox (pss_cons (ps_expr (pe_call GW hr (by rfl) gW FW.kp bW .nil pass0 (pa_cons (pv 1) pa_nil)))
      (pss_cons (ps_if (PW.pt (pw_and (pt_cmpR op_isN (pv 3) pe_non (nomark _)) (pw_and1 pt_never))) pss_never pss_nil)
      (pss_cons (ps_fld (pv 0) (pv 1) rfl)
      (pss_one (ps_fld (pv 0) (pe_ifExp (pt_cmpR op_isN (pv 3) pe_non (nomark _)) pe_never (pe_call GL hr (by rfl) gL FL.kp bL .nil pass0 (pa_cons (pv 3) pa_nil))) rfl))))), ?_⟩
    refine ⟨_, rfl, t, dt, fs, rfl, ht, ?_⟩
    refine ⟨_, rfl, rfl, _, rfl, ?_⟩
    refine iteF ?_
    refine iteF ?_
    refine ⟨_, rfl, _, rfl, x, CN, dx, _, rfl, hx, O.cN, O.n3, by decide, ?_⟩
    have nv : v ≠ x := ne_of hv hx (by intro z; cases z)
    have nw : ws ≠ x := ne_of hw hx (by intro z; cases z)
    refine ⟨_, rfl, rfl, _, rfl, ?_⟩
    refine iteF ?_
    refine ⟨_, rfl, v, ws, n, rfl, by rw [upd_ne nv]; exact hv, by rw [upd_ne nw]; exact hw, ?_⟩
    refine ⟨_, rfl, x, CN, dx, _, rfl, upd_same, O.cN, O.n4, by show (1 : Nat) < 1000; decide, ?_⟩
    exact k _ _ ((Kp.upd (by simp)).trans (Kp.upd (by simp))) upd_same
theorem scFrac : FnScope ["n", "d"] ["n", "d"] (defScope sFrac) := ⟨rfl, rfl, rfl, by decide +kernel, rfl, by decide +kernel, by decide +kernel⟩
/-- a new instance, made: all is as it was -/
theorem made_same {H H' : Hp} {x dx C : Addr} (nx : H x = none) (ndx : H dx = none) (ne : dx ≠ x) (k : Kp [x] (L2.upd (L2.upd H dx (.own x)) x (.ins C dx [])) H') : Same H H' := fun b o e => by
  have n1 : b ≠ x := ne_of_none e nx
  have n2 : b ≠ dx := ne_of_none e ndx
  refine k b o ?_ (by simp [n1])
  rw [upd_ne n1, upd_ne n2]
  exact e
theorem ok_frac (F : FunD K "fraction" "fraction" (defArgs sFrac) (defBody sFrac) (defScope sFrac) [.int 1] [] f fd2) (FI : FnP K "is_whole" sWhole fI fdI) (FR : FnP K "rows_of" sRowsOf fR fdR) (FW : FnP K "need_tower" sNeedT fW fdW) (FL : FnP K "vec_lowest" sLowest fL fdL)
    (gI : mg "is_whole" = some (.ref fI)) (gR : mg "rows_of" = some (.ref fR)) (gW : mg "need_tower" = some (.ref fW)) (gL : mg "vec_lowest" = some (.ref fL)) (T : Txt K mg) (O : Obj2 K mg CT CN fT fN pE dT dN) :
    FnOk P w K mg base CX0 4 f fd2 ["n", "d"] (spFrac CN) := by
  have GI : FnOk P w K mg base CX0 1 fI fdI ["value"] (spWhole K) := ok_whole FI T
  have bI : Binds K fdI ["value"] [] := FI.bindsN fun _ _ _ _ _ _ us hl => match us, hl with | [_], _ => rfl
  have GT : FnOk P w K mg base CX0 2 fT dT ["self", "squares", "known"] (spTowI CT pE) := ok_towI FR gR T O
  have GN : FnOk P w K mg base CX0 2 fN dN ["self", "tower", "parts", "known"] (spNumI CT CN) := ok_numI FW FL gW gL T O
  obtain ⟨dsT, vT, bT⟩ := O.FT.binds1 (ps := ["self", "squares", "known"]) 1 0 (by simp) rfl fun T kV doc pm an cdv ct us its l1 l2 => match us, its, l1, l2 with | [_], [_, _], _, _ => ⟨_, rfl, rfl⟩
  obtain ⟨dsN, vN, bN⟩ := O.FN.binds1 (ps := ["self", "tower", "parts", "known"]) 4 1 (by simp) rfl fun T kV doc pm an cdv ct us its l1 l2 => match us, its, l1, l2 with | [_, _, _, _], [_], _, _ => ⟨_, rfl, rfl⟩
  refine F.ok scFrac (fun vs H Q E h => ?_) (fun cdv A outer s H vs Q E hr h => ?_)
  · obtain ⟨n, rfl, _⟩ := h
    rfl
  · obtain ⟨n, rfl, k⟩ := h
    have hr1 := hr.mono (show 1 ≤ 3 by decide)
    refine ⟨_, PSs.nox (pss_cons (ps_if (PW.pt (pw_or (pt_not (pt_val (pe_call GI hr1 (by rfl) gI FI.kp bI .nil pass0 (pa_cons (pv 0) pa_nil)))) (pw_or (pt_not (pt_val (pe_call GI hr1 (by rfl) gI FI.kp bI .nil pass0 (pa_cons (pv 1) pa_nil))))
        (pw_or1 (pt_cmpR op_lt (pv 1) pe_int (nomark _)))))) pss_never pss_nil)
      (pss_one (ps_ret (pe_make O.kN GN hr (by rfl) O.gN bN vN pass0 (pa_cons (pe_make0 O.kT GT hr (by rfl) O.gT bT vT pass0) (pa_cons (pe_tup pa_nil) (pa_cons (pe_tup (pa_cons (pe_tup (pa_cons (pv 0) pa_nil)) (pa_cons (pv 1) pa_nil))) pa_nil))))))), ?_⟩
    refine ⟨_, rfl, .int n, true, false, rfl, Kind.int n, _, rfl, ?_⟩
    refine iteF ?_
    refine ⟨_, rfl, .int 1, true, false, rfl, Kind.int 1, _, rfl, ?_⟩
    refine iteF ?_
    refine ⟨_, rfl, _, _, rfl, rfl, _, rfl, ?_⟩
    refine iteF ?_
    intro x dx nx ndx ne
    refine ⟨x, dx, rfl, upd_same, fun H1 fs1 k1 h1 => ⟨rfl, ?_⟩⟩
    have s1 := made_same nx ndx ne k1
    refine ⟨(by show 0 ≤ sizeLine; decide), fun pp npp => ?_⟩
    have s2 := same_upd (o := .tup []) npp
    refine ⟨_, rfl, (by show 1 ≤ sizeLine; decide), fun ws nws => ⟨_, rfl, (by show 2 ≤ sizeLine; decide), fun v nv => ?_⟩⟩
    have s3 := same_upd (o := .tup [.int n]) nws
    have s4 := same_upd (o := .tup [.ref ws, .int 1]) nv
    intro y dy ny ndy ne2
    have keep : ∀ {b : Addr} {o : HO} {H0 : Hp}, H0 b = some o → H0 y = none → H0 dy = none → (L2.upd (L2.upd H0 dy (.own y)) y (.ins CN dy [])) b = some o := fun {b o H0} e n1 n2 => by
      rw [upd_ne (ne_of_none e n1), upd_ne (ne_of_none e n2)]
      exact e
    refine ⟨y, dy, x, dx, fs1, pp, v, ws, n, rfl, upd_same, keep (s4 _ _ (s3 _ _ (s2 _ _ h1))) ny ndy, keep upd_same ny ndy, keep (s4 _ _ upd_same) ny ndy, fun H2 fs2 k2 h2 => ⟨rfl, ?_⟩⟩
    exact k y dy fs2 H2 ((((s1.trans s2).trans s3).trans s4).trans (made_same ny ndy ne2 k2)) h2
theorem scSheet : FnScope ["zero", "one", "two"] [] (defScope sSheet) := ⟨rfl, rfl, rfl, by decide +kernel, rfl, by decide +kernel, by decide +kernel⟩
theorem ok_sheet (F : FnP K "sheet" sSheet f fd2) {fF : Addr} {fdF : FuncData} (FF : FunD K "fraction" "fraction" (defArgs sFrac) (defBody sFrac) (defScope sFrac) [.int 1] [] fF fdF) (FI : FnP K "is_whole" sWhole fI fdI) (FR : FnP K "rows_of" sRowsOf fR fdR) (FW : FnP K "need_tower" sNeedT fW fdW) (FL : FnP K "vec_lowest" sLowest fL fdL)
    (gF : mg "fraction" = some (.ref fF)) (gI : mg "is_whole" = some (.ref fI)) (gR : mg "rows_of" = some (.ref fR)) (gW : mg "need_tower" = some (.ref fW)) (gL : mg "vec_lowest" = some (.ref fL)) (T : Txt K mg) (O : Obj2 K mg CT CN fT fN pE dT dN) :
    FnOk P w K mg base CX0 5 f fd2 [] (spSheet CN) := by
  have GF : FnOk P w K mg base CX0 4 fF fdF ["n", "d"] (spFrac CN) := ok_frac FF FI FR FW FL gI gR gW gL T O
  obtain ⟨ds, vD, bF⟩ := FF.binds1 (ps := ["n", "d"]) 1 0 (by simp) rfl fun T kV doc pm an cdv ct us its l1 l2 => match us, its, l1, l2 with | [_], [_], _, _ => ⟨_, rfl, rfl⟩
  refine F.ok scSheet (fun vs H Q E h => ?_) (fun cdv A outer s H vs Q E hr h => ?_)
  · obtain ⟨rfl, _⟩ := h
    rfl
  · obtain ⟨rfl, k⟩ := h
    refine ⟨_, PSs.nox (pss_cons (ps_par3 (i := 0) (j := 1) (l := 2) rfl scSheet.nd rfl rfl rfl (by decide) (by decide) (by decide) rfl rfl rfl (pa_cons (pe_call GF hr (by rfl) gF FF.kp bF vD pass0 (pa_cons pe_int pa_nil)) (pa_cons (pe_call GF hr (by rfl) gF FF.kp bF vD pass0 (pa_cons pe_int pa_nil)) (pa_cons (pe_call GF hr (by rfl) gF FF.kp bF vD pass0 (pa_cons pe_int pa_nil)) pa_nil))) rfl)
      (pss_one (ps_ret (pe_disp (pps_cons pe_str (pe_tup (pa_cons (pv 0) (pa_cons (pv 0) pa_nil))) (pps_cons pe_str (pe_tup (pa_cons (pv 1) (pa_cons (pv 0) pa_nil))) (pps_cons pe_str (pe_tup (pa_cons (pv 2) (pa_cons (pv 0) pa_nil)))
        (pps_cons pe_str (pe_tup (pa_cons (pv 0) (pa_cons (pv 1) pa_nil))) (pps_cons pe_str (pe_tup (pa_cons (pv 0) (pa_cons (pv 2) pa_nil))) pps_nil))))) (by rfl) (by rfl) (fun z => by cases z) (by decide))))), ?_⟩
    refine ⟨0, rfl, fun v0 x0 f0 H1 s1 i0 => ⟨1, rfl, fun v1 x1 f1 H2 s2 i1 => ⟨2, rfl, fun v2 x2 f2 H3 s3 i2 => ⟨_, _, _, rfl, ?_⟩⟩⟩⟩
    intro d nd
    have two : (2 : Nat) ≤ sizeLine := by decide
    refine ⟨_, rfl, _, rfl, two, fun t1 n1 => ⟨_, rfl, _, rfl, two, fun t2 n2 => ⟨_, rfl, _, rfl, two, fun t3 n3 => ⟨_, rfl, _, rfl, two, fun t4 n4 => ⟨_, rfl, _, rfl, two, fun t5 n5 => ?_⟩⟩⟩⟩⟩
    have e0 := same_upd (o := .dK []) nd
    have e1 := same_upd (o := .tup [.ref v0, .ref v0]) n1
    have e2 := same_upd (o := .tup [.ref v1, .ref v0]) n2
    have e3 := same_upd (o := .tup [.ref v2, .ref v0]) n3
    have e4 := same_upd (o := .tup [.ref v0, .ref v1]) n4
    have e5 := same_upd (o := .tup [.ref v0, .ref v2]) n5
    have all := (((e1.trans e2).trans e3).trans e4).trans e5
    refine ⟨all _ _ upd_same, (SHEET.map Sum.inr).zip [.ref t1, .ref t2, .ref t3, .ref t4, .ref t5], rfl, by show 5 ≤ 15; decide, ?_⟩
    have al0 : Same H3 (L2.upd (L2.upd (L2.upd (L2.upd (L2.upd (L2.upd H3 d (.dK [])) t1 (.tup [.ref v0, .ref v0])) t2 (.tup [.ref v1, .ref v0])) t3 (.tup [.ref v2, .ref v0])) t4 (.tup [.ref v0, .ref v1])) t5 (.tup [.ref v0, .ref v2])) := e0.trans all
    have j0 := al0 _ _ (s3 _ _ (s2 _ _ i0))
    have j1 := al0 _ _ (s3 _ _ i1)
    have j2 := al0 _ _ i2
    have g1 := (((e2.trans e3).trans e4).trans e5) _ _ (upd_same (a := t1) (o := .tup [V.ref v0, .ref v0]))
    have g2 := ((e3.trans e4).trans e5) _ _ (upd_same (a := t2) (o := .tup [V.ref v1, .ref v0]))
    have g3 := (e4.trans e5) _ _ (upd_same (a := t3) (o := .tup [V.ref v2, .ref v0]))
    have g4 := e5 _ _ (upd_same (a := t4) (o := .tup [V.ref v0, .ref v1]))
    have g5 := upd_same (H := L2.upd (L2.upd (L2.upd (L2.upd (L2.upd H3 d (.dK [])) t1 (.tup [.ref v0, .ref v0])) t2 (.tup [.ref v1, .ref v0])) t3 (.tup [.ref v2, .ref v0])) t4 (.tup [.ref v0, .ref v1])) (a := t5) (o := .tup [V.ref v0, .ref v2])
    have gd := all _ _ (upd_same (H := H3) (a := d) (o := .dK []))
    have freeH := ((s1.trans s2).trans s3).free nd
    generalize L2.upd (L2.upd (L2.upd (L2.upd (L2.upd (L2.upd H3 d (.dK [])) t1 (.tup [.ref v0, .ref v0])) t2 (.tup [.ref v1, .ref v0])) t3 (.tup [.ref v2, .ref v0])) t4 (.tup [.ref v0, .ref v1])) t5 (.tup [.ref v0, .ref v2]) = G at al0 j0 j1 j2 g1 g2 g3 g4 g5 gd
    have off : ∀ {b : Addr} {o : HO} (oo : HO), G b = some o → (∀ kvs, o ≠ .dK kvs) → (L2.upd G d oo) b = some o := fun {b o} oo h n => by
      rw [upd_ne (ne_of h gd (n _))]
      exact h
    refine k d [.ref t1, .ref t2, .ref t3, .ref t4, .ref t5] _ (((s1.trans s2).trans s3).trans fun b o e => ?_) freeH rfl ?_ fun v hv => ?_
    · rw [upd_ne (ne_of_none e nd)]
      exact al0 _ _ e
    · rw [upd_same]
      kernel_rfl
    · simp only [List.mem_cons, List.not_mem_nil, or_false] at hv
      rcases hv with rfl | rfl | rfl | rfl | rfl
      · exact ⟨_, _, _, _, _, _, _, rfl, off _ g1 (fun _ z => by cases z), (off _ j0 fun _ z => by cases z), (off _ j0 fun _ z => by cases z)⟩
      · exact ⟨_, _, _, _, _, _, _, rfl, off _ g2 (fun _ z => by cases z), (off _ j1 fun _ z => by cases z), (off _ j0 fun _ z => by cases z)⟩
      · exact ⟨_, _, _, _, _, _, _, rfl, off _ g3 (fun _ z => by cases z), (off _ j2 fun _ z => by cases z), (off _ j0 fun _ z => by cases z)⟩
      · exact ⟨_, _, _, _, _, _, _, rfl, off _ g4 (fun _ z => by cases z), (off _ j0 fun _ z => by cases z), (off _ j1 fun _ z => by cases z)⟩
      · exact ⟨_, _, _, _, _, _, _, rfl, off _ g5 (fun _ z => by cases z), (off _ j0 fun _ z => by cases z), (off _ j2 fun _ z => by cases z)⟩
end
end Own
set_option Elab.async false
set_option linter.all false
set_option maxRecDepth 100000
set_option maxHeartbeats 400000
namespace Own
open PySem PySem.Spec PyProof.Rows L2
/-! ### walking what is a list or a tuple -/
def iSeqS (K : PySem.W.Frag) (tl : TE) : TI := fun σ H R => tl σ H fun x H1 => ∃ a, x = .ref a ∧ ((∃ xs, SqL K H1 a xs ∧ R (Itl K a) H1) ∨ ∃ xs, SqT K H1 a xs ∧ R (Itt K a) H1)
section
variable {X : Cx} {tg : Expr}
theorem fp_new {pins : List (Addr × Obj)} {σ : L2.St} {H : Hp} {s : Shared} (I : Inv X pins σ H s) : ∀ b ∈ [s.heap.objs.size], FpOk X pins H b := fun b hb => by
  cases List.mem_singleton.mp hb
  exact I.fpOk (Nat.le_refl _) (I.hok.fresh (Nat.le_refl _))
theorem kept_new {pins : List (Addr × Obj)} {σ : L2.St} {H : Hp} {s : Shared} (I : Inv X pins σ H s) (o : Obj) : Inv X pins σ H { s with heap := s.heap.push o } := I.kept (t' := s.toks) fun _ _ e => Heap.get?_push_of_some _ e
theorem pi_seqS {l : Expr} {tl : TE} (hl : PE X l tl) : PI X tg l (iSeqS X.K tl) := by
  constructor
  intro pins s σ H R I h
  refine thn (hl.run pins s σ H _ I h) fun v s1 h1 => ?_
  obtain ⟨x, H1, I1, r1, a, rfl, q1⟩ := h1
  cases r1
  rcases q1 with ⟨xs, hq, q⟩ | ⟨xs, hq, q⟩
  · obtain ⟨its, _, p, _⟩ := I1.list hq
    exact wpAny_pyIter_list p.isList ⟨_, _, _, _, H1, rfl, kept_new I1 _, turn_list a _, ⟨_, Heap.get?_push_size _ rfl, rfl, rfl⟩, fp_new I1, q⟩
  · obtain ⟨its, _, p, _⟩ := I1.tuple hq
    exact wpAny_pyIter_tuple (items := its.toArray) p ⟨_, _, _, _, H1, rfl, kept_new I1 _, turn_tuple a _, ⟨_, Heap.get?_push_size _ rfl, rfl, rfl⟩, fp_new I1, q⟩
theorem sql_keep {K : PySem.W.Frag} {H G : Hp} {a : Addr} {xs : List V} (h : SqL K H a xs) (e : ∀ o, H a = some o → G a = some o) : SqL K G a xs := by
  rcases h with (h | ⟨o, h⟩) | h
  · exact .inl (.inl (e _ h))
  · exact .inl (.inr ⟨o, e _ h⟩)
  · exact .inr h
theorem sqt_keep {K : PySem.W.Frag} {H G : Hp} {a : Addr} {xs : List V} (h : SqT K H a xs) (e : ∀ o, H a = some o → G a = some o) : SqT K G a xs := by
  rcases h with (h | ⟨o, h⟩) | h
  · exact .inl (.inl (e _ h))
  · exact .inl (.inr ⟨o, e _ h⟩)
  · exact .inr h
/-- what is a list or a tuple, walked: the walk is told by what it yields -/
def iSeqW (K : PySem.W.Frag) (tl : TE) : TI := fun σ H R => tl σ H fun x H1 => ∃ a xs, x = .ref a ∧ (SqL K H1 a xs ∨ SqT K H1 a xs) ∧ ∀ (J : It) (GG : Hp → Prop), Walk J xs.length GG (YAt xs) → (∀ G, (∀ o, H1 a = some o → G a = some o) → GG G) → R J H1
theorem pi_seqW {l : Expr} {tl : TE} (hl : PE X l tl) : PI X tg l (iSeqW X.K tl) := by
  constructor
  intro pins s σ H R I h
  refine thn (hl.run pins s σ H _ I h) fun v s1 h1 => ?_
  obtain ⟨x, H1, I1, r1, a, xs, rfl, hq, q⟩ := h1
  cases r1
  rcases hq with hq | hq
  · obtain ⟨its, _, p, _⟩ := I1.list hq
    exact wpAny_pyIter_list p.isList ⟨_, _, _, _, H1, rfl, kept_new I1 _, turn_list a _, ⟨_, Heap.get?_push_size _ rfl, rfl, rfl⟩, fp_new I1, q _ _ walk_list fun G e => sql_keep hq e⟩
  · obtain ⟨its, _, p, _⟩ := I1.tuple hq
    exact wpAny_pyIter_tuple (items := its.toArray) p ⟨_, _, _, _, H1, rfl, kept_new I1 _, turn_tuple a _, ⟨_, Heap.get?_push_size _ rfl, rfl, rfl⟩, fp_new I1, q _ _ walk_tup fun G e => sqt_keep hq e⟩
end
end Own
set_option Elab.async false
set_option linter.all false
set_option maxRecDepth 100000
set_option maxHeartbeats 400000
namespace Own
open PySem PySem.Spec PyProof.Rows L2 LamX
/-! ### drawings, any value -/
theorem drop_at {α : Type} {l : List α} {i : Nat} {x : α} (h : l[i]? = some x) : l.drop i = x :: l.drop (i + 1) := by
  obtain ⟨hlt, hg⟩ := List.getElem?_eq_some_iff.mp h
  rw [List.drop_eq_getElem_cons hlt, hg]
/-- the keys of a dict are these names -/
def KeysAre (kvs : List (Key × V)) (kn : List Str) : Prop := kvs.map (·.1) = kn.map Sum.inr
theorem KeysAre.look {kvs : List (Key × V)} {kn : List Str} (h : KeysAre kvs kn) (z : Str) : (valV kvs (Sum.inr z)).isSome = decide (z ∈ kn) := by
  cases e : valV kvs (Sum.inr z) with
  | none =>
    have := valV_not e
    rw [h] at this
    symm
    refine decide_eq_false fun q => this (List.mem_map.mpr ⟨z, q, rfl⟩)
  | some v =>
    have := valV_in e
    rw [h] at this
    obtain ⟨y, hy, ey⟩ := List.mem_map.mp this
    cases ey
    exact (decide_eq_true hy).symm
theorem KeysAre.put {kvs : List (Key × V)} {kn : List Str} {z : Str} {v : V} (h : KeysAre kvs kn) (n : z ∉ kn) : KeysAre (putK kvs (Sum.inr z) v) (kn ++ [z]) := by
  have e : valV kvs (Sum.inr z) = none := by
    have := h.look z
    rw [decide_eq_false n] at this
    cases q : valV kvs (Sum.inr z) with
    | none => rfl
    | some v => rw [q] at this; cases this
  rw [putK_new v e]
  unfold KeysAre
  rw [List.map_append, h, List.map_append]
  rfl
theorem KeysAre.len {kvs : List (Key × V)} {kn : List Str} (h : KeysAre kvs kn) : kvs.length = kn.length := by
  have := congrArg List.length h
  rw [List.length_map, List.length_map] at this
  exact this
def strV : V → Str
  | .str x => x
  | _ => ""
def StepRd (NOW : List Str) (e : PyData) : Prop := ∀ a b, e = .tuple [a, b] → Ready NOW b
def DrawIn (NOW : List Str) (H : Hp) (x : V) (d : PyData) : Prop := Dq [] H x d ∧ wdb d = true ∧ ∀ ds, itemsOf d = some ds → ∀ e ∈ ds, StepRd NOW e
theorem DrawIn.same {NOW : List Str} {H H' : Hp} {x : V} {d : PyData} (h : DrawIn NOW H x d) (e : Same H H') : DrawIn NOW H' x d := ⟨h.1.same e, h.2⟩
def spDrawing (NOW : List Str) : Sp := fun vs H Q _ => ∃ (x : V) (d : PyData), vs = [x] ∧ DrawIn NOW H x d ∧ ∀ H', Same H H' → Q (.bl (drawV SHEET d)) H'
theorem step_notup {kn : List Str} {e : PyData} (h : isT e = false) : stepB kn e = none := by
  cases e <;> first | rfl | cases h
theorem step_len {kn : List Str} {es : List PyData} (h : es.length ≠ 2) : stepB kn (.tuple es) = none := by
  unfold stepB
  split
  · rename_i n e heq
    injection heq with heq
    subst heq
    exact absurd rfl h
  · rfl
theorem step_noname {kn : List Str} {a b : PyData} (h : nameB a = false) : stepB kn (.tuple [a, b]) = none := by
  cases a with
  | str n =>
    refine step_no fun q => ?_
    have : nameB (.str n) = true := decide_eq_true q.1
    rw [h] at this
    cases this
  | _ => rfl
theorem once_all {kn ns : List Str} : ((once ns).map V.str).any (fun x => !decide (strV x ∈ kn)) = !decide (∀ z ∈ ns, z ∈ kn) := by
  rw [List.any_map, Bool.eq_iff_iff, List.any_eq_true, Bool.not_eq_true', ← Bool.not_eq_true, decide_eq_true_iff]
  constructor
  · rintro ⟨z, hz, e⟩ q
    have := q z ((once_mem _ _).mp hz)
    have e' : (!decide (z ∈ kn)) = true := e
    rw [decide_eq_true this] at e'
    cases e'
  · intro q
    have : ∃ z ∈ ns, z ∉ kn := by
      refine Classical.byContradiction fun r => q fun z hz => Classical.byContradiction fun r2 => r ⟨z, hz, r2⟩
    obtain ⟨z, hz, e⟩ := this
    refine ⟨z, (once_mem _ _).mpr hz, ?_⟩
    show (!decide (z ∈ kn)) = true
    rw [decide_eq_false e]
    rfl
theorem form_small {d : Deed} (h : DeedOk d) : d.names.length ≤ 5 := by
  obtain ⟨m, k, hm, nm, _⟩ := h
  have : m ≤ 5 := (form_facts _ hm).2.2.1
  omega
theorem once_small {d : Deed} (h : DeedOk d) : (once d.names).length ≤ 5 := by
  have h1 := once_len d.names []
  have h2 : ([] : List Str).length = 0 := rfl
  have h3 := form_small h
  unfold once
  omega
theorem deed_okN {d : Deed} (h : DeedOk d) : ∀ z ∈ d.names, NameOk z := by
  obtain ⟨m, k, hm, nm, okN, _⟩ := h
  exact okN
section
variable {NOW : List Str} {P : Program} {w : World} {K : PySem.W.Frag} {mg : Str → Option Value} {base : Heap}
theorem scDrawing : FnScope ["value", "known", "step", "name"] ["value"] (defScope sDrawing) := ⟨rfl, rfl, rfl, by decide +kernel, rfl, by decide +kernel, by decide +kernel⟩
theorem ok_drawing {f CN CD : Addr} {fd2 dS dN dD dM : FuncData} (F : FnP K "is_drawing" sDrawing f fd2) (KS : Fk P w K mg base CX0 5 "sheet" dS [] (spSheet CN)) (KN : Fk P w K mg base CX0 1 "is_name" dN ["value"] spName) (KD : Fk P w K mg base CX0 2 "is_deed" dD ["value"] (spDeed NOW))
    (KM : Fk P w K mg base (L2.CX P w) 4 "names_of" dM ["deed"] (spOfDeed NOW CD rNames)) (T : Txt K mg) : FnOk P w K mg base CX0 6 f fd2 ["value"] (spDrawing NOW) := by
  refine F.ok scDrawing (fun vs H Q E h => ?_) (fun cdv A outer s H vs Q E hr h => ?_)
  · obtain ⟨x, d, rfl, _⟩ := h
    rfl
  · obtain ⟨x, d, rfl, ⟨hx, wd, rdy⟩, k⟩ := h
    have hu := hu_of hr
    have hr1 := hr.mono (show 1 ≤ 5 by decide)
    have hr2 := hr.mono (show 2 ≤ 5 by decide)
    have hr4 := hr.mono (show 4 ≤ 5 by decide)
    refine ⟨_, PSs.nox (pss_cons (ps_if (pt_not (pt_val (pe_callB call_isiT (by rfl) T.isi boot_isinstance (pa_cons (pv 0) (pa_cons (pe_tup (pa_cons (pe_bltn (v := .ty "list") (by rfl) T.list (by decide +kernel) rfl) (pa_cons (pe_bltn (v := .ty "tuple") (by rfl) T.tuple (by decide +kernel) rfl) pa_nil))) pa_nil))))) (pss_one (ps_ret pe_bl)) pss_nil)
      (pss_cons (ps_set (i := 1) scDrawing.nd rfl (.inr rfl) (pe_callTy call_dictD (by rfl) T.dict (by decide +kernel) (pa_cons (pe_call0 KS.ok hr (by rfl) KS.g KS.kp KS.b .nil pass0) pa_nil)))
      (pss_cons (ps_for PassesOwn.never rfl (pi_seqW (pv 0)) (pg_name (i := 2) scDrawing.nd rfl (Or.inl rfl))
        (pss_cons (ps_if (PW.pt (pw_or (pt_not (pt_val (pe_callB call_isi (by rfl) T.isi boot_isinstance (pa_cons (pv 2) (pa_cons (pe_bltn (v := .ty "tuple") (by rfl) T.tuple (by decide +kernel) rfl) pa_nil)))))
            (pw_or (pt_cmpR op_ne (pe_callB call_len_seq (by rfl) T.len PySem.boot_len (pa_cons (pv 2) pa_nil)) pe_int (nomark _)) (pw_or (pt_not (pt_val (pe_call KN.ok hr1 (by rfl) KN.g KN.kp KN.b .nil pass0 (pa_cons (pe_ix ix_tup (pv 2) pe_int (fun _ _ => rfl)) pa_nil))))
            (pw_or1 (pt_cmp (pc_din hu (pe_ix ix_tup (pv 2) pe_int (fun _ _ => rfl)) (pv 1)))))))) (pss_one (ps_ret pe_bl)) pss_nil)
        (pss_cons (ps_if (PW.pt (pw_or (pt_not (pt_val (pe_call KD.ok hr2 (by rfl) KD.g KD.kp KD.b .nil pass0 (pa_cons (pe_ix ix_tup (pv 2) pe_int (fun _ _ => rfl)) pa_nil))))
            (pw_or1 (pt_cmpR (op_neD hr.units) (pe_lc (own := [("name", 3)]) (g := gName 3) (by rfl) scDrawing.nd (pi_tup (pe_call KM.ok hr4 (by rfl) KM.g KM.kp KM.b .nil passL (pa_cons (pe_ix ix_tup (pv 2) pe_int (fun _ _ => rfl)) pa_nil))) (blkOk_by (own := [("name", 3)]) (N := ["value", "known", "step", "name"]) (sc := defScope sDrawing) (by decide +kernel))
              (fun _ _ _ _ _ => pg_name (i := 3) scDrawing.nd rfl (Or.inl rfl)) (fun _ _ _ _ _ => pts_one (pt_cmp (pc_dnotin hu (pv 3) (pv 1)))) (fun _ _ _ _ _ => pv 3)) (pe_lst pa_nil) (nomark _))))) (pss_one (ps_ret pe_bl)) pss_nil)
        (pss_one (ps_dput hu (pv 1) (pe_ix ix_tup (pv 2) pe_int (fun _ _ => rfl)) (pv 2) rfl)))))
      (pss_one (ps_ret pe_bl))))), ?_⟩
    refine ⟨_, rfl, (by show 2 ≤ sizeLine; decide), fun tp ntp => ?_⟩
    have s0 := same_upd (o := .tup [.ty "list", .ty "tuple"]) ntp
    refine ⟨x, tp, _, .type (tyOf d), [.type "list", .type "tuple"], (isL d || isT d), rfl, upd_same, .cons (.ty _) (.cons (.ty _) .nil), (hx.same s0).ty, ?_, _, rfl, ?_⟩
    · cases eL : isL d with
      | true => exact kitAny_cons (b := true) (kit_ty (eL ▸ kit_list d)) (fun z => by cases z) (fun _ => rfl)
      | false =>
        cases eT : isT d with
        | true => exact kitAny_cons (b := false) (kit_ty (eL ▸ kit_list d)) (fun _ => kitAny_cons (b := true) (kit_ty (eT ▸ kit_tuple d)) (fun z => by cases z) (fun _ => rfl)) (fun z => by cases z)
        | false => exact kitAny_cons (b := false) (kit_ty (eL ▸ kit_list d)) (fun _ => kitAny_cons (b := false) (kit_ty (eT ▸ kit_tuple d)) (fun _ => kitAny_nil) fun z => by cases z) (fun z => by cases z)
    cases eLT : isL d || isT d with
    | false =>
      refine iteT ?_
      have q := k _ s0
      have e : drawV SHEET d = false := by
        cases d <;> first | rfl | cases eLT
      rw [e] at q
      exact q
    | true =>
    refine iteF ?_
    obtain ⟨a, xs, ds, rfl, hitems, hf2, l1000, vds, walkable⟩ : ∃ a xs ds, x = .ref a ∧ itemsOf d = some ds ∧ F2 (Dq [] H) xs ds ∧ ds.length ≤ 1000 ∧ (∀ e ∈ ds, vdb e = true) ∧ (H a = some (.lst xs) ∨ H a = some (.tup xs)) := by
      cases hx with
      | lst _ ha hds =>
        have h2 : (decide (_ ≤ 1000) && _) = true := wd
        rw [Bool.and_eq_true, decide_eq_true_iff, List.all_eq_true] at h2
        exact ⟨_, _, _, rfl, rfl, hds.f2, h2.1, h2.2, .inl ha⟩
      | tup _ ha hds =>
        have h2 : (decide (_ ≤ 1000) && _) = true := wd
        rw [Bool.and_eq_true, decide_eq_true_iff, List.all_eq_true] at h2
        exact ⟨_, _, _, rfl, rfl, hds.f2, h2.1, h2.2, .inr ha⟩
      | non => cases eLT
      | bl => cases eLT
      | int => cases eLT
      | str => cases eLT
      | dict => cases eLT
    have rdy := rdy ds hitems
    have edr : drawV SHEET d = goesB SHEET ds := by
      unfold drawV
      rw [hitems]
    rw [edr] at k
    refine ⟨rfl, fun d0 wv H1 s1 nd hw5 hd0 _ => ⟨d0, _, rfl, .inl hd0, fun dk ndk => ?_⟩⟩
    have s2 := same_upd (o := .dK ((SHEET.map Sum.inr).zip wv)) ndk
    generalize hH2 : L2.upd H1 dk (.dK ((SHEET.map Sum.inr).zip wv)) = H2 at s2
    have hdk : H2 dk = some (.dK ((SHEET.map Sum.inr).zip wv)) := by rw [← hH2, upd_same]
    have sA := (s0.trans s1).trans s2
    have hf := hf2.mono fun _ _ q => q.same sA
    have lz : H dk = none := (s0.trans s1).free ndk
    have key0 : KeysAre ((SHEET.map (Sum.inr : Str → Key)).zip wv) SHEET := by
      unfold KeysAre
      rw [List.map_fst_zip (by rw [List.length_map, hw5]; decide)]
    have nad : a ≠ dk := by
      rintro rfl
      rcases walkable with e | e <;> rw [lz] at e <;> cases e
    have hlen := hf2.len
    have fin : ∀ G', Kp [dk] H2 G' → Same H G' := fun G' kg b ob e => kg _ _ (sA _ _ e) (by
      have : b ≠ dk := fun z => by rw [z, lz] at e; cases e
      simp [this])
    have wka : SqL K H2 a xs ∨ SqT K H2 a xs := walkable.imp (fun e => SqL.of (sA _ _ e)) fun e => SqT.of (sA _ _ e)
    refine ⟨_, rfl, a, xs, rfl, wka, fun J GG wk hGG => ?_⟩
    have hG : ∀ G, Kp [dk] H2 G → GG G := fun G kG => hGG G fun o e => kG _ _ e (by simp [nad])
    refine for_it wk (fun i σ G => ∃ v2 kvs kn, σ = [some (.ref a), some (.ref dk), v2, none] ∧ Kp [dk] H2 G ∧ G dk = some (.dK kvs) ∧ KeysAre kvs kn ∧ kn.length ≤ 5 + i ∧ goesB kn (ds.drop i) = goesB SHEET ds)
      ⟨none, _, SHEET, rfl, Kp.refl _ _, hdk, key0, Nat.le_refl _, rfl⟩ (fun i σ G _ q => hG G (by obtain ⟨_, _, _, _, kG, _⟩ := q; exact kG)) ?_ ?_
    · rintro i y σ G0 G hi ⟨v2, kvs, kn, rfl, kG, gd, ky, lk, eq⟩ ⟨rfl, hy⟩
      obtain ⟨e, he, hq0⟩ := hf2.at_ hy
      have hq := hq0.same (fin _ kG)
      rw [drop_at he] at eq
      have vde := vds e (List.mem_of_getElem? he)
      have rde := rdy e (List.mem_of_getElem? he)
      have bad : goesB SHEET ds = false → Q (.bl false) G := fun z => by
        have q := k G (fin G kG)
        rw [z] at q
        exact q
      have badAt : stepB kn e = none → goesB SHEET ds = false := fun z => by rw [← eq, goes_bad z]
      refine ⟨_, rfl, y, .ty "tuple", .type (tyOf e), .type "tuple", isT e, rfl, .ty _, hq.ty, kit_ty (kit_tuple e), _, rfl, ?_⟩
      cases eT : isT e with
      | false =>
        refine iteT ?_
        exact bad (badAt (step_notup eT))
      | true =>
      refine iteF ?_
      obtain ⟨b, bs, es, rfl, rfl, hb, hbs⟩ : ∃ b bs es, y = .ref b ∧ e = .tuple es ∧ G b = some (.tup bs) ∧ DqAll [] G bs es := by
        cases hq with
        | tup _ h1 h2 => exact ⟨_, _, _, rfl, rfl, h1, h2⟩
        | non => cases eT
        | bl => cases eT
        | int => cases eT
        | str => cases eT
        | lst => cases eT
        | dict => cases eT
      have sb : SqT K G b bs := SqT.of hb
      have lbs := hbs.f2.len
      refine ⟨_, rfl, b, _, rfl, .inr sb, rfl, _, rfl, ?_⟩
      by_cases l2 : es.length = 2
      rotate_left
      · have e1 : (!decide (V.int ((bs.length : Nat) : Int) = V.int 2)) = true := by
          rw [decide_eq_false (by simp only [V.int.injEq]; omega)]
          rfl
        rw [e1]
        refine iteT ?_
        exact bad (badAt (step_len l2))
      have e1 : (!decide (V.int ((bs.length : Nat) : Int) = V.int 2)) = false := by
        rw [decide_eq_true (by simp only [V.int.injEq]; omega)]
        rfl
      rw [e1]
      refine iteF ?_
      obtain ⟨a1, a2, rfl⟩ : ∃ a1 a2, es = [a1, a2] := by
        match es, l2 with
        | [a1, a2], _ => exact ⟨a1, a2, rfl⟩
      have gde : gdb (.tuple [a1, a2]) = true := vdb_gdb vde rfl
      have g12 := (gdb_tuple gde).2
      have g1 := g12 a1 List.mem_cons_self
      have g2 := g12 a2 (List.mem_cons_of_mem _ List.mem_cons_self)
      have v1 : vdb a1 = true := by unfold vdb; rw [g1, Bool.or_true]
      have v2' : vdb a2 = true := by unfold vdb; rw [g2, Bool.or_true]
      cases hbs with
      | @cons u1 _ _ _ q1 hbs =>
      cases hbs with
      | @cons u2 _ _ _ q2 hbs =>
      cases hbs
      refine ⟨_, rfl, b, _, _, _, rfl, rfl, sb, at_nat (k := 0) rfl, u1, a1, rfl, q1, v1, fun G1 t1 => ⟨_, rfl, ?_⟩⟩
      have sb1 : SqT K G1 b [u1, u2] := seqT t1 sb
      have kG1 := kG.trans (Kp.of t1 (xs := [dk]))
      have bad1 : ∀ {G1 : Hp}, Kp [dk] H2 G1 → goesB SHEET ds = false → Q (.bl false) G1 := fun {G1} kg z => by
        have q := k G1 (fin G1 kg)
        rw [z] at q
        exact q
      cases eN : nameB a1 with
      | false =>
        refine iteT ?_
        exact bad1 kG1 (badAt (step_noname eN))
      | true =>
      refine iteF ?_
      obtain ⟨n, rfl⟩ : ∃ n, a1 = .str n := by
        cases a1 <;> first | exact ⟨_, rfl⟩ | cases eN
      have okn : NameOk n := of_decide_eq_true eN
      cases q1
      have gd1 := t1 _ _ gd
      refine ⟨_, rfl, b, _, _, _, rfl, rfl, sb1, at_nat (k := 0) rfl, _, rfl, dk, _, rfl, DGet.k (k := Sum.inr n) gd1, _, rfl, ?_⟩
      rw [ky.look]
      by_cases hn : n ∈ kn
      · rw [decide_eq_true hn]
        refine iteT ?_
        exact bad1 kG1 (badAt (step_no fun q => q.2.1 hn))
      rw [decide_eq_false hn]
      refine iteF ?_
      have rd2 := rde _ _ rfl
      have q2' := q2.same t1
      refine ⟨_, rfl, b, _, _, _, rfl, rfl, sb1, at_nat (k := 1) rfl, u2, a2, rfl, ⟨q2', v2', rd2⟩, fun G2 t2 => ⟨_, rfl, ?_⟩⟩
      have kG2 := kG1.trans (Kp.of t2 (xs := [dk]))
      cases eD : deedB a2 with
      | false =>
        refine iteT ?_
        refine bad1 kG2 (badAt (step_no fun q => ?_))
        have q3 := q.2.2.1
        rw [eD] at q3
        cases q3
      | true =>
      refine iteF ?_
      obtain ⟨dd, rfl, okd⟩ := deedB_ok eD
      refine ⟨_, rfl, b, _, _, _, rfl, rfl, seqT t2 sb1, at_nat (k := 1) rfl, u2, dd.py, rfl, ⟨q2'.same t2, v2', rd2⟩, .inl ⟨dd, rfl, okd, fun p G3 t3 _ hp => ?_⟩⟩
      have fo : ∀ z ∈ once dd.names, NameOk z := fun z hz => deed_okN okd z ((once_mem _ _).mp hz)
      have lo : ((once dd.names).map V.str).length < sizeLine := by
        rw [List.length_map]
        exact Nat.lt_of_le_of_lt (once_small okd) (by decide)
      have gd3 := t3 _ _ (t2 _ _ gd1)
      refine any_ne (p := fun x => !decide (strV x ∈ kn)) (SqT.of hp) (fok_names fo) lo (by show 3 < 4; decide) (fun x G' hx tG R kR => ?_) fun G4 t4 => ⟨_, rfl, ?_⟩
      · obtain ⟨z, hz, rfl⟩ := List.mem_map.mp hx
        refine ⟨_, rfl, _, rfl, dk, _, rfl, DGet.k (k := Sum.inr z) (tG _ _ gd3), _, rfl, ?_⟩
        rw [ky.look]
        exact kR G' (Same.refl _)
      rw [once_all]
      have t14 := ((t1.trans t2).trans t3).trans t4
      have kG4 := kG.trans (Kp.of t14 (xs := [dk]))
      by_cases ek : ∀ z ∈ dd.names, z ∈ kn
      rotate_left
      · rw [decide_eq_false ek]
        refine iteT ?_
        refine bad1 kG4 (badAt (step_no fun q => ek ?_))
        have := q.2.2.2
        rw [dnames_py okd] at this
        exact this
      rw [decide_eq_true ek]
      refine iteF ?_
      have gd4 := t14 _ _ gd
      have lkv : kvs.length < sizeLine := by
        rw [ky.len]
        have : i < ds.length := (List.getElem?_eq_some_iff.mp he).1
        exact Nat.lt_of_le_of_lt (show kn.length ≤ 2000 by omega) (by decide)
      refine ⟨_, rfl, _, rfl, _, rfl, b, _, _, _, rfl, rfl, seqT t14 sb, at_nat (k := 0) rfl, dk, _, rfl, DPut.k (k := Sum.inr n) gd4 lkv, ?_⟩
      refine ⟨_, _, kn ++ [n], rfl, kG4.trans (Kp.upd (by simp)), upd_same, ky.put hn, ?_, ?_⟩
      · rw [List.length_append, List.length_singleton]
        omega
      · rw [← eq]
        exact (goes_good ⟨okn, hn, eD, by rw [dnames_py okd]; exact ek⟩).symm
    · rintro σ G ⟨v2, kvs, kn, rfl, kG, gd, ky, lk, eq⟩
      rw [hlen, List.drop_length] at eq
      have q := k G (fin G kG)
      rw [← eq] at q
      exact q
end
end Own
set_option Elab.async false
set_option linter.all false
set_option maxRecDepth 100000
set_option maxHeartbeats 4000000
/-! ### an own error with one field: def __init__(self, p): super().__init__('..'); self.f = p -/
namespace PySem
namespace SupX
open PySem.W PySem.Calls PyProof.Rows PySem.HandSPX
/-- what is fixed of the text: the class's name, the parameter, the field, the message -/
structure Txt where
  x : Str
  p : Str
  f : Str
  m : Str
def iA (t : Txt) (p1 p2 : Pos) : Arguments := { posonlyargs := [], args := [{ arg := "self", annotation := none, pos := p1 }, { arg := t.p, annotation := none, pos := p2 }], vararg := none, kwonlyargs := [], kw_defaults := [], kwarg := none, defaults := [] }
def iB (t : Txt) (j : Nat) (q1 q2 q3 q4 q5 q6 q7 q8 q9 q10 : Pos) : List Stmt := [.Expr (.Call (.Attribute (.Call (.Name "super" q1) [] [] q2) "__init__" q3) [.Constant (.str t.m) j q4] [] q5) q6, .Assign [.Attribute (.Name "self" q7) t.f q8] (.Name t.p q9) q10]
def iS (t : Txt) : Scope := { kind := .function, names := [(PySem.Str.ofString "self", .local), (t.p, .local), (PySem.Str.ofString "__class__", .free), (PySem.Str.ofString "super", .globalImplicit)], isGenerator := false, isCoroutine := false, more := [] }
/-- what the written part says of the class at C, of its __init__ at fI, of the cell at cc -/
structure Has (prog : Program) (K : Frag) (mg : Str → Option Value) (t : Txt) (C fI : Addr) : Prop where
  gC : mg t.x = some (.ref C)
  cls : ∃ nm q N bs bm sn sub ab col dd k0 k1 k2 k3 k5, K.lookup C = some (excClassObj nm q C N bs bm true sn sub ab col dd k0 k1 k2 k3 k5 "ValueError.__new__") ∧ refsVE bm = true
  sa : findIn K (.ref C) "__setattr__" = some (some (.builtin "object.__setattr__"))
  noN : findIn K (.ref C) t.f = some none
  iC : findIn K (.ref C) "__init__" = some (some (.ref fI))
  tC : typeIn K (.ref fI) = some (.type "function")
  kC : keepIn K (.ref C) = true
  exC : subIn K (.ref C) (.type "BaseException") = some true
  tyC : typeIn K (.ref C) = some (.type "type")
  sVE : subIn K (.ref C) (.type "ValueError") = some true
  mro : mroIn K C (.ref C) = some true
  sup : ks_superIn K C C "__init__" = some (some (.builtin "ValueError.__init__"))
  ini : excInitIn K C He.veBase "ValueError.__new__" = true
  tp : nsIn K cStatics "thirdparty.any" = some none
  gS : mg "super" = none
  pn : (t.p == ("__debug__" : Str)) = false ∧ t.p ≠ "self"
  lself : (iS t).names.lookup ("self" : Str) = some .local
  lp : (iS t).names.lookup t.p = some .local
  lcls : (iS t).names.lookup ("__class__" : Str) = some .free
  lsup : (iS t).names.lookup ("super" : Str) = some .globalImplicit
  fn : ∃ (cc cda : Addr) (oc ccl cl : Value) (od cdd cld : Option Addr) (kV doc pm : Value) (an : Option Addr) (ct : Value) (osl ccs csl : Array (Option Value)) (vs : Array Value) (file : Str) (tf : Tok) (qual : Str) (j : Nat) (p1 p2 q1 q2 q3 q4 q5 q6 q7 q8 q9 q10 : Pos),
    K.lookup fI = some ⟨oc, od, .func (fnX "__init__" qual (iA t p1 p2) (iB t j q1 q2 q3 q4 q5 q6 q7 q8 q9 q10) (iS t) [("__class__", cc)] .none kV doc pm an (.ref cda) ct), osl⟩ ∧ codeIn K (.ref cda) qual = true ∧
      K.lookup cda = some ⟨ccl, cdd, .fields vs, ccs⟩ ∧ vs[2]? = some (.str file tf) ∧ ((prog.main.file : Str) == file) = true ∧ K.lookup cc = some ⟨cl, cld, .cell (some (.ref C)), csl⟩ ∧
      (∀ a b : Value, bindArgs (fnX "__init__" qual (iA t p1 p2) (iB t j q1 q2 q3 q4 q5 q6 q7 q8 q9 q10) (iS t) [("__class__", cc)] .none kV doc pm an (.ref cda) ct) ⟨[a, b], []⟩ = pure [(("self" : Str), a), (t.p, b)]) ∧
      (∀ env : Env, ∃ pl : Sem Bool, eval (.Call (.Attribute (.Call (.Name "super" q1) [] [] q2) "__init__" q3) [.Constant (.str t.m) j q4] [] q5) env = (do
        let ov ← attributeBase (.Call (.Name "super" q1) [] [] q2) "__init__" env (eval (.Call (.Name "super" q1) [] [] q2) env)
        standAt q3.atName
        let (f, first) ← holding [ov] (getMethod ov "__init__" pl)
        callWith q5 f first (backTo q5 (starEach [.Constant (.str t.m) j q4] env)) []))
  top : (prog.main.scope.names.lookup ("super" : Str)).isSome = false
theorem one_size (v : Value) : [v].length ≤ sizeLine := by
  rw [sizeLine_eq]
  exact (by decide : 1 ≤ 16777216)
/-- what __init__ leaves of a fresh exception at x -/
structure InitEnd (h h' : Heap) (f : Str) (x C dx t1 : Addr) (v : Value) : Prop where
  keep : ∀ b o, b ≠ x → h.get? b = some o → h'.get? b = some o
  obj : h'.get? x = some { cls := .ref C, dict := some dx, data := .fields #[.ref t1, .none, .none, .none, .bool false, .none] }
  dbig : h.objs.size ≤ dx
  dne : dx ≠ x
  ns : h'.Ns1 dx (fun y => if y = f then some v else none)
/-- a made error -/
structure OwnMade (h h' : Heap) (f : Str) (e C d : Addr) (v : Value) : Prop where
  keep : ∀ b o, h.get? b = some o → h'.get? b = some o
  new : h.objs.size ≤ e
  obj : ∃ oe vs, h'.get? e = some oe ∧ oe.cls = .ref C ∧ oe.dict = some d ∧ oe.data = .fields vs ∧ vs[1]? = some .none
  dbig : h.objs.size ≤ d
  dne : d ≠ e
  ns : h'.Ns1 d (fun y => if y = f then some v else none)
section
variable {prog : Program} {w : World} {A : Around} {E : Value → Shared → Prop} {R : Result → Shared → Prop} {s : Shared} {K : Frag} {mg mb : Str → Option Value} {t : Txt} {C fI : Addr}
theorem sup_init (T : Has prog K mg t C fI) {x t0 : Addr} {v : Value} (X : K.In s.heap) (hlim : s.heap.NoLimit) (hg : s.heap.Ns mainGlobals mg) (hb : s.heap.Ns builtinsNs mb) (hsb : mb "super" = some (.type "super")) (hx : s.heap.get? x = some (excO C t0)) (hnx : K.lookup x = none) (hroom : A.depth < recursionLimit)
    (hq : ∀ h' tk dx t1, InitEnd s.heap h' t.f x C dx t1 v → R (.ok (.ret .none)) { s with heap := h', toks := tk }) :
    codeAny (model prog w) A (.call (.ref fI) ⟨[.ref x, v], []⟩) R s := by
  obtain ⟨cc, cda, oc, ccl, cl, od, cdd, cld, kV, doc, pm, an, ct, osl, ccs, csl, vs, file, tf, qual, j, p1, p2, q1, q2, q3, q4, q5, q6, q7, q8, q9, q10, ho, hcd, hcode, hvs, hfile, hcell, hbind, hev⟩ := T.fn
  obtain ⟨nm, q, N, bs, bm, sn, sub, ab, col, dd, k0, k1, k2, k3, k5, hC, hbm⟩ := T.cls
  have hcl : clsIn K C = some { name := nm, bases := bs, mro := .ref C :: bm, ns := N, qualname := q, hasDict := true, slotNames := sn, subclasses := sub, abstract := ab, collection := col, hasDel := false } := by unfold clsIn; rw [hC] <;> rfl
  have nps : ((PySem.Str.ofString "self" : Str) == t.p) = false := by
    rw [beq_eq_false_iff_ne]
    exact fun e => T.pn.2 e.symm
  have nps2 : (t.p == (PySem.Str.ofString "self" : Str)) = false := by
    rw [beq_eq_false_iff_ne]
    exact T.pn.2
  have lself := T.lself
  have lp := T.lp
  refine ks_codeAny_call_defAt (binds := [("self", .ref x), (t.p, v)]) hroom (X _ _ ho) rfl hlim (codeRec_of X hcd) rfl (BindsTo.of_eq ?_) (by intro y hy; unfold iS at hy; simp at hy; rcases hy with rfl | rfl | rfl | rfl <;> simp) (by
    intro y hy
    rcases List.mem_cons.mp hy with e | hy
    · rw [e]; exact lself
    · rw [List.mem_singleton.mp hy]; exact lp) (fun h₁ hn k => ?_) rfl rfl rfl
  · exact hbind _ _
  have hxL : x ≠ s.heap.objs.size := Nat.ne_of_lt (Heap.lt_size hx)
  have F : Fr (hideAll s.heap [x]) s.heap.objs.size h₁ (fun y => ([(("self" : Str), Value.ref x), (t.p, v)] : List (Str × Value)).reverse.lookup y) := ⟨hn, fun b o e => k b o (of_hideAll _ e), Nat.le_of_eq (hideAll_size _ _)⟩
  have Nw : News (hideAll s.heap [x]) s.heap.objs.size h₁ [(x, excObj C t0 none .none)] := fun p hp => by
    rw [List.mem_singleton.mp hp]
    exact ⟨k _ _ hx, hxL, hideAll_none _ List.mem_cons_self⟩
  have X₀ : K.In (hideAll s.heap [x]) := fun a o e => hideAll_get _ (X a o e) fun m => by
    rw [List.mem_singleton.mp m, hnx] at e
    cases e
  have mself : (fun y => ([(("self" : Str), Value.ref x), (t.p, v)] : List (Str × Value)).reverse.lookup y) "self" = some (.ref x) := by
    show List.lookup ("self" : Str) [(t.p, v), (("self" : Str), Value.ref x)] = _
    simp only [List.lookup, nps, beq_self_eq_true]
  have mp : (fun y => ([(("self" : Str), Value.ref x), (t.p, v)] : List (Str × Value)).reverse.lookup y) t.p = some v := by
    show List.lookup t.p [(t.p, v), (("self" : Str), Value.ref x)] = _
    simp only [List.lookup, beq_self_eq_true]
  generalize (fun y => ([(("self" : Str), Value.ref x), (t.p, v)] : List (Str × Value)).reverse.lookup y) = mm at F mself mp hn
  have X₁ : K.In h₁ := X₀.keeps F.keep
  have I : InstAt h₁ x (excObj C t0 none .none) C none := ⟨k _ _ hx, rfl, rfl, trivial⟩
  have hC1 := X₁ _ _ hC
  -- super()
  obtain ⟨oD, hD1, hD2⟩ : ∃ oD, h₁.get? C = some oD ∧ oD.data = .cls { name := nm, bases := bs, mro := .ref C :: bm, ns := N, qualname := q, hasDict := true, slotNames := sn, subclasses := sub, abstract := ab, collection := col, hasDel := false } := ⟨_, hC1, rfl⟩
  obtain ⟨pl, hpl⟩ := hev (callEnv (fnX "__init__" qual (iA t p1 p2) (iB t j q1 q2 q3 q4 q5 q6 q7 q8 q9 q10) (iS t) [("__class__", cc)] .none kV doc pm an (.ref cda) ct) s.heap.objs.size fI)
  refine ks_wpAt_execs_cons (ks_wpAt_Expr_any (ks_wpAt_MethodCall (pl := pl) ?_ hpl))
  refine ks_wpAt_super_base T.lsup T.lcls rfl rfl (X₁ _ _ ho) rfl rfl rfl (X₁ _ _ hcode) rfl hvs hfile T.top ?_
  refine ks_loadName_global rfl T.lsup (loadGlobal_builtin (hg.keeps k) T.gS (hb.keeps k) hsb ⟨rfl, ?_⟩)
  refine wpAny_loadName_free rfl T.lcls rfl ⟨_, X₁ _ _ hcell, rfl⟩ ?_
  refine wpAny_loadName_local rfl lself hn mself ?_
  refine ks_wpAny_isType_cls hD1 hD2 ⟨rfl, ?_⟩
  refine ks_wpAny_call_super hD1 hD2 I.at_ I.cls (fun c e => by cases e) (looks_mroIn X₁ T.mro) (fun h₂ e2 kk => ?_)
  obtain ⟨F2, N2, _⟩ := ks_newsPush (s := { s with heap := h₁, toks := s.toks + 2 }) F Nw rfl e2 kk
  refine kxs_method (s := { s with heap := h₂, toks := s.toks + 2 }) kxs_ValueError F2 X₀ N2 List.mem_cons_self (ox := excObj C t0 none .none) (odx := none) ⟨kk _ _ I.at_, rfl, rfl, trivial⟩ T.tp T.sup T.sVE rfl (fun u h₃ F3 N3 _ => ?_)
  refine kxs_callWith1 N3 List.mem_cons_self ?_
  refine spliced_cons (Constant_str (k := j) (pos := q4) ?_)
  refine spliced_nil ⟨kxs_at N3 List.mem_cons_self, ?_⟩
  refine kxs_call F3 X₀ N3 PySem.F.excBase_ValueError T.ini List.mem_cons_self (.tail ?_ (.tail ?_ (.head (fun p hp => nomatch hp)))) (one_size _) (fun t1 h₄ F4 N4 _ => ?_)
  · exact fun e => by
      have q := (N3 (u, kxs_mw "ValueError.__init__" x) List.mem_cons_self).1
      have q2 := (N3 (x, excObj C t0 none .none) (by simp)).1
      rw [show u = x from e] at q
      rw [q] at q2
      cases q2
  · exact fun e => by
      have q := (N3 (_, ks_superObj C x C) (List.mem_cons_of_mem _ List.mem_cons_self)).1
      have q2 := (N3 (x, excObj C t0 none .none) (by simp)).1
      rw [show _ = x from e] at q
      rw [q] at q2
      cases q2
  · -- self.f = p
    have hx4 : h₄.get? x = some (excObj C t1 none .none) := (N4 (x, excObj C t1 none .none) (by simp)).1
    have X₄ : K.In h₄ := X₀.keeps F4.keep
    refine wpAt_of_wpAny (wpAny_execs_cons (plainObj_wpAny_Assign_Attribute ?_))
    refine wpAny_Name (wpAny_loadName_local rfl lp F4.ns mp ?_) T.pn.1
    refine wpAny_Name (wpAny_loadName_local rfl lself F4.ns mself ?_) (by decide)
    refine set_plain X₄ (ox := excObj C t1 none .none) (od := none) ⟨hx4, rfl, rfl, trivial⟩ T.sa ?_
    refine exc_osa X₄ hx4 hcl (show refsVE (.ref C :: bm) = true from hbm) rfl T.noN (fun h₅ tk₅ dx k₅ dn dne hx5 hn5 => ?_)
    refine wpAny_execs_nil (hq h₅ tk₅ dx t1 ⟨fun b o hb e => k₅ b o hb (F4.keep b o (hideAll_get _ e fun m => hb (List.mem_singleton.mp m))), hx5, ?_, dne, hn5⟩)
    have z : s.heap.objs.size < h₄.objs.size := F4.ns.lt
    exact Nat.le_of_lt (Nat.lt_of_lt_of_le z dn)
/-- C(e): a new error with its field -/
theorem sup_made (T : Has prog K mg t C fI) {v : Value} (X : K.In s.heap) (hlim : s.heap.NoLimit) (hg : s.heap.Ns mainGlobals mg) (hb : s.heap.Ns builtinsNs mb) (hsb : mb "super" = some (.type "super")) (hroom : A.depth + 1 < recursionLimit)
    (hq : ∀ h' tk e d, OwnMade s.heap h' t.f e C d v → R (.ok (.ret (.ref e))) { s with heap := h', toks := tk }) :
    codeAny (model prog w) A (.call (.ref C) ⟨[v], []⟩) R s := by
  obtain ⟨nm, q, N, bs, bm, sn, sub, ab, col, dd, k0, k1, k2, k3, k5, hC, hbm⟩ := T.cls
  obtain ⟨hp, g, dr, tk, os⟩ := s
  have k : ∀ b o, hp.get? b = some o → ((hp.push (kdv_tup [v])).push (excO C hp.objs.size)).get? b = some o := fun b o e => Heap.get?_push_of_some _ (Heap.get?_push_of_some _ e)
  have hget : ((hp.push (kdv_tup [v])).push (excO C hp.objs.size)).get? (hp.objs.size + 1) = some (excO C hp.objs.size) := by heap_get
  have hnx : K.lookup (hp.objs.size + 1) = none := by
    cases e : K.lookup (hp.objs.size + 1) with
    | none => rfl
    | some o =>
      have z : hp.get? (hp.objs.size + 1) = some o := X _ _ e
      exact absurd (Nat.lt_of_succ_lt (Heap.lt_size z)) (Nat.lt_irrefl _)
  refine call_own F.excBase_ValueError (fun X => refsVE_contains X bm hbm) (X _ _ hC) (looks_findIn X T.iC) (fun self => bind_fn X self T.tC) (one_size v) ?_
  refine sup_init (s := ⟨(hp.push (kdv_tup [v])).push (excO C hp.objs.size), g, dr, tk, os⟩) T (X.keeps k) (hlim.keeps k) (hg.keeps k) (hb.keeps k) hsb hget hnx ?_ fun h' tk' dx t1 ⟨k', hx, dn, dne, hns⟩ => ?_
  · show A.depth + 1 < recursionLimit
    exact hroom
  · have old : ∀ b o, hp.get? b = some o → h'.get? b = some o := fun b o e => k' b o (Nat.ne_of_lt (Nat.lt_succ_of_lt (Heap.lt_size e))) (k b o e)
    have z : hp.objs.size + 1 + 1 ≤ dx := by
      first
        | (simpa only [Heap.size_push] using dn)
        | exact dn
        | (have q := dn; rw [Heap.size_push, Heap.size_push] at q; exact q)
    exact ⟨rfl, hq h' tk' (hp.objs.size + 1) dx ⟨old, Nat.le_succ _, ⟨_, _, hx, rfl, rfl, rfl, rfl⟩, Nat.le_trans (Nat.le_trans (Nat.le_succ _) (Nat.le_succ _)) z, dne, hns⟩⟩
end
end SupX
end PySem
set_option Elab.async false
set_option linter.all false
set_option maxRecDepth 100000
set_option maxHeartbeats 4000000
namespace PySem.W
open PySem PySem.Spec PySem.Calls PyProof.Rows
section
variable {prog : Program} {w : World} {A : Around} {E : Value → Shared → Prop} {s : Shared} {K : Frag} {x D : Addr} {ox : Obj} {od : Option Obj}
theorem find_data_any {C : Addr} {name : Str} {a g : Value} (h1 : (clsIn K C).isSome = true) (h2 : findIn K (.ref C) name = some (some a)) (h3 : specialIn K a "__get__" = some (some g)) (h4 : takesIn K a = some true) : findObj K C od name = some (.bind g a) := by
  cases e : clsIn K C with
  | none =>
    rw [e] at h1
    cases h1
  | some cd =>
    unfold findObj
    rw [e, Option.bind_some, h2, Option.bind_some]
    simp [h3, h4]
theorem own_class_any {Q : Option Value → Shared → Prop} (C : L2.ExcC K D) (X : K.In s.heap) (I : InstAt s.heap x ox D od) (h : Q (some (.ref D)) { s with toks := s.toks + 1 }) : wpAny (model prog w) A (getAttr? (.ref x) "__class__") Q E s := by
  have hfo : findObj K D od "__class__" = some (.bind (.builtin "getset_descriptor.__get__") (.builtin "object.__class__")) := find_data_any (by
    obtain ⟨cd, hc, _⟩ := any_some C.hd
    rw [hc]
    rfl) C.ha C.hn C.ht
  obtain ⟨hp, g, d, t, os⟩ := s
  have la := I.type (M := model prog w)
  have lb := looks_findIn (M := model prog w) X C.hg
  have lc := looks_findIn (M := model prog w) X C.hk
  have ld := looks_find (M := model prog w) X I hfo
  have sub : Looks (model prog w) hp (isInstance (.ref x) (.type "BaseException")) true := la.andThen (looks_subIn X C.hs)
  have z0 : (false && onTheHeap (Value.builtin "BaseException.__getattribute__")) = false := rfl
  have z2 : (Value.builtin "BaseException.__getattribute__" == Value.builtin "object.__getattribute__") = false := by decide +kernel
  have z1 : (onTheHeap (Value.ref D) && Value.builtin "BaseException.__getattribute__" == Value.builtin "object.__getattribute__") = false := by
    rw [z2]
    rfl
  unfold getAttr?
  unfold getAttrBy?
  unfold getAttrBy
  refine wpAny_bind (wpAny_mkText (wpAny_bind (wpAny_attempt (wpAny_holding (wpAny_bind (la.at (wpAny_bind (lb.at ?_))))))))
  show wpAny _ _ (if (onTheHeap (Value.ref D) && Value.builtin "BaseException.__getattribute__" == Value.builtin "object.__getattribute__") = true then _ else _) _ _ _
  rw [z1, if_neg Bool.false_ne_true]
  unfold getAttrByItsOwn
  unfold hookBefore
  refine wpAny_bind ?_
  rw [if_pos (show onTheHeap (Value.ref D) = true from rfl)]
  refine lc.at (wpAny_bind (wpAny_attempt (wpAny_holding ?_)))
  unfold callGetattribute
  rw [z0, if_neg Bool.false_ne_true]
  unfold boundAndCalled
  rw [PySem.F.excAttr_ValueError.ga.bind (.ref x)]
  refine wpAny_bind (wpAny_pure ?_)
  show wpAny _ _ (call (.builtin "BaseException.__getattribute__") [.ref x, .str "__class__" t]) _ _ _
  refine wpAny_call (codeAny_call_builtin PySem.F.excAttr_ValueError.ga.plain PySem.F.entry_bexc_ga ?_)
  refine @check_slot (model prog w) _ _ ⟨hp, g, d, t + 1, os⟩ "BaseException.__getattribute__" "BaseException" "__getattribute__" (.ref x) [.str "__class__" t] [] _ (by decide +kernel) (by decide +kernel) sub (PySem.F.args_bexc_ga (.ref x) (.str "__class__" t)) ?_
  unfold Builtin.«object.__getattribute__»
  refine wpAny_bind (wpAny_of_eq (a := ((Value.ref x : Value), [Value.str "__class__" t])) (by first | rfl | (simp only [slotArgs]; rfl)) ?_)
  refine wpAny_bind (wpAny_pure (wpAny_bind (la.at (wpAny_bind (ld.at ?_)))))
  show wpAny _ _ (holding [Value.builtin "object.__class__"] (call (.builtin "getset_descriptor.__get__") [.builtin "object.__class__", .ref x, .ref D]) >>= ret) _ _ _
  refine wpAny_bind (wpAny_holding (wpAny_call (class_get (s := ⟨hp, g, d, t + 1, os⟩) (ox := ox) (od := od) X I C.hm ?_)))
  refine wpAny_pure ?_
  show wpAny _ _ (handedOut (.ref D)) _ _ _
  rw [handedOut_of (v := .ref D) rfl]
  first
    | exact wpAny_pure (wpAny_pure h)
    | exact wpAny_pure h
    | exact wpAny_pure (wpAny_bind (wpAny_pure (wpAny_pure h)))
theorem kit_exc_any (C : L2.ExcC K D) : KitX K (.ref x) (.ref D) (fun h => InstAt h x ox D od) where
  ty := fun _ _ _ I => I.type
  it := fun _ _ X _ => by
    obtain ⟨cd, hc, _⟩ := any_some C.hd
    unfold clsIn at hc
    split at hc
    · rename_i ho
      intro A' Q' E' s' k q
      unfold isType
      unfold loadHead
      exact wpAny_bind (wpAny_loadPart (k _ _ (X _ _ ho)) (wpAny_pure q))
    · cases hc
  ne := fun h tp dd its n sl X htp => by
    obtain ⟨cd, hc, _⟩ := any_some C.hd
    refine Bool.eq_false_iff.mpr fun q => ?_
    obtain rfl : D = tp := Value.ref.inj (beq_iff_eq.mp q)
    unfold clsIn at hc
    split at hc
    · rename_i ho
      have z := (X _ _ ho).symm.trans htp
      cases z
    · cases hc
  ca := fun X I k => own_class_any C X I k
end
end PySem.W
namespace Own
open PySem PySem.Spec PyProof.Rows L2 LamX
theorem relO_one {f : Str} {v : V} {u : Value} (r : RelV v u) (y : Str) : RelO (List.lookup y [(f, v)]) (if y = f then some u else none) := by
  by_cases h : y = f
  · subst h
    rw [if_pos rfl]
    have q : List.lookup y [(y, v)] = some v := by simp [List.lookup]
    rw [q]
    exact r
  · rw [if_neg h]
    have e : (y == f) = false := by simpa using h
    have q : List.lookup y [(f, v)] = none := by simp [List.lookup, e]
    rw [q]
    trivial
section
variable {X : Cx} {C fI : Addr}
/-- x(e), x such an error class -/
def tMkS (C : Addr) (f : Str) (ta : TA) : L2.St → Hp → XK → Prop := fun σ H Q => ta σ H fun vs H1 => ∃ v, vs = [v] ∧ ∀ d, H1 d = none → Q (.ref C) (some d) (upd H1 d (.xd [(f, v)]))
theorem pmk_sup {t : SupX.Txt} {a : Expr} {ta : TA} {p pos : Pos} {k : Nat} (T : SupX.Has X.prog X.K X.mg t C fI) (hr : Room k X.A) (ha : PA X [a] ta) (hg : Gl X t.x) (hdb : (t.x == ("__debug__" : Str)) = false)
    (he : starEach (a :: []) X.env = (false, eval a X.env) :: starEach [] X.env := by rfl) (hpl : (backTo pos (starEach [] X.env)).any (·.1) = false := by rfl) : PMk X (.Call (.Name t.x p) [a] [] pos) (tMkS C t.f ta) := by
  intro pins s σ H Q I h
  refine wpAny_Call_Name_kw (ld_glob I hg T.gC ?_ hdb)
  refine PySem.W.callWith_K (h₀ := X.base) I.ok.mod.kin T.kC (thn (ha.run pos pins s σ H _ I h) fun us s1 ⟨vs, H1, I1, r1, v, ev, q1⟩ => ?_) he hpl
  subst ev
  refine ⟨I1.kIn, ?_⟩
  obtain ⟨v1, rfl, rv⟩ := vals1 r1
  show wpAny _ _ (call (.ref C) [v1]) _ _ _
  have hlim := I1.nolimit
  obtain ⟨mb, hmb, hbo⟩ := I1.ok.mod.blt
  have hNs := I1.ok.mod.glob.keeps I1.bk
  have hBs := hmb.keeps I1.bk
  obtain ⟨hp, g, dr, tk, os⟩ := s1
  refine wpAny_call (SupX.sup_made T I1.kIn hlim hNs hBs ((hbo "super" (by decide)).trans (by decide +kernel)) (by have := hr.dp; omega) fun h1 tk1 e d M => ?_)
  show MkP X pins σ Q (.ref e) ⟨h1, g, dr, tk1, os⟩
  obtain ⟨oe, fv, hoe, hc, hd, hdat, hn1⟩ := M.obj
  have hns := M.ns
  obtain ⟨G1, g1, g2⟩ := restrict h1 fun b => decide (b ≠ e)
  have gk : ∀ b, b ≠ e → G1.get? b = h1.get? b := fun b hb => g1 b (decide_eq_true hb)
  have ge : G1.get? e = none := g2 e (by simp)
  have old : ∀ b o, hp.get? b = some o → G1.get? b = some o := fun b o q => (gk b (Nat.ne_of_lt (Nat.lt_of_lt_of_le (Heap.lt_size q) M.new))).trans (M.keep b o q)
  have ob : ObjOk X.prog X.w (upd H1 d (.xd [(t.f, v)])) G1 d (.xd [(t.f, v)]) := ⟨_, hns.at (fun o q => (gk d M.dne).trans q), fun y => relO_one rv y⟩
  have J : Inv X pins σ (upd H1 d (.xd [(t.f, v)])) ⟨G1, g, dr, tk1, os⟩ := I1.laid (t' := tk1) old M.dbig ob
  refine ⟨e, oe, fv, ⟨G1, g, dr, tk1, os⟩, _, .ref C, some d, rfl, J, fun b o q => ?_, ge, hoe, ⟨hc, hd⟩, hdat, hn1, ?_, rfl, I1.bare, raises_own T.exC T.tyC, q1 d (I1.hok.fresh M.dbig)⟩
  · by_cases hb : b = e
    · have q2 : G1.get? b = some o := q
      rw [hb, ge] at q2
      cases q2
    · exact (gk b hb).symm.trans q
  · rw [upd_ne (Ne.symm M.dne)]
    exact I1.hok.fresh M.new
/-- e.f, e an error that was caught and kept -/
def tKf (K : PySem.W.Frag) (f : Str) (te : TE) : TE := fun σ H Q => te σ H fun x H1 => ∃ (a C dd : Addr) (fs : List (Str × V)) (v : V), x = .ref a ∧ H1 a = some (Caught (.ref C) (some dd) a) ∧ XfC K C ∧ PySem.W.findIn K (.ref C) f = some none ∧ H1 dd = some (.xd fs) ∧ fs.lookup f = some v ∧ Q v H1
theorem pe_kf {e : Expr} {te : TE} {pos : Pos} {n : Str} (he : PE X e te) (hb : attributeBase e n X.env (eval e X.env) = eval e X.env := by rfl) : PE X (.Attribute e n pos) (tKf X.K n te) := by
  constructor
  intro pins s σ H Q I h
  refine attr_of hb (thn (he.run pins s σ H _ I h) fun u s1 ⟨x, H1, I1, rx, a, C, dd, fs, v, ex, ea, T, hno, ed, l, q⟩ => ?_)
  subst ex
  obtain rfl : u = Value.ref a := rx
  obtain ⟨⟨oe, ho, hz, vs, hd⟩, _, _⟩ := I1.hok a _ ea
  obtain ⟨mA, hns, hr⟩ := (show ObjOk X.prog X.w H1 s1.heap dd (.xd fs) from I1.hok dd _ ed)
  obtain ⟨od, hod, hl⟩ := lookIn_ns hns
  obtain ⟨u, hu, ru⟩ := RelO.some_of (v := v) (o := mA n) (by rw [← l]; exact hr n)
  have J : PySem.W.InstAt s1.heap a oe C (some od) := ⟨ho, hz.1, by unfold PySem.W.notCls; rw [hd] <;> rfl, by rw [hz.2]; exact hod⟩
  exact HandSPX.exc_get I1.kIn J T.ga T.gg T.exC (PySem.W.findObj_own T.hdC hno rfl (by rw [hl, hu])) (handed_of ru) ⟨v, H1, I1.tok _, ru, q⟩
/-- isinstance(e, c), e an error with fields that was caught and kept -/
def rIsD (K : PySem.W.Frag) : List V → Hp → VK → Prop := fun xs H Q => ∃ (a D dd : Addr) (fs : List (Str × V)) (c : V) (cv : Value) (b : Bool), xs = [.ref a, c] ∧ H a = some (Caught (.ref D) (some dd) a) ∧ H dd = some (.xd fs) ∧ ExcC K D ∧ ClsV c cv ∧ PySem.W.kitOne K (.ref D) cv = some b ∧ Q (.bl b) H
theorem call_isD : CallR X (.builtin "isinstance") (rIsD X.K) := by
  intro pins s σ H xs us Q I r h
  obtain ⟨a, D, dd, fs, c, cv, b, rfl, ha, hdd, C, k, e, q⟩ := h
  obtain ⟨u1, u2, rfl, r1, r2⟩ := vals2 r
  have e2 := k.eq r2
  subst e2
  cases (show u1 = Value.ref a from r1)
  obtain ⟨⟨oe, ho, hz, vs, hv⟩, _, _⟩ := I.hok a _ ha
  obtain ⟨mA, hns, hr⟩ := (show ObjOk X.prog X.w H s.heap dd (.xd fs) from I.hok dd _ hdd)
  obtain ⟨od, hod, hl⟩ := lookIn_ns hns
  have J : PySem.W.InstAt s.heap a oe D (some od) := ⟨ho, hz.1, by unfold PySem.W.notCls; rw [hv] <;> rfl, by rw [hz.2]; exact hod⟩
  exact PySem.W.kia_one (PySem.W.kit_exc_any C) I.kIn J e (fun z => nomatch z) fun tk => ⟨.bl b, H, I.tok tk, rfl, q⟩
end
end Own
set_option Elab.async false
set_option linter.all false
set_option maxRecDepth 100000
set_option maxHeartbeats 400000
namespace Own
open PySem PySem.Spec PyProof.Rows L2 LamX
/-! ### raising while a dict is walked -/
theorem takes_unlock {X : Cx} {W : WX} (tk : Takes X W) : Takes X (fun cls dd σ H => ∃ d od u, H d = some (.frz od u) ∧ (∀ o' u', X.H_0 d ≠ some (.frz o' u')) ∧ W cls dd σ (L2.upd H d u)) := by
  rintro u s' ⟨a, B, sI, pins, σ, H, cls, dd, e, I, nb, up, sky, na, os, ag, d, od, v, hd, hn, w⟩
  refine tk u s' ⟨a, B, sI, pins, σ, L2.upd H d v, cls, dd, e, I.unlock hd hn, nb, up, sky, ?_, os, ag, w⟩
  rw [upd_ne (fun z => by rw [z, hd] at na; cases na)]
  exact na
/-! ### tables of names -/
def kD : Key → PyData
  | .inl i => .int i
  | .inr z => .str z
theorem Dq.key {N : List Addr} {H : Hp} : ∀ k : Key, Dq N H (kV k) (kD k)
  | .inl i => .int i
  | .inr z => .str z
theorem Dq.flat {N : List Addr} {H : Hp} : ∀ {v : V}, fok v = true → Dq N H v (fd v)
  | .non, _ => .non
  | .bl b, _ => .bl b
  | .int i, _ => .int i
  | .str z, _ => .str z
/-- t + u -/
theorem cat_readV {K : PySem.W.Frag} {H : Hp} {Q : VK} {a b : Addr} {xs ys : List V} (ha : H a = some (.tup xs)) (hb : H b = some (.tup ys)) (hz : xs.length + ys.length ≤ sizeLine) (k : ∀ r H', Same H H' → H' r = some (.tup (xs ++ ys)) → Q (.ref r) H') : rCatA K (.ref a) (.ref b) H Q := by
  refine ⟨a, b, _, _, rfl, rfl, SqT.of ha, SqT.of hb, hz, fun e => ?_, fun _ e => ?_, fun _ _ p np => ?_⟩
  · refine k b H (Same.refl _) ?_
    rw [e, List.nil_append]
    exact hb
  · refine k a H (Same.refl _) ?_
    rw [e, List.append_nil]
    exact ha
  · exact k p _ (same_upd np) upd_same
theorem cut_to {xs : List V} {k : Nat} (h : k ≤ xs.length) : cutV xs none (some (k : Int)) = xs.take k := by
  show (xs.drop (HT.sIx xs.length 0 none)).take (HT.sIx xs.length xs.length (some (k : Int)) - HT.sIx xs.length 0 none) = _
  rw [HT.sIx_none, HT.sIx_nat, Nat.min_eq_left h]
  rfl
theorem way_small {d : Deed} (h : DeedOk d) : d.way.length ≤ 1 := by
  obtain ⟨m, k, hm, nm, _, nk, _⟩ := h
  have : k ≤ 1 := (form_facts _ hm).2.2.2
  omega
abbrev tNN : SupX.Txt := ⟨"NoName", "name", "name", "see the value"⟩
end Own
set_option Elab.async false
set_option linter.all false
set_option maxRecDepth 100000
set_option maxHeartbeats 400000
namespace Own
open PySem PySem.Spec PyProof.Rows L2 LamX
/-! ### the law's forms; shuffled lists -/
def FK : List (Key × V) := FORM.map fun t => (Sum.inr t.1, V.int t.2.1)
def spForms : Sp := fun vs H Q _ => vs = [] ∧ ∀ p H', Same H H' → H p = none → H' p = some (.dK FK) → Q (.ref p) H'
def WAYS : List Str := "disc" :: "rims" :: "corner" :: "compass" :: "circles" :: []
def spHasWay : Sp := fun vs H Q _ => ∃ z : Str, vs = [.str z] ∧ ∀ H', Same H H' → Q (.bl (decide (z ∈ WAYS))) H'
theorem StA.off {H : Hp} {a lw lc : Addr} {t : Nat} (S : StA H a lw lc t) {b : Addr} {o : HO} (e : H b = some o) (n1 : ∀ kvs, o ≠ .dK kvs) (n2 : ∀ xs, o ≠ .lst xs) : b ∉ [a, lw] := by
  obtain ⟨⟨ws, cs, r, u, g1, g2, _⟩, _⟩ := S
  have q1 : b ≠ a := ne_of e g1 (n1 _)
  have q2 : b ≠ lw := ne_of e g2 (n2 _)
  simp [q1, q2]
theorem StA.new {H : Hp} {a lw lc : Addr} {t : Nat} (S : StA H a lw lc t) {b : Addr} (e : H b = none) : b ∉ [a, lw] ∧ b ≠ lc := by
  obtain ⟨⟨ws, cs, r, u, g1, g2, g3, _⟩, _⟩ := S
  have q1 : b ≠ a := (ne_of_none g1 e).symm
  have q2 : b ≠ lw := (ne_of_none g2 e).symm
  have q3 : b ≠ lc := (ne_of_none g3 e).symm
  exact ⟨by simp [q1, q2], q3⟩
theorem StA.back {H G : Hp} {a lw lc : Addr} {t : Nat} (S : StA G a lw lc t) (k : Kp [a, lw] H G) {q : Addr} (n : G q = none) : H q = none := by
  cases e : H q with
  | none => rfl
  | some o =>
    have := k q o e (S.new n).1
    rw [n] at this
    cases this
theorem StA.put {H : Hp} {a lw lc : Addr} {t : Nat} (S : StA H a lw lc t) {b : Addr} (n : b ∉ [a, lw]) (n2 : b ≠ lc) (o : HO) : StA (L2.upd H b o) a lw lc t := by
  obtain ⟨⟨ws, cs, r, u, g1, g2, g3, g⟩, ne⟩ := S
  have q1 : a ≠ b := fun z => n (by simp [z])
  have q2 : lw ≠ b := fun z => n (by simp [z])
  exact ⟨⟨ws, cs, r, u, by rw [upd_ne q1]; exact g1, by rw [upd_ne q2]; exact g2, by rw [upd_ne n2.symm]; exact g3, g⟩, ne⟩
def ctnL (H : Hp) (L : Addr) : List V := match H L with
  | some (.lst xs) => xs
  | _ => []
theorem ctnL_of {H : Hp} {L : Addr} {xs : List V} (h : H L = some (.lst xs)) : ctnL H L = xs := by
  unfold ctnL
  rw [h]
theorem StA.tupK {H H' : Hp} {a lw lc : Addr} {t : Nat} (S : StA H a lw lc t) (k : Kp [a, lw] H H') {b : Addr} {ys : List V} (e : H b = some (.tup ys)) : H' b = some (.tup ys) := k b _ e (S.off e (fun _ z => by cases z) fun _ z => by cases z)
theorem seq_nat {j n : Nat} (h : j < n) : seqIndex? (j : Int) n = some j := by
  unfold seqIndex?
  have h0 : ¬ (j : Int) < 0 := by omega
  simp only [if_neg h0]
  have h1 : (decide (0 ≤ (j : Int)) && decide ((j : Int) < (n : Int))) = true := by
    rw [decide_eq_true (by omega), decide_eq_true (by omega)]
    rfl
  rw [if_pos h1]
  rfl
theorem erase_map {α β : Type} (f : α → β) : ∀ (l : List α) (j : Nat), (l.map f).eraseIdx j = (l.eraseIdx j).map f
  | [], _ => rfl
  | _ :: _, 0 => rfl
  | x :: l, j + 1 => congrArg (f x :: ·) (erase_map f l j)
theorem erase_front {α : Type} : ∀ {l : List α} {j : Nat} (hj : j < l.length), (l[j] :: l.eraseIdx j).Perm l
  | _ :: _, 0, _ => List.Perm.refl _
  | x :: l, j + 1, hj => by
    have ih := erase_front (l := l) (j := j) (by simpa using hj)
    exact (List.Perm.swap _ _ _).trans (ih.cons x)
theorem erase_mv {l ys ns : List Str} {j : Nat} (hj : j < l.length) (h : (l ++ ys).Perm ns) : (l.eraseIdx j ++ (ys ++ [l[j]])).Perm ns := by
  refine List.Perm.trans ?_ h
  have e : (l[j] :: l.eraseIdx j).Perm l := erase_front hj
  refine List.Perm.trans ?_ (e.append_right ys)
  rw [← List.append_assoc]
  exact List.perm_append_singleton _ _
def spShuf : Sp := fun vs H Q _ => ∃ (a lw lc : Addr) (t : Nat) (l : Addr) (ns : List Str), vs = [.ref a, .ref l] ∧ StA H a lw lc t ∧ t < 2 ^ 39 ∧ H l = some (.lst (ns.map V.str)) ∧ (ns.map V.str).all fok = true ∧ ns.length ≤ 100 ∧
  ∀ (p : Addr) (ms : List Str) (H' : Hp), ms.Perm ns → ms.length = ns.length → (∀ z ∈ ms, z ∈ ns) → StA H' a lw lc (t + ns.length) → Kp [a, lw] H H' → H p = none → H' p = some (.lst (ms.map V.str)) → Q (.ref p) H'
section
variable {P : Program} {w : World} {K : PySem.W.Frag} {mg : Str → Option Value} {base : Heap} {f fP fD fS fT fSh fF fHW : Addr} {fd2 fdP fdD fdS fdT fdSh fdF fdHW : FuncData}
theorem scForms : FnScope [] [] (defScope sForms) := ⟨rfl, rfl, rfl, by decide +kernel, rfl, by decide +kernel, by decide +kernel⟩
theorem ok_forms (F : FnP K "_law_forms" sForms f fd2) : FnOk P w K mg base CX0 1 f fd2 [] spForms := by
  refine F.ok scForms (fun vs H Q E h => ?_) (fun cdv A outer s H vs Q E hr h => ?_)
  · obtain ⟨rfl, _⟩ := h
    rfl
  · obtain ⟨rfl, k⟩ := h
    refine ⟨_, PSs.nox (pss_one (ps_ret (pe_disp (pps_cons pe_str pe_int (pps_cons pe_str pe_int (pps_cons pe_str pe_int (pps_cons pe_str pe_int (pps_cons pe_str pe_int (pps_cons pe_str pe_int (pps_cons pe_str pe_int (pps_cons pe_str pe_int (pps_cons pe_str pe_int (pps_cons pe_str pe_int (pps_cons pe_str pe_int pps_nil))))))))))) (by rfl) (by rfl) (fun z => by cases z) (by decide)))), ?_⟩
    intro d nd
    refine ⟨upd_same, FK, rfl, by decide, ?_⟩
    refine k d _ (fun b o e => ?_) nd ?_
    · rw [upd_ne (ne_of_none e nd), upd_ne (ne_of_none e nd)]
      exact e
    · rw [upd_same]
      kernel_rfl
theorem scHasWay : FnScope ["_law_word"] ["_law_word"] (defScope sHasWay) := ⟨rfl, rfl, rfl, by decide +kernel, rfl, by decide +kernel, by decide +kernel⟩
theorem ok_hasway (F : FnP K "_law_has_way" sHasWay f fd2) : FnOk P w K mg base CX0 1 f fd2 ["_law_word"] spHasWay := by
  refine F.ok scHasWay (fun vs H Q E h => ?_) (fun cdv A outer s H vs Q E hr h => ?_)
  · obtain ⟨z, rfl, _⟩ := h
    rfl
  · obtain ⟨z, rfl, k⟩ := h
    refine ⟨_, PSs.nox (pss_one (ps_ret (pe_cmpR op_in_seq (pv 0) (pe_lst (pa_cons pe_str (pa_cons pe_str (pa_cons pe_str (pa_cons pe_str (pa_cons pe_str pa_nil)))))) (by rfl)))), ?_⟩
    refine ⟨_, rfl, (by show 5 ≤ sizeLine; decide), fun l nl => ?_⟩
    refine ⟨l, WAYS.map V.str, rfl, .inl (SqL.of upd_same), rfl, flat_strs _, ?_⟩
    show Q (.bl (inV (.str z) (WAYS.map V.str))) _
    rw [inV_str]
    exact k _ (same_upd nl)
theorem scShuf : FnScope ["_law_state", "_law_some", "_law_left", "_law_found"] ["_law_state", "_law_some"] (defScope sShuf) := ⟨rfl, rfl, rfl, by decide +kernel, rfl, by decide +kernel, by decide +kernel⟩
theorem ok_shuf (F : FnP K "_law_shuffled" sShuf f fd2) (FD : FnP K "_law_draw" sDraw fD fdD) (FS : FnP K "_law_stirred" sStir fS fdS) (gD : mg "_law_draw" = some (.ref fD)) (gS : mg "_law_stirred" = some (.ref fS)) (T : Txt K mg) :
    FnOk P w K mg base CX0 3 f fd2 ["_law_state", "_law_some"] spShuf := by
  have GD : FnOk P w K mg base CX0 2 fD fdD ["_law_state", "_law_room"] spDraw := ok_draw FD FS gS T
  have bD : Binds K fdD ["_law_state", "_law_room"] [] := FD.bindsN fun _ _ _ _ _ _ us hl => match us, hl with | [_, _], _ => rfl
  refine F.ok scShuf (fun vs H Q E h => ?_) (fun cdv A outer s H vs Q E hr h => ?_)
  · obtain ⟨a, lw, lc, t, l, ns, rfl, _⟩ := h
    rfl
  · obtain ⟨a, lw, lc, t, l, ns, rfl, S, ht, hl, hf, h100, k⟩ := h
    refine ⟨_, PSs.nox (pss_cons (ps_par (i := 2) (j := 3) (by rfl) scShuf.nd rfl rfl (by decide) rfl rfl (pa_cons (pe_callTy call_list_of (by rfl) T.list (by decide +kernel) (pa_cons (pv 1) pa_nil)) (pa_cons (pe_lst pa_nil) pa_nil)) (by rfl))
      (pss_cons (ps_while PassesOwn.never (pt_cmpR (op_neD hr.units) (pv 2) (pe_lst pa_nil) (nomark _))
        (pss_one (ps_expr (pe_bm PySem.F.plainAttrs_list PySem.F.slot_list_append PySem.F.type_list_append mt_append (pv 3) (pa_cons (pe_bm PySem.F.plainAttrs_list PySem.F.slot_list_pop PySem.F.type_list_pop mt_popAt (pv 2)
          (pa_cons (pe_call GD hr (by rfl) gD FD.kp bD .nil pass0 (pa_cons (pv 0) (pa_cons (pe_callB call_len_seq (by rfl) T.len PySem.boot_len (pa_cons (pv 2) pa_nil)) pa_nil))) pa_nil)) pa_nil)))))
      (pss_one (ps_ret (pv 3))))), ?_⟩
    refine ⟨_, rfl, l, _, rfl, .inl (SqL.of hl), fun L nL => ⟨(by show 0 ≤ sizeLine; decide), fun F0 nF => ⟨_, _, rfl, ?_⟩⟩⟩
    have s1 := same_upd (o := .lst (ns.map V.str)) nL
    have s2 := same_upd (o := .lst []) nF
    have SA := S.same (s1.trans s2)
    obtain ⟨oL, oLc⟩ := S.new nL
    obtain ⟨oF, oFc⟩ := S.new (s1.free nF)
    have nLF : L ≠ F0 := ne_of_none upd_same nF
    have hL := s2 _ _ (upd_same (a := L) (o := .lst (ns.map V.str)))
    refine while_by (fun σ G => σ = [some (.ref a), some (.ref l), some (.ref L), some (.ref F0)] ∧ ∃ xs ys : List Str, (xs ++ ys).Perm ns ∧ xs.length + ys.length = ns.length ∧ (∀ z ∈ xs, z ∈ ns) ∧ (∀ z ∈ ys, z ∈ ns) ∧ G L = some (.lst (xs.map V.str)) ∧ G F0 = some (.lst (ys.map V.str)) ∧ StA G a lw lc (t + ys.length) ∧ Kp [a, lw] H G)
      (fun σ G => (ctnL G L).length) ⟨rfl, ns, [], by simp, by simp, (fun _ h => h), (fun _ h => by cases h), hL, upd_same, SA, Kp.of (s1.trans s2)⟩ ?_ ?_
    · rintro σ G ⟨rfl, xs, ys, pm, hlen, hx, hy, gL, gF, SG, KG⟩
      have fx : (xs.map V.str).all fok = true := by
        rw [List.all_eq_true] at hf ⊢
        intro v hv
        obtain ⟨z, hz, rfl⟩ := List.mem_map.mp hv
        exact hf _ (List.mem_map.mpr ⟨z, hx z hz, rfl⟩)
      refine ⟨_, rfl, (by show 0 ≤ sizeLine; decide), fun q nq => ?_⟩
      have s3 := same_upd (o := .lst []) nq
      refine ne_nil (SqL.of (s3 _ _ gL)) (SqL.of upd_same) fx ⟨_, rfl, ?_⟩
      have S3 := SG.same s3
      generalize L2.upd G q (.lst []) = G1 at s3 S3
      have gL1 := s3 _ _ gL
      have gF1 := s3 _ _ gF
      cases xs with
      | nil =>
        refine iteF ?_
        have e : ys.length = ns.length := by simpa using hlen
        rw [e] at S3
        have K1 := KG.trans (Kp.of s3 (xs := [a, lw]))
        exact ⟨_, rfl, k F0 ys G1 (by simpa using pm) e hy S3 K1 (s1.free nF) gF1⟩
      | cons x xs =>
        refine iteT ?_
        have len : 0 < (x :: xs).length := by simp
        have yl : ys.length < 100 := by rw [List.length_cons] at hlen; omega
        refine ⟨_, rfl, .inl ⟨rfl, _, .inl (.inl gF1)⟩, _, rfl, .inl ⟨rfl, _, .inl (.inl gL1)⟩, _, rfl, _, rfl, L, _, rfl, .inl (SqL.of gL1), a, lw, lc, _, _, rfl, S3, by omega, ?_, ?_, fun z G2 z0 z1 S4 K4 => ?_⟩
        · rw [List.length_map]
          omega
        · rw [List.length_map, List.length_cons]
          rw [List.length_cons] at hlen
          omega
        have gL2 := K4 _ _ gL1 oL
        have gF2 := K4 _ _ gF1 oF
        obtain ⟨j, rfl⟩ : ∃ j : Nat, z = (j : Int) := ⟨z.toNat, by omega⟩
        rw [List.length_map] at z1
        have hj : j < (x :: xs).length := by omega
        have ej : ((x :: xs).map V.str)[j]? = some (.str ((x :: xs)[j])) := by
          rw [List.getElem?_map, List.getElem?_eq_getElem hj]
          rfl
        refine ⟨L, _, _, j, _, rfl, rfl, gL2, by omega, by rw [List.length_cons] at hj; rw [List.length_cons] at hlen; omega, ?_, ej, ?_⟩
        · rw [List.length_map]
          exact seq_nat hj
        · refine ⟨F0, _, _, rfl, rfl, by rw [upd_ne nLF.symm]; exact gF2, by rw [List.length_map]; exact Nat.lt_of_lt_of_le yl (by decide), ?_⟩
          have gLn : (L2.upd (L2.upd G2 L (.lst (((x :: xs).map V.str).eraseIdx j))) F0 (.lst (ys.map V.str ++ [.str ((x :: xs)[j])]))) L = some (.lst (((x :: xs).eraseIdx j).map V.str)) := by
            rw [upd_ne nLF, upd_same, erase_map]
          refine ⟨⟨rfl, (x :: xs).eraseIdx j, ys ++ [(x :: xs)[j]], erase_mv hj pm, ?_, fun z hz => hx z (List.mem_of_mem_eraseIdx hz), fun z hz => ?_, gLn, ?_, ?_, ?_⟩, ?_⟩
          · rw [List.length_eraseIdx_of_lt hj, List.length_append, List.length_singleton]
            rw [List.length_cons] at hlen ⊢
            omega
          · rcases List.mem_append.mp hz with hz | hz
            · exact hy z hz
            · rw [List.mem_singleton.mp hz]
              exact hx _ (List.getElem_mem hj)
          · rw [upd_same, List.map_append]
            rfl
          · rw [List.length_append, List.length_singleton]
            exact (S4.put oL oLc _).put oF oFc _
          · exact fun b o e nb => by
              rw [upd_ne (ne_of_none e (s1.free nF)), upd_ne (ne_of_none e nL)]
              exact ((KG.trans (Kp.of s3)).trans K4) b o e nb
          · show (ctnL _ L).length < (ctnL G L).length
            rw [ctnL_of gLn, ctnL_of gL, List.length_map, List.length_map, List.length_eraseIdx_of_lt hj]
            rw [List.length_cons]
            omega
    · rintro σ G Q1 Q2 hq ⟨v, e1, hle, hh⟩
      exact ⟨v, e1, hle, fun p np => let ⟨d, e, a1, a2, a3, a4, kk, e5, q⟩ := hh p np; ⟨d, e, a1, a2, a3, a4, kk, e5, hq _ _ q⟩⟩
end
end Own
set_option Elab.async false
set_option linter.all false
set_option maxRecDepth 100000
set_option maxHeartbeats 400000
namespace Own
open PySem PySem.Spec PyProof.Rows L2 LamX
/-! ### fresh names -/
def AZ : Str := "abcdefghijklmnopqrstuvwxyz"
def LAB : List Str := "a" :: "b" :: "z" :: "meet" :: "gauge" :: "draw" :: "undo" :: "x" :: "y" :: "ok" :: "r1" :: "a1" :: "zzzzzzzz" :: "q9" :: []
def KK : List Str := (signs AZ).map fun x => strV x ++ "k" ++ strV x
def SV : List Str := (signs AZ).map fun x => strV x ++ "7"
theorem near_ok : (∀ z ∈ LAB ++ (KK ++ SV), NameOk z) ∧ KK.Nodup ∧ KK.length = 26 ∧ SV.length = 26 ∧ ∀ z ∈ KK, z ∉ SHEET := by decide +kernel
theorem signs_ok : ∀ x ∈ signs AZ, ∃ z, x = .str z ∧ z.length = 1 := fun x hx => by
  obtain ⟨c, hc, rfl⟩ := List.mem_map.mp hx
  exact ⟨_, rfl, rfl⟩
theorem nodup_le {α : Type} [DecidableEq α] : ∀ {l m : List α}, l.Nodup → (∀ x ∈ l, x ∈ m) → l.length ≤ m.length
  | [], _, _, _ => Nat.zero_le _
  | x :: l, m, h, s => by
    obtain ⟨h1, h2⟩ := List.nodup_cons.mp h
    have hx := s x List.mem_cons_self
    have := nodup_le (l := l) (m := m.erase x) h2 fun y hy => by
      have ne : y ≠ x := fun z => h1 (z ▸ hy)
      exact (List.mem_erase_of_ne ne).mpr (s y (List.mem_cons_of_mem _ hy))
    rw [List.length_erase_of_mem hx] at this
    have pos := List.length_pos_of_mem hx
    rw [List.length_cons]
    omega
def freshB (kn : List Str) (z : Str) : Bool := !decide (z ∈ kn) && !decide (z ∈ SHEET)
theorem fresh_some {kn : List Str} (h : kn.length ≤ 20) (label : Str) : ∃ z r, ([label] ++ KK ++ SV).filter (freshB kn) = z :: r := by
  cases e : ([label] ++ KK ++ SV).filter (freshB kn) with
  | cons z r => exact ⟨z, r, rfl⟩
  | nil =>
    exfalso
    have no := List.filter_eq_nil_iff.mp e
    have : KK.length ≤ kn.length := nodup_le near_ok.2.1 fun x hx => by
      have q := no x (List.mem_append_left _ (List.mem_append_right _ hx))
      have ns := near_ok.2.2.2.2 x hx
      unfold freshB at q
      rw [decide_eq_false ns] at q
      simpa using q
    rw [near_ok.2.2.1] at this
    omega
def spLName : Sp := fun vs H Q _ => ∃ (a lw lc : Addr) (t : Nat) (b : Addr) (kn : List Str), vs = [.ref a, .ref b] ∧ StA H a lw lc t ∧ t < 2 ^ 39 ∧ H b = some (.lst (kn.map V.str)) ∧ b ∉ [a, lw] ∧ kn.length ≤ 20 ∧
  ∀ z H', NameOk z → z ∈ LAB ++ (KK ++ SV) → z ∉ kn → StA H' a lw lc (t + 1) → Kp [a, lw] H H' → Q (.str z) H'
section
variable {P : Program} {w : World} {K : PySem.W.Frag} {mg : Str → Option Value} {base : Heap} {f fP fD fS fT fSh fF fHW : Addr} {fd2 fdP fdD fdS fdT fdSh fdF fdHW : FuncData}
abbrev nsLName : List Str := ["_law_state", "_law_barred", "_law_some", "_law_label", "_law_near", "_law_mark", "_law_one"]
theorem scLName : FnScope nsLName ["_law_state", "_law_barred"] (defScope sLName) := ⟨rfl, rfl, rfl, by decide +kernel, rfl, by decide +kernel, by decide +kernel⟩
theorem ok_lname (F : FnP K "_law_name" sLName f fd2) (FP : FnP K "_law_pick" sPick fP fdP) (FD : FnP K "_law_draw" sDraw fD fdD) (FS : FnP K "_law_stirred" sStir fS fdS) (gP : mg "_law_pick" = some (.ref fP)) (gD : mg "_law_draw" = some (.ref fD)) (gS : mg "_law_stirred" = some (.ref fS)) (T : Txt K mg) :
    FnOk P w K mg base CX0 4 f fd2 ["_law_state", "_law_barred"] spLName := by
  have GP : FnOk P w K mg base CX0 3 fP fdP ["_law_state", "_law_some"] (spPick K) := ok_pick FP FD FS gD gS T
  have bP : Binds K fdP ["_law_state", "_law_some"] [] := FP.bindsN fun _ _ _ _ _ _ us hl => match us, hl with | [_, _], _ => rfl
  refine F.ok scLName (fun vs H Q E h => ?_) (fun cdv A outer s H vs Q E hr h => ?_)
  · obtain ⟨a, lw, lc, t, b, kn, rfl, _⟩ := h
    rfl
  · obtain ⟨a, lw, lc, t, b, kn, rfl, S, ht, hb, nb, hl, k⟩ := h
    refine ⟨_, PSs.nox (pss_cons (ps_set (i := 2) scLName.nd rfl (.inl rfl) (pe_lst (pa_cons pe_str (pa_cons pe_str (pa_cons pe_str (pa_cons pe_str (pa_cons pe_str (pa_cons pe_str (pa_cons pe_str (pa_cons pe_str (pa_cons pe_str (pa_cons pe_str (pa_cons pe_str (pa_cons pe_str (pa_cons pe_str (pa_cons pe_str pa_nil))))))))))))))))
      (pss_cons (ps_set (i := 3) scLName.nd rfl (.inl rfl) (pe_call GP hr (by rfl) gP FP.kp bP .nil pass0 (pa_cons (pv 0) (pa_cons (pv 2) pa_nil))))
      (pss_cons (ps_set (i := 4) scLName.nd rfl (.inl rfl) (pe_op op_cat (pe_lst (pa_cons (pv 3) pa_nil)) (pe_lc (own := [("_law_mark", 5)]) (g := gName 5) (tt := tYes) (by rfl) scLName.nd (pi_str pe_str) (blkOk_by (own := [("_law_mark", 5)]) (N := nsLName) (sc := defScope sLName) (by decide +kernel))
          (fun _ _ _ _ _ => pg_name (i := 5) scLName.nd rfl (Or.inl rfl)) (fun _ _ _ _ _ => pts_nil) (fun _ _ _ _ _ => pe_op op_add_str (pe_op op_add_str (pv 5) pe_str) (pv 5)))))
      (pss_cons (ps_set (i := 4) scLName.nd rfl (.inl rfl) (pe_op op_cat (pv 4) (pe_lc (own := [("_law_mark", 5)]) (g := gName 5) (tt := tYes) (by rfl) scLName.nd (pi_str pe_str) (blkOk_by (own := [("_law_mark", 5)]) (N := nsLName) (sc := defScope sLName) (by decide +kernel))
          (fun _ _ _ _ _ => pg_name (i := 5) scLName.nd rfl (Or.inl rfl)) (fun _ _ _ _ _ => pts_nil) (fun _ _ _ _ _ => pe_op op_add_str (pv 5) pe_str))))
      (pss_one (ps_ret (pe_ix ix_list (pe_lc (own := [("_law_one", 6)]) (g := gName 6) (by rfl) scLName.nd (pi_list (pv 4)) (blkOk_by (own := [("_law_one", 6)]) (N := nsLName) (sc := defScope sLName) (by decide +kernel))
          (fun _ _ _ _ _ => pg_name (i := 6) scLName.nd rfl (Or.inl rfl)) (fun _ _ _ _ _ => pts_one (PW.pt (pw_and (pt_cmpR (op_notInK (K := K) rfl) (pv 6) (pv 1) (by rfl)) (pw_and1 (pt_cmpR (op_notInK (K := K) rfl) (pv 6) (pe_lst (pa_cons pe_str (pa_cons pe_str (pa_cons pe_str (pa_cons pe_str (pa_cons pe_str pa_nil)))))) (by rfl)))))) (fun _ _ _ _ _ => pv 6)) pe_int (fun _ _ => rfl)))))))), ?_⟩
    refine ⟨(by show 14 ≤ sizeLine; decide), fun L nL => ?_⟩
    have s1 := same_upd (o := .lst (LAB.map V.str)) nL
    have nLw : L ≠ lw := fun z => (S.new nL).1 (by simp [z])
    refine ⟨_, rfl, _, rfl, a, lw, lc, t, L, LAB.map V.str, rfl, S.same s1, by omega, upd_same, nLw, by decide, by decide, fun i x H1 hx S1 K1 => ?_⟩
    obtain ⟨label, hlab, rfl⟩ : ∃ z ∈ LAB, x = .str z := by
      obtain ⟨z, hz, e⟩ := List.mem_map.mp (List.mem_of_getElem? hx)
      exact ⟨z, hz, e.symm⟩
    have KK1 := (Kp.of s1 (xs := [a, lw])).trans K1
    have hb1 := KK1 _ _ hb nb
    have zk : ∀ {x : V}, x ∈ signs AZ → ∃ z, x = .str z ∧ z.length = 1 := fun h => signs_ok _ h
    -- the first list
    refine ⟨_, rfl, (by show 1 ≤ sizeLine; decide), fun l1 n1 => ?_⟩
    have s2 := same_upd (o := .lst [.str label]) n1
    refine ⟨AZ, rfl, fun D nD => ?_⟩
    refine lc_rel (p := fun _ => true) (c := fun x => V.str (strV x ++ "k" ++ strV x)) (rel := fun _ y b => y = b) walk_signs nD (by decide) (fun _ _ => trivial) (fun _ q => q) (fun _ q _ => q) (fun v => rfl) (fun x H' _ _ R kR => kR H' (Same.refl _)) (fun x H' hx _ _ R kR => ?_) fun H2 ys sH eD f => ?_
    · obtain ⟨z, rfl, hz⟩ := zk hx
      refine ⟨_, rfl, _, _, rfl, rfl, by rw [hz]; decide, _, rfl, _, _, rfl, rfl, ?_, kR _ H' (Same.refl _) rfl⟩
      have : (z ++ "k").length = 2 := by rw [Str.length_append, hz]; rfl
      rw [this, hz]
      decide
    rw [List.filter_eq_self.mpr fun _ _ => rfl] at f
    have ey : ys = KK.map V.str := by
      rw [f.map_eq (f := fun x => x), List.map_id']
      unfold KK
      rw [List.map_map]
      rfl
    subst ey
    refine ⟨l1, D, [.str label], _, rfl, rfl, sH _ _ upd_same, eD, (by rw [List.length_map, near_ok.2.2.1]; show 27 ≤ sizeLine; decide), fun l2 n2 => ?_⟩
    have s3 := same_upd (o := .lst ([V.str label] ++ KK.map V.str)) n2
    have up3 := (s2.trans sH).trans s3
    -- the second one
    refine ⟨_, rfl, ⟨AZ, rfl, fun D2 nD2 => ?_⟩⟩
    have h2 := upd_same (H := H2) (a := l2) (o := .lst ([V.str label] ++ KK.map V.str))
    generalize L2.upd H2 l2 (.lst ([V.str label] ++ KK.map V.str)) = H3 at s3 up3 nD2 h2
    refine lc_rel (p := fun _ => true) (c := fun x => V.str (strV x ++ "7")) (rel := fun _ y b => y = b) walk_signs nD2 (by decide) (fun _ _ => trivial) (fun _ q => q) (fun _ q _ => q) (fun v => rfl) (fun x H' _ _ R kR => kR H' (Same.refl _)) (fun x H' hx _ _ R kR => ?_) fun H4 ys s4 eD2 f2 => ?_
    · obtain ⟨z, rfl, hz⟩ := zk hx
      exact ⟨_, rfl, _, _, rfl, rfl, by rw [hz]; decide, kR _ H' (Same.refl _) rfl⟩
    rw [List.filter_eq_self.mpr fun _ _ => rfl] at f2
    have ey : ys = SV.map V.str := by
      rw [f2.map_eq (f := fun x => x), List.map_id']
      unfold SV
      rw [List.map_map]
      rfl
    subst ey
    refine ⟨l2, D2, _, _, rfl, rfl, s4 _ _ h2, eD2, (by rw [List.length_append, List.length_map, List.length_map, near_ok.2.2.1, near_ok.2.2.2.1]; show 53 ≤ sizeLine; decide), fun l3 n3 => ?_⟩
    have en : ([V.str label] ++ KK.map V.str) ++ SV.map V.str = ([label] ++ KK ++ SV).map V.str := by
      rw [List.map_append, List.map_append]
      rfl
    rw [en]
    have s5 := same_upd (o := .lst (([label] ++ KK ++ SV).map V.str)) n3
    have h3 := upd_same (H := H4) (a := l3) (o := .lst (([label] ++ KK ++ SV).map V.str))
    generalize L2.upd H4 l3 (.lst (([label] ++ KK ++ SV).map V.str)) = H5 at s5 h3
    have up5 := (up3.trans s4).trans s5
    have hb5 := up5 _ _ hb1
    refine ⟨_, rfl, l3, rfl, ⟨_, SqL.of h3⟩, fun D3 nD3 => ?_⟩
    have len53 : (([label] ++ KK ++ SV).map V.str).length = 53 := by
      rw [List.length_map, List.length_append, List.length_append, near_ok.2.2.1, near_ok.2.2.2.1]
      rfl
    refine lc_filt (p := fun x => !inV x (kn.map V.str) && !inV x (SHEET.map V.str)) walk_list nD3 (by rw [len53]; decide) (fun H' s => Same.seq s (SqL.of h3)) (by show 6 < 7; decide) (fun x H' hx s6 R kR => ?_) fun H6 s6 hD3 => ?_
    · obtain ⟨z, _, rfl⟩ := List.mem_map.mp hx
      refine ⟨_, rfl, _, rfl, b, _, rfl, .inl (SqL.of (s6 _ _ hb5)), rfl, flat_strs _, _, rfl, ?_⟩
      cases e : inV (V.str z) (kn.map V.str) with
      | true =>
        refine iteF ?_
        have q := kR H' (Same.refl _)
        rw [e] at q
        exact q
      | false =>
        refine iteT ?_
        refine ⟨_, rfl, (by show 5 ≤ sizeLine; decide), fun l nl => ⟨l, SHEET.map V.str, rfl, .inl (SqL.of upd_same), rfl, flat_strs _, _, rfl, ?_⟩⟩
        have q := kR _ (same_upd (o := .lst (SHEET.map V.str)) nl)
        rw [e] at q
        exact q
    obtain ⟨z, r, ez⟩ := fresh_some hl label
    have ef : (([label] ++ KK ++ SV).map V.str).filter (fun x => !inV x (kn.map V.str) && !inV x (SHEET.map V.str)) = (z :: r).map V.str := by
      rw [← ez, List.filter_map]
      refine congrArg (List.map V.str) (List.filter_congr fun y _ => ?_)
      show (!inV (.str y) _ && !inV (.str y) _) = freshB kn y
      rw [inV_str, inV_str]
      rfl
    rw [ef] at hD3
    have mz : z ∈ ([label] ++ KK ++ SV).filter (freshB kn) := by rw [ez]; exact List.mem_cons_self
    obtain ⟨mz1, mz2⟩ := List.mem_filter.mp mz
    have okz : NameOk z := by
      rcases List.mem_append.mp mz1 with m | m
      · rcases List.mem_append.mp m with m | m
        · rw [List.mem_singleton.mp m]
          exact near_ok.1 _ (List.mem_append_left _ hlab)
        · exact near_ok.1 _ (List.mem_append_right _ (List.mem_append_left _ m))
      · exact near_ok.1 _ (List.mem_append_right _ (List.mem_append_right _ m))
    have frz : z ∉ kn := by
      unfold freshB at mz2
      intro q
      rw [decide_eq_true q] at mz2
      cases mz2
    have up6 := up5.trans s6
    refine ⟨D3, _, _, _, rfl, rfl, SqL.of hD3, at_nat (k := 0) rfl, ?_⟩
    have memz : z ∈ LAB ++ (KK ++ SV) := by
      rcases List.mem_append.mp mz1 with m | m
      · rcases List.mem_append.mp m with m | m
        · rw [List.mem_singleton.mp m]
          exact List.mem_append_left _ hlab
        · exact List.mem_append_right _ (List.mem_append_left _ m)
      · exact List.mem_append_right _ (List.mem_append_right _ m)
    exact k z H6 okz memz frz (S1.same up6) (KK1.trans (Kp.of up6))
end
end Own
set_option Elab.async false
set_option linter.all false
set_option maxRecDepth 100000
set_option maxHeartbeats 400000
namespace Own
open PySem PySem.Spec PyProof.Rows L2 LamX
/-! ### drawn deeds -/
theorem ix_listK2 {X : Cx} {K : PySem.W.Frag} (h : X.K = K) : IxR X (rIxL K) := h ▸ ix_list
theorem fk_look : ∀ t ∈ FORM, valV FK (Sum.inr t.1) = some (.int t.2.1) := by decide +kernel
theorem fk_way : ∀ t ∈ FORM, decide (t.1 ∈ WAYS) = (t.2.2 == 1) := by decide +kernel
def spLDeed : Sp := fun vs H Q _ => ∃ (a lw lc : Addr) (t : Nat) (wd : Str) (m kk : Nat) (n : Addr) (kn : List Str), vs = [.ref a, .str wd, .ref n] ∧ StA H a lw lc t ∧ t < 2 ^ 38 ∧ (wd, m, kk) ∈ FORM ∧ H n = some (.lst (kn.map V.str)) ∧ n ∉ [a, lw] ∧ 0 < kn.length ∧ kn.length ≤ 20 ∧ (∀ z ∈ kn, NameOk z) ∧
  ∀ (p : Addr) (d : Deed) (H' : Hp), d.word = wd → DeedOk d → (∀ z ∈ d.names, z ∈ kn) → StA H' a lw lc (t + 40) → Kp [a, lw] H H' → H p = none → H' p = some (.tup d.vs) → Q (.ref p) H'
section
variable {P : Program} {w : World} {K : PySem.W.Frag} {mg : Str → Option Value} {base : Heap} {f fP fD fS fT fSh fF fHW : Addr} {fd2 fdP fdD fdS fdT fdSh fdF fdHW : FuncData}
abbrev nsLDeed : List Str := ["_law_state", "_law_word", "_law_names", "_law_left", "_law_found", "_law_spot"]
theorem scLDeed : FnScope nsLDeed ["_law_state", "_law_word", "_law_names"] (defScope sLDeed) := ⟨rfl, rfl, rfl, by decide +kernel, rfl, by decide +kernel, by decide +kernel⟩
theorem ok_ldeed (F : FnP K "_law_deed" sLDeed f fd2) (FSh : FnP K "_law_shuffled" sShuf fSh fdSh) (FF : FnP K "_law_forms" sForms fF fdF) (FH : FnP K "_law_has_way" sHasWay fHW fdHW) (FP : FnP K "_law_pick" sPick fP fdP) (FD : FnP K "_law_draw" sDraw fD fdD) (FS : FnP K "_law_stirred" sStir fS fdS)
    (gSh : mg "_law_shuffled" = some (.ref fSh)) (gF : mg "_law_forms" = some (.ref fF)) (gH : mg "_law_has_way" = some (.ref fHW)) (gP : mg "_law_pick" = some (.ref fP)) (gD : mg "_law_draw" = some (.ref fD)) (gS : mg "_law_stirred" = some (.ref fS)) (T : Txt K mg) :
    FnOk P w K mg base CX0 4 f fd2 ["_law_state", "_law_word", "_law_names"] spLDeed := by
  have GP : FnOk P w K mg base CX0 3 fP fdP ["_law_state", "_law_some"] (spPick K) := ok_pick FP FD FS gD gS T
  have bP : Binds K fdP ["_law_state", "_law_some"] [] := FP.bindsN fun _ _ _ _ _ _ us hl => match us, hl with | [_, _], _ => rfl
  have GD : FnOk P w K mg base CX0 2 fD fdD ["_law_state", "_law_room"] spDraw := ok_draw FD FS gS T
  have bD : Binds K fdD ["_law_state", "_law_room"] [] := FD.bindsN fun _ _ _ _ _ _ us hl => match us, hl with | [_, _], _ => rfl
  have GSh : FnOk P w K mg base CX0 3 fSh fdSh ["_law_state", "_law_some"] spShuf := ok_shuf FSh FD FS gD gS T
  have bSh : Binds K fdSh ["_law_state", "_law_some"] [] := FSh.bindsN fun _ _ _ _ _ _ us hl => match us, hl with | [_, _], _ => rfl
  have GF : FnOk P w K mg base CX0 1 fF fdF [] spForms := ok_forms FF
  have bF : Binds K fdF [] [] := FF.bindsN fun _ _ _ _ _ _ us hl => match us, hl with | [], _ => rfl
  have GH : FnOk P w K mg base CX0 1 fHW fdHW ["_law_word"] spHasWay := ok_hasway FH
  have bH : Binds K fdHW ["_law_word"] [] := FH.bindsN fun _ _ _ _ _ _ us hl => match us, hl with | [_], _ => rfl
  refine F.ok scLDeed (fun vs H Q E h => ?_) (fun cdv A outer s H vs Q E hr h => ?_)
  · obtain ⟨a, lw, lc, t, wd, m, kk, n, kn, rfl, _⟩ := h
    rfl
  · obtain ⟨a, lw, lc, t, wd, m, kk, n, kn, rfl, S, ht, hm, hn, nn, l0, l20, okN, k⟩ := h
    have hu := hu_of hr
    have hr1 := hr.mono (show 1 ≤ 3 by decide)
    have hr2 := hr.mono (show 2 ≤ 3 by decide)
    refine ⟨_, PSs.nox (pss_cons (ps_set (i := 3) scLDeed.nd rfl (.inr rfl) (pe_call GSh hr (by rfl) gSh FSh.kp bSh .nil pass0 (pa_cons (pv 0) (pa_cons (pv 2) pa_nil))))
      (pss_cons (ps_setLc (i := 4) (own := [("_law_spot", 5)]) (g := gName 5) (tt := tYes) (by rfl) scLDeed.nd rfl rfl (sw_true rfl rfl rfl (by decide +kernel)) (pi_range1 (by rfl) T.range (pa_cons (pe_dget hu (pe_call0 GF hr1 (by rfl) gF FF.kp bF .nil pass0) (pv 1) (fun _ _ => rfl)) pa_nil)) (blkOk_by (own := [("_law_spot", 5)]) (N := nsLDeed) (sc := defScope sLDeed) (by decide +kernel))
          (fun _ _ _ _ _ => pg_name (i := 5) scLDeed.nd rfl (Or.inl rfl)) (fun _ _ _ _ _ => pts_nil)
          (fun _ _ _ _ _ => pe_ifExp (PW.pt (pw_and (pt_cmpR op_lt (pv 5) (pe_callB (call_lenK (K := K) rfl) (by rfl) T.len PySem.boot_len (pa_cons (pv 3) pa_nil)) (nomark _)) (pw_and1 (pt_cmpR op_gt (pe_call GD hr2 (by rfl) gD FD.kp bD .nil pass0 (pa_cons (pv 0) (pa_cons pe_int pa_nil))) pe_int (nomark _)))))
            (pe_ix (ix_listK2 (K := K) rfl) (pv 3) (pv 5) (fun _ _ => rfl)) (pe_call GP hr (by rfl) gP FP.kp bP .nil pass0 (pa_cons (pv 0) (pa_cons (pv 2) pa_nil)))))
      (pss_one (ps_ret (pe_tupleOf (by rfl) T.tuple (pe_op op_cat (pe_op op_cat (pe_lst (pa_cons (pv 1) pa_nil)) (pv 4)) (pe_ifExp (pt_val (pe_call GH hr1 (by rfl) gH FH.kp bH .nil pass0 (pa_cons (pv 1) pa_nil))) (pe_lst (pa_cons (pe_op op_add pe_int (pe_call GD hr2 (by rfl) gD FD.kp bD .nil pass0 (pa_cons (pv 0) (pa_cons pe_int pa_nil)))) pa_nil)) (pe_lst pa_nil)))))))), ?_⟩
    have f5 : m ≤ 5 := (form_facts _ hm).2.2.1
    have f1 : kk ≤ 1 := (form_facts _ hm).2.2.2
    refine ⟨_, rfl, _, rfl, a, lw, lc, t, n, kn, rfl, S, by omega, hn, fok_names okN, by omega, fun L ms H1 _ lm hms S1 K1 nL hL => ?_⟩
    have nLA := (S.new nL).1
    refine ⟨rfl, fun fo H2 s2 nfo hfo => ?_⟩
    refine ⟨_, rfl, fo, _, rfl, dget_k (.inr wd) hfo (fk_look _ hm), m, rfl, by omega, by omega, fun D nD => ?_⟩
    have S2 := S1.same s2
    obtain ⟨nDA, nDc⟩ := S2.new nD
    have sD := same_upd (o := .lst []) nD
    have hn2 := s2 _ _ (K1 _ _ hn nn)
    have hL2 := s2 _ _ hL
    have nLD : L ≠ D := ne_of_none hL2 nD
    have nnD : n ≠ D := ne_of_none hn2 nD
    refine lc_it (walk_range (lo := 0) (n := m)) (fun i G => ∃ ns : List Str, ns.length = i ∧ (∀ z ∈ ns, z ∈ kn) ∧ G D = some (.lst (ns.map V.str)) ∧ StA G a lw lc (t + kn.length + 2 * i) ∧ Kp [a, lw] H2 G) ⟨[], rfl, (fun _ h => by cases h), upd_same, S2.same sD, Kp.of sD⟩ (fun _ _ _ _ => trivial) ?_ ?_
    · rintro i x G G' hi ⟨ns, ln, hns, gD2, SG, KG⟩ ⟨rfl, rfl⟩
      have put : ∀ (z : Str) (G2 : Hp), z ∈ kn → G2 D = some (.lst (ns.map V.str)) → StA G2 a lw lc (t + kn.length + 2 * (i + 1)) → Kp [a, lw] H2 G2 → ∃ acc, G2 D = some (.lst acc) ∧ acc.length < sizeLine ∧ ∃ ms : List Str, ms.length = i + 1 ∧ (∀ z ∈ ms, z ∈ kn) ∧ (L2.upd G2 D (.lst (acc ++ [.str z]))) D = some (.lst (ms.map V.str)) ∧ StA (L2.upd G2 D (.lst (acc ++ [.str z]))) a lw lc (t + kn.length + 2 * (i + 1)) ∧ Kp [a, lw] H2 (L2.upd G2 D (.lst (acc ++ [.str z]))) := fun z G2 hz e S3 K3 => by
        refine ⟨_, e, by rw [List.length_map, ln]; exact Nat.lt_of_lt_of_le (show i < 5 by omega) (by decide), ns ++ [z], by rw [List.length_append, ln]; rfl, fun y hy => ?_, by rw [upd_same, List.map_append]; rfl, S3.put nDA nDc _, fun b o eb nb => ?_⟩
        · rcases List.mem_append.mp hy with hy | hy
          · exact hns y hy
          · rw [List.mem_singleton.mp hy]
            exact hz
        · rw [upd_ne (ne_of_none eb nD)]
          exact K3 b o eb nb
      have e0 : (0 : Int) + ((i : Nat) : Int) = ((i : Nat) : Int) := by omega
      have gL := KG _ _ hL2 nLA
      have gn := KG _ _ hn2 nn
      have pick : ∀ G2, StA G2 a lw lc (t + kn.length + 2 * i + 1) → Kp [a, lw] H2 G2 → G2 D = some (.lst (ns.map V.str)) → spPick K [.ref a, .ref n] G2 (fun y H4 => ∃ acc, H4 D = some (.lst acc) ∧ acc.length < sizeLine ∧ ∃ ms : List Str, ms.length = i + 1 ∧ (∀ z ∈ ms, z ∈ kn) ∧ (L2.upd H4 D (.lst (acc ++ [y]))) D = some (.lst (ms.map V.str)) ∧ StA (L2.upd H4 D (.lst (acc ++ [y]))) a lw lc (t + kn.length + 2 * (i + 1)) ∧ Kp [a, lw] H2 (L2.upd H4 D (.lst (acc ++ [y])))) E0 := fun G2 S3 K3 e => by
        refine ⟨a, lw, lc, _, n, _, rfl, S3, by omega, K3 _ _ hn2 nn, fun z => nn (by simp [z]), by rw [List.length_map]; exact l0, by rw [List.length_map]; omega, fun j x G3 hx S4 K4 => ?_⟩
        obtain ⟨z, hz, rfl⟩ := List.mem_map.mp (List.mem_of_getElem? hx)
        exact put z G3 hz (K4 _ _ e nDA) (S4.more (by omega)) (K3.trans K4)
      refine ⟨rfl, yes_if ?_⟩
      refine ⟨_, rfl, _, rfl, L, _, rfl, .inl (SqL.of gL), _, _, rfl, rfl, _, rfl, ?_⟩
      rw [e0]
      refine ite2 (fun c => ?_) fun c => ?_
      · have hlt : i < ms.length := by
          have := of_decide_eq_true c
          rw [List.length_map] at this
          omega
        refine ⟨_, rfl, a, lw, lc, _, _, rfl, SG, by omega, by decide, by decide, fun z G1 z0 z1 S3 K3 => ⟨_, _, rfl, rfl, _, rfl, ?_⟩⟩
        have gD3 := K3 _ _ gD2 nDA
        refine ite2 (fun _ => ?_) fun _ => ?_
        · have ej : (ms.map V.str)[i]? = some (.str (ms[i])) := by
            rw [List.getElem?_map, List.getElem?_eq_getElem hlt]
            rfl
          refine ⟨_, rfl, _, rfl, L, _, _, _, rfl, rfl, SqL.of (K3 _ _ gL nLA), by rw [e0]; exact at_nat ej, ?_⟩
          exact put _ G1 (hms _ (List.getElem_mem hlt)) gD3 (S3.more (by omega)) (KG.trans K3)
        · exact ⟨_, rfl, _, rfl, pick G1 S3 (KG.trans K3) gD3⟩
      · exact ⟨_, rfl, _, rfl, pick G' (SG.more (by omega)) KG gD2⟩
    · rintro G ⟨ns, ln, hns, gD2, SG, KG⟩
      have okns : ∀ z ∈ ns, NameOk z := fun z hz => okN z (hns z hz)
      have KA : Kp [a, lw] H G := (K1.trans (Kp.of s2)).trans KG
      have small : ∀ j : Nat, j ≤ 100 → j ≤ sizeLine := fun j h => Nat.le_trans h (by decide)
      refine ⟨_, rfl, (by show 1 ≤ sizeLine; decide), fun l1 n1 => ⟨_, rfl, ?_⟩⟩
      have s3 := same_upd (o := .lst [.str wd]) n1
      refine ⟨l1, D, [.str wd], _, rfl, rfl, upd_same, s3 _ _ gD2, small _ (by rw [List.length_map, ln]; show 1 + m ≤ 100; omega), fun l2 n2 => ?_⟩
      have s4 := same_upd (o := .lst ([V.str wd] ++ ns.map V.str)) n2
      have h2 := upd_same (H := L2.upd G l1 (.lst [.str wd])) (a := l2) (o := .lst ([V.str wd] ++ ns.map V.str))
      have sAB := s3.trans s4
      generalize L2.upd (L2.upd G l1 (.lst [.str wd])) l2 (.lst ([V.str wd] ++ ns.map V.str)) = G2 at s4 h2 sAB
      refine ⟨_, rfl, wd, rfl, fun G3 s5 => ⟨_, rfl, ?_⟩⟩
      rw [fk_way _ hm]
      have S5 := SG.same (sAB.trans s5)
      have K5 := KA.trans (Kp.of (sAB.trans s5) (xs := [a, lw]))
      have h25 := s5 _ _ h2
      by_cases hk : kk = 1
      · subst hk
        refine iteT ?_
        refine ⟨_, rfl, a, lw, lc, _, _, rfl, S5, by omega, by decide, by decide, fun z G4 z0 z1 S6 K6 => ⟨_, _, rfl, rfl, (by show 1 ≤ sizeLine; decide), fun l3 n3 => ?_⟩⟩
        have s6 := same_upd (o := .lst [V.int (1 + z)]) n3
        have o2 : l2 ∉ [a, lw] := ((SG.same s3).new n2).1
        have h26 := s6 _ _ (K6 _ _ h25 o2)
        refine ⟨l2, l3, _, [V.int (1 + z)], rfl, rfl, h26, upd_same, small _ (by rw [List.length_append, List.length_map, ln]; show (1 + m) + 1 ≤ 100; omega), fun l4 n4 => ?_⟩
        have s7 := same_upd (o := .lst ([V.str wd] ++ ns.map V.str ++ [V.int (1 + z)])) n4
        refine .inl ⟨l4, _, rfl, SqL.of upd_same, fun p np => ?_⟩
        have s8 := same_upd (o := .tup ([V.str wd] ++ ns.map V.str ++ [V.int (1 + z)])) np
        have sF := (s6.trans s7).trans s8
        have KF := (K5.trans K6).trans (Kp.of sF (xs := [a, lw]))
        have SF := S6.same sF
        refine k p ⟨wd, ns, [1 + z]⟩ _ rfl ⟨m, 1, hm, ln, okns, rfl, fun y hy => ?_⟩ hns (SF.more (by omega)) KF ?_ ?_
        · rw [List.mem_singleton.mp hy]
          omega
        · exact S6.back ((K5.trans K6)) ((s6.trans s7).free np)
        · rw [upd_same]
          unfold Deed.vs
          simp
      · have e0 : (kk == 1) = false := by simpa using hk
        rw [e0]
        refine iteF ?_
        refine ⟨(by show 0 ≤ sizeLine; decide), fun l3 n3 => ?_⟩
        have s6 := same_upd (o := .lst []) n3
        refine ⟨l2, l3, _, [], rfl, rfl, s6 _ _ h25, upd_same, small _ (by rw [List.length_append, List.length_map, ln]; show (1 + m) + 0 ≤ 100; omega), fun l4 n4 => ?_⟩
        have s7 := same_upd (o := .lst ([V.str wd] ++ ns.map V.str ++ [])) n4
        refine .inl ⟨l4, _, rfl, SqL.of upd_same, fun p np => ?_⟩
        have s8 := same_upd (o := .tup ([V.str wd] ++ ns.map V.str ++ [])) np
        have sF := (s6.trans s7).trans s8
        have k0 : kk = 0 := by omega
        subst k0
        refine k p ⟨wd, ns, []⟩ _ rfl ⟨m, 0, hm, ln, okns, rfl, fun y hy => by cases hy⟩ hns ((S5.same sF).more (by omega)) (K5.trans (Kp.of sF)) (S5.back K5 ((s6.trans s7).free np)) ?_
        rw [upd_same]
        unfold Deed.vs
        simp
end
end Own
set_option Elab.async false
set_option linter.all false
set_option maxRecDepth 100000
set_option maxHeartbeats 4000000
namespace Own
open PySem PySem.Spec PyProof.Rows L2
/-! ### rules for code that runs when a token is out -/
/-- a def's promise, kept where a token is out at its call -/
structure FnOkT (P : Program) (w : World) (K : PySem.W.Frag) (mg : Str → Option Value) (base : Heap) (CX : CXT) (k : Nat) (f : Addr) (fd : FuncData) (ps : List Str) (sp : Sp) : Prop where
  len : ∀ vs H Q E, sp vs H Q E → vs.length = ps.length
  run : ∀ (A : Around) (outer : List Env) (s : Shared) (H : Hp) (args : Args) (us : List Value) (vs : List V) (Q : VK) (E : XK), 1 ≤ s.toks → Room k A → Env0 P w K mg base A outer s H → BindsTo s fd args (ps.zip us) → Vals vs us → sp vs H Q E →
    codeAny (model P w) A (.call (.ref f) args) (CR CX outer P w H s Q E) s
/-- the step into the body -/
theorem run_bodyT {CX : CXT} {P : Program} {w : World} {K : PySem.W.Frag} {mg : Str → Option Value} {base : Heap} {k : Nat} {f : Addr} {qual : Str} {body : List Stmt} {scope : Scope} {cdv : Value} {N ps : List Str} (S : FnScope N ps scope)
    {A : Around} {outer : List Env} {s s1 : Shared} {H : Hp} {us : List Value} {vs : List V} {Q : VK} {E : XK} (hr : Room (k + 1) A) (e0 : Env0 P w K mg base A outer s H) (hl : vs.length = ps.length) (r : Vals vs us)
    (x : InCallC s (envOfC qual scope s.heap.objs.size f cdv).locals (bindL (envOfC qual scope s.heap.objs.size f cdv).kindOf (ps.zip us) fun _ => none) (envOfC qual scope s.heap.objs.size f cdv).cells (bindC (envOfC qual scope s.heap.objs.size f cdv).kindOf (ps.zip us) fun _ => none) s1)
    (ht : 1 ≤ s1.toks) (hb : ∃ t, PSsT (cxOf CX P w K mg base N qual scope f cdv A outer s H E) body t ∧ t { nx := fun _ H' => Q .non H', rt := Q } (start N vs) H) :
    codeAny (model P w) A (.func body (envOfC qual scope s.heap.objs.size f cdv)) (CR CX outer P w H s Q E) s1 := by
  obtain ⟨t, hbt, hq⟩ := hb
  have J0 : Inv (cxOf CX P w K mg base N qual scope f cdv A outer s H E) [] (start N vs) H s1 := inv_start S hr.hd e0 hl r x
  refine codeAny_func (wpAny_mono (hbt [] s1 (start N vs) H _ ht J0 hq) (fun fl s2 h2 => ?_) fun _ _ z => z)
  cases fl with
  | ret u => obtain ⟨v, σ2, H2, J, rv, q⟩ := h2; exact ⟨v, H2, J.os, J.bare, J.base, J.hok, rv, q⟩
  | next => obtain ⟨σ2, H2, J, q⟩ := h2; exact ⟨.non, H2, J.os, J.bare, J.base, J.hok, rfl, q⟩
  | brk => obtain ⟨_, _, _, q⟩ := h2; exact False.elim q
  | cont => obtain ⟨_, _, _, q⟩ := h2; exact False.elim q
theorem kinds_of {N ps : List Str} {scope : Scope} (S : FnScope N ps scope) (n : Nat) (us : List Value) : ∀ y ∈ ps.zip us, scope.names.lookup y.1 = some .local ∨ (scope.names.lookup y.1 = some .cell ∧ ((cellsFrom n scope.names []).lookup y.1).isSome = true) := fun y hy => by
  cases S.par y.1 (List.of_mem_zip (a := y.1) (b := y.2) hy).1 with
  | inl q => exact .inl q
  | inr q => exact .inr ⟨q, PySem.W.cellsFrom_some _ _ _ (.inl q)⟩
/-- a def that wants a token at its call -/
theorem FunD.okT {CX : CXT} {P : Program} {w : World} {K : PySem.W.Frag} {mg : Str → Option Value} {base : Heap} {x qual : Str} {params : Arguments} {body : List Stmt} {scope : Scope} {dvs : List V} {kws : List (Str × V)} {f : Addr} {fd : FuncData} {N ps : List Str} {k : Nat} {sp : Sp}
    (F : FunD K x qual params body scope dvs kws f fd) (S : FnScope N ps scope) (len : ∀ vs H Q E, sp vs H Q E → vs.length = ps.length)
    (hbody : ∀ (cdv : Value) (A : Around) (outer : List Env) (s : Shared) (H : Hp) (vs : List V) (Q : VK) (E : XK), (∃ (oc : Value) (od : Option Addr) (dV kV doc pm : Value) (an : Option Addr) (ct : Value) (osl : Array (Option Value)), K.lookup f = some ⟨oc, od, .func (PySem.W.fnOf x qual params body scope dV kV doc pm an cdv ct), osl⟩) → PySem.W.codeIn K cdv qual = true → Room k (A.deeper (envOfC qual scope s.heap.objs.size f cdv)) → sp vs H Q E →
      ∃ t, PSsT (cxOf CX P w K mg base N qual scope f cdv A outer s H E) body t ∧ t { nx := fun _ H' => Q .non H', rt := Q } (start N vs) H) : FnOkT P w K mg base CX (k + 1) f fd ps sp := by
  obtain ⟨oc, od, dV, kV, doc, pm, an, cdv, ct, osl, rfl, lk, hcd, _, _⟩ := F.ex
  refine ⟨len, fun A outer s H args us vs Q E ht hr e0 hb r hsp => ?_⟩
  have inH : K.In s.heap := e0.mod.kin.keeps fun b o e => (e0.bs b o e).1
  have nl : s.heap.NoLimit := e0.mod.nolimit.keeps fun b o e => (e0.bs b o e).1
  refine codeAny_call_function hr.depth (inH _ _ lk) rfl S.co S.gen rfl (PySem.W.codeRec_of inH hcd) (hb _ _ _ _ ?_)
  refine wpAny_mono (PySem.wpAny_toks (wpAny_newFunctionEnv_cells (Q := fun env s1 => env = envOfC qual scope s.heap.objs.size f cdv ∧ InCallC s (envOfC qual scope s.heap.objs.size f cdv).locals (bindL (envOfC qual scope s.heap.objs.size f cdv).kindOf (ps.zip us) fun _ => none) (envOfC qual scope s.heap.objs.size f cdv).cells (bindC (envOfC qual scope s.heap.objs.size f cdv).kindOf (ps.zip us) fun _ => none) s1) S.kind (kinds_of S _ _) fun env he s1 xx => ?_)) (fun env s1 h1 => ?_) fun _ _ z => z.2
  · subst he
    exact ⟨rfl, xx⟩
  · obtain ⟨hk, rfl, xx⟩ := h1
    exact ⟨nl.keeps xx.toInCall.keep, run_bodyT S hr e0 (len _ _ _ _ hsp) r xx (Nat.le_trans ht hk) (hbody _ _ _ _ _ _ _ _ ⟨_, _, _, _, _, _, _, _, _, lk⟩ hcd (hr.deeper _) hsp)⟩
/-- the parameters bound, the first one a plain local name: a token is out -/
theorem bind_tok {M : Model} {A : Around} {E : Value → Shared → Prop} {env : Env} {s0 : Shared} (g : Str × Value → PUnit → Sem (ForInStep PUnit)) (hg : ∀ n v u, g (n, v) u = (do storeName env n v; pure (.yield ⟨⟩))) (hk : env.scope.kind = .function)
    {n : Str} {v : Value} {r : List (Str × Value)} {s : Shared} {Q : PUnit → Shared → Prop} (x : InCallC s0 env.locals (fun _ => none) env.cells (fun _ => none) s) (hn : env.kindOf n = some .local)
    (hr : ∀ y ∈ r, env.kindOf y.1 = some .local ∨ (env.kindOf y.1 = some .cell ∧ (env.cells.lookup y.1).isSome = true))
    (h : ∀ s', 1 ≤ s'.toks → InCallC s0 env.locals (bindL env.kindOf ((n, v) :: r) fun _ => none) env.cells (bindC env.kindOf ((n, v) :: r) fun _ => none) s' → Q ⟨⟩ s') : wpAny M A (forIn ((n, v) :: r) ⟨⟩ g) Q E s := by
  rw [List.forIn_cons, hg]
  refine wpAny_bind (wpAny_bind (wpAny_storeName_local hn x.toInCall.ns (fun h1 hn1 sb => wpAny_pure ?_) (by rw [hk]; rfl)))
  have x1 : InCallC s0 env.locals (fun y => if y = n then some v else none) env.cells (fun _ => none) ({ s with heap := h1, toks := s.toks + 1 } : Shared) := by
    refine ⟨⟨?_, hn1, fun b o e => ?_, x.toInCall.fresh⟩, fun m c hc => ?_, x.apart, x.above⟩
    · obtain ⟨hh, tk, rfl⟩ := x.toInCall.same
      exact ⟨h1, _, rfl⟩
    · exact sb.extBut b o (Nat.ne_of_lt (Nat.lt_of_lt_of_le (Heap.lt_size e) x.toInCall.fresh)) (x.toInCall.keep b o e)
    · exact (x.cell m c hc).sameBut sb (Nat.ne_of_gt (x.above m c (mem_of_lookup hc)))
  refine wpAny_mono (PySem.wpAny_toks_of (n := 1) (show 1 ≤ s.toks + 1 by omega) (wpAny_bindParams (Q := fun _ s' => InCallC s0 env.locals (bindL env.kindOf ((n, v) :: r) fun _ => none) env.cells (bindC env.kindOf ((n, v) :: r) fun _ => none) s') g hg hk r _ _ _ x1 hr fun s' x2 => ?_)) (fun u s' q => h s' q.1 q.2) fun _ _ z => z.2
  unfold bindL bindC
  rw [if_pos hn, if_pos hn]
  exact x2
theorem newEnv_tok {M : Model} {A : Around} {E : Value → Shared → Prop} {s : Shared} {scope : Scope} {globals : Addr} {n : Str} {v : Value} {r : List (Str × Value)} {qual : Str} {func : Option Addr} {code : Value} {builtins : Addr} {Q : Env → Shared → Prop}
    (hk : scope.kind = .function) (h1 : scope.names.lookup n = some .local)
    (hkind : ∀ x ∈ r, scope.names.lookup x.1 = some .local ∨ (scope.names.lookup x.1 = some .cell ∧ ((cellsFrom (s.heap.objs.size + 1) scope.names []).lookup x.1).isSome = true))
    (hQ : ∀ env, env = newEnv scope s.heap.objs.size globals (cellsFrom (s.heap.objs.size + 1) scope.names []) qual func code none builtins →
      ∀ s', 1 ≤ s'.toks → InCallC s env.locals (bindL env.kindOf ((n, v) :: r) fun _ => none) env.cells (bindC env.kindOf ((n, v) :: r) fun _ => none) s' → Q env s') :
    wpAny M A (newFunctionEnv scope globals [] ((n, v) :: r) qual func code none builtins) Q E s := by
  simp only [newFunctionEnv, Option.isSome_none, Bool.false_eq_true, if_false]
  refine wpAny_bind (wpAny_alloc (wpAny_bind (wpAny_layCells _ (fun name kind cells => by cases e : kind == NameKind.cell <;> simp [e]) _ _ _ _ ?_)))
  have lay := cellsFrom_ok scope.names (s.heap.push { cls := .type "frame", data := .dict #[] }) (s.heap.objs.size + 1) [] ⟨fun _ _ hm => (nomatch hm), List.Pairwise.nil⟩ (by rw [Heap.size_push]; exact Nat.le_refl _)
  rw [Heap.size_push] at lay
  have ez : ({ s with heap := s.heap.push { cls := .type "frame", data := .dict #[] } } : Shared).heap.objs.size = s.heap.objs.size + 1 := Heap.size_push ..
  rw [ez]
  refine wpAny_bind (bind_tok (s0 := s) (env := newEnv scope s.heap.objs.size globals (cellsFrom (s.heap.objs.size + 1) scope.names []) qual func code none builtins) _ (fun _ _ _ => rfl) hk ?_ h1 hkind fun s' ht x => wpAny_pure (hQ _ rfl s' ht x))
  exact ⟨⟨⟨_, _, rfl⟩, (Heap.Ns.new s.heap (.type "frame")).keeps (pushCells_keeps _ _), fun b o e => pushCells_keeps _ _ b o (Heap.get?_push_of_some _ e), Nat.le_refl _⟩, fun m c hc => (lay.empty m c (mem_of_lookup hc)).1, lay.apart, fun m c hm => (lay.empty m c hm).2⟩
/-- a def whose first parameter is a plain local name: a token is out in its body -/
theorem FunD.okL {CX : CXT} {P : Program} {w : World} {K : PySem.W.Frag} {mg : Str → Option Value} {base : Heap} {x qual p : Str} {params : Arguments} {body : List Stmt} {scope : Scope} {dvs : List V} {kws : List (Str × V)} {f : Addr} {fd : FuncData} {N ps : List Str} {k : Nat} {sp : Sp}
    (F : FunD K x qual params body scope dvs kws f fd) (S : FnScope N (p :: ps) scope) (hp : scope.names.lookup p = some .local) (len : ∀ vs H Q E, sp vs H Q E → vs.length = (p :: ps).length)
    (hbody : ∀ (cdv : Value) (A : Around) (outer : List Env) (s : Shared) (H : Hp) (vs : List V) (Q : VK) (E : XK), (∃ (oc : Value) (od : Option Addr) (dV kV doc pm : Value) (an : Option Addr) (ct : Value) (osl : Array (Option Value)), K.lookup f = some ⟨oc, od, .func (PySem.W.fnOf x qual params body scope dV kV doc pm an cdv ct), osl⟩) → PySem.W.codeIn K cdv qual = true → Room k (A.deeper (envOfC qual scope s.heap.objs.size f cdv)) → sp vs H Q E →
      ∃ t, PSsT (cxOf CX P w K mg base N qual scope f cdv A outer s H E) body t ∧ t { nx := fun _ H' => Q .non H', rt := Q } (start N vs) H) : FnOk P w K mg base CX (k + 1) f fd (p :: ps) sp := by
  obtain ⟨oc, od, dV, kV, doc, pm, an, cdv, ct, osl, rfl, lk, hcd, _, _⟩ := F.ex
  refine ⟨len, fun A outer s H args us vs Q E hr e0 hb r hsp => ?_⟩
  have inH : K.In s.heap := e0.mod.kin.keeps fun b o e => (e0.bs b o e).1
  have nl : s.heap.NoLimit := e0.mod.nolimit.keeps fun b o e => (e0.bs b o e).1
  refine codeAny_call_function hr.depth (inH _ _ lk) rfl S.co S.gen rfl (PySem.W.codeRec_of inH hcd) (hb _ _ _ _ ?_)
  have hl := len _ _ _ _ hsp
  cases us with
  | nil =>
    rw [r.length] at hl
    cases hl
  | cons u us =>
    refine newEnv_tok (n := p) (v := u) (r := ps.zip us) S.kind hp (fun y hy => kinds_of S _ (u :: us) y (List.mem_cons_of_mem _ hy)) fun env he s1 ht xx => ?_
    subst he
    exact ⟨nl.keeps xx.toInCall.keep, run_bodyT S hr e0 hl r xx ht (hbody _ _ _ _ _ _ _ _ ⟨_, _, _, _, _, _, _, _, _, lk⟩ hcd (hr.deeper _) hsp)⟩
/-! ### tests and statements, a token out -/
def PTT (X : Cx) (e : Expr) (t : TT) : Prop :=
  ∀ (pins : List (Addr × Obj)) (s : Shared) (σ : L2.St) (H : Hp) (Q : Bool → Hp → Prop), 1 ≤ s.toks → Inv X pins σ H s → t σ H Q → wpAny (model X.prog X.w) X.A (isTrue e X.env (eval e X.env)) (TP X pins σ Q) X.xe s
def PWT (X : Cx) (e : Expr) (t : TT) : Prop :=
  ∀ (whole : Sem Value) (pins : List (Addr × Obj)) (s : Shared) (σ : L2.St) (H : Hp) (Q : Bool → Hp → Prop), 1 ≤ s.toks → Inv X pins σ H s → t σ H Q → wpAny (model X.prog X.w) X.A (isTrue e X.env whole) (TP X pins σ Q) X.xe s
/-- the state grows its tokens -/
theorem thnT {α : Type} {t : Sem α} {Q Q' : α → Shared → Prop} {M : Model} {A : Around} {E : Value → Shared → Prop} {s : Shared} (h0 : 1 ≤ s.toks) (h : wpAny M A t Q E s) (hQ : ∀ a s', 1 ≤ s'.toks → Q a s' → Q' a s') : wpAny M A t Q' E s :=
  wpAny_mono (PySem.wpAny_toks_of h0 h) (fun a s' q => hQ a s' q.1 q.2) fun _ _ z => z.2
section
variable {X : Cx} {a b e : Expr} {rest : List Expr} {te : TE} {tA tB2 : TT} {t u : TS} {pos p : Pos}
theorem PTT.of (h : PT X e tA) : PTT X e tA := fun pins s σ H Q _ I q => h.run pins s σ H Q I q
theorem PWT.ptt (h : PWT X e tA) : PTT X e tA := h _
theorem ptt_val (h : PET X e te) (he : ∀ whole, isTrue e X.env whole = (do let v ← whole; standAt e.pos; holding [v] (truthy v)) := by intro _; rfl) : PTT X e (tB te) := by
  intro pins s σ H Q h0 I hw
  refine isTrue_plain (thn (h pins s σ H _ h0 I hw) fun v s1 q => ?_) (he _)
  obtain ⟨y, H1, I1, r1, d, rfl, q⟩ := q
  cases r1
  exact wpAny_truthy_bool ⟨H1, I1, q⟩
theorem ptt_not (ha : PTT X a tA) : PTT X (.UnaryOp .Not a pos) (tNot tA) := fun pins s σ H Q h0 I h => isTrue_not (ha pins s σ H (fun c H1 => Q (!c) H1) h0 I h)
theorem pwt_or1 (ha : PTT X a tA) : PWT X (.BoolOp .Or [a] pos) tA := by
  intro wh pins s σ H Q h0 I h
  refine isTrue_or (thn (ha pins s σ H Q h0 I h) fun c s1 q => ?_)
  cases c with
  | false => exact isTrue_or_nil q
  | true => exact q
theorem pwt_or (ha : PTT X a tA) (hb : PWT X (.BoolOp .Or (b :: rest) pos) tB2) : PWT X (.BoolOp .Or (a :: b :: rest) pos) (tOr tA tB2) := by
  intro wh pins s σ H Q h0 I h
  refine isTrue_or (thnT h0 (ha pins s σ H _ h0 I h) fun c s1 h1 q => ?_)
  obtain ⟨H1, I1, q1⟩ := q
  cases c with
  | true => exact ⟨H1, I1, q1⟩
  | false => exact hb wh pins s1 σ H1 Q h1 I1 q1
theorem pst_ifT {c : Expr} {sa sb : List Stmt} {tc : TT} (hc : PTT X c tc) (ha : PSsT X sa t) (hb : PSsT X sb u) : PST X (.If c sa sb pos) (tIfS tc t u) := by
  intro pins s σ H D h0 I h
  refine wpAny_If (thnT h0 (hc pins s σ H _ h0 I h) fun d s1 h1 q => ?_)
  obtain ⟨H1, I1, q1⟩ := q
  cases d with
  | true => exact ha pins s1 σ H1 D h1 I1 q1
  | false => exact hb pins s1 σ H1 D h1 I1 q1
theorem psstT_nil : PSsT X [] tNext := PSsT.of pss_nil
theorem psstT_one {st : Stmt} (h : PST X st t) : PSsT X [st] t := psst_cons h psstT_nil
/-- f(e, ..), f wanting a token -/
theorem pet_callT {CX : CXT} {k : Nat} {f : Addr} {fd : FuncData} {ps : List Str} {sp : Sp} {dvs : List V} {ds : List Value} {E : XK} {x : Str} {es : List Expr} {ta : TA} (F : FnOkT X.prog X.w X.K X.mg X.base CX k f fd ps sp) (hr : Room k X.A) (hg : Gl X x) (hm : X.mg x = some (.ref f))
    (hk : PySem.W.keepIn X.K (.ref f) = true) (hb : Binds X.K fd ps ds) (hd : Vals dvs ds) (hx : Passes CX X E) (ha : PA X (e :: es) ta) (hdb : (x == ("__debug__" : Str)) = false := by decide)
    (he : starEach (e :: es) X.env = (false, eval e X.env) :: starEach es X.env := by rfl) (hpl : (backTo pos (starEach es X.env)).any (·.1) = false := by rfl) : PET X (.Call (.Name x p) (e :: es) [] pos) (tCall sp dvs E ta) := by
  intro pins s σ H Q h0 I h
  refine wpAny_Call_Name_kw (ld_glob I hg hm ?_ hdb)
  refine PySem.W.callWith_K (h₀ := X.base) I.ok.mod.kin hk (thnT h0 (ha.run pos pins s σ H _ I h) fun us s1 h1 ⟨vs, H1, I1, r, q⟩ => ⟨I1.kIn, ?_⟩) he hpl
  have r2 : Vals (vs ++ dvs) (us ++ ds) := r.append hd
  have hl : (us ++ ds).length = ps.length := r2.length ▸ F.len _ _ _ _ q
  refine wpAny_call (codeAny_mono (F.run X.A X.stack s1 H1 ⟨us, []⟩ (us ++ ds) (vs ++ dvs) Q E h1 hr I1.env0 (hb s1 us I1.kIn hl) r2 q) fun res s2 hq => ?_)
  cases res with
  | error er => exact hx pins σ H1 s1 er s2 I1 hq
  | ok fl =>
    cases fl with
    | ret v => exact I1.after hq
    | next => exact False.elim hq
    | brk => exact False.elim hq
    | cont => exact False.elim hq
/-- for, its body wanting a token -/
theorem pst_forT {tg iter : Expr} {body : List Stmt} {wi : TI} {g : TG} {tb : TS} (hp : PassesOwn (model X.prog X.w) X.A X.env X.xe) (hc : X.calm = true) (hi : PI X tg iter wi) (hg : PG X tg g) (hb : PSsT X body tb)
    (hs : ∀ x, foldedSetIterable iter X.env x = pure x := by intro _; rfl) : PST X (.For tg iter body [] pos) (tFor wi g tb) := by
  intro pins s σ H D h0 I h
  refine wpAny_For (thnT h0 (hi.run pins s σ H _ I h) fun v sa ha h1 => thnT ha h1 fun itv sb hb2 h2 => ?_) hs
  obtain ⟨it, fp, tn, Jf, Hb, e, Ib, T, stb, fb, W, ⟨n0, wn0⟩, turn⟩ := h2
  subst e
  have fix : ∀ {G : Hp}, (∀ c ∈ fp, G c = none) → ∀ c ∈ fp, FpOk X pins G c := fun hn c hcm => ⟨hn c hcm, (fb c hcm).2⟩
  refine codeAny_forLoop_any (fun n s' => 1 ≤ s'.toks ∧ ∃ i τ G, Inv X pins τ G s' ∧ tn i s'.heap ∧ (∀ c ∈ fp, G c = none) ∧ W i n τ G) ?_ n0 ⟨hb2, 0, σ, Hb, Ib, stb, fun c hcm => (fb c hcm).1, wn0⟩
  rintro n sc ⟨hto, i, τ, G, Ic, stc, frc, wc⟩
  rcases turn i n τ G wc with ⟨stop, qn⟩ | ⟨go, N, hN, step⟩
  · refine wpAny_passesOwn hp (thn (T.done X rfl rfl rfl hc i pins sc τ G X.xe Ic (fix frc) stc stop) fun r sd hd => ?_)
    obtain ⟨rfl, Id⟩ := hd
    exact wpAny_execs_nil ⟨τ, G, Id, qn⟩
  · refine wpAny_passesOwn hp (thnT hto (T.item X rfl rfl rfl hc i pins sc τ G X.xe Ic (fix frc) stc go) fun r sd td hd => ?_)
    obtain ⟨w, rfl, hd⟩ := hd
    refine wpAny_passesOwn hp (thnT td hd fun _ se te he => ?_)
    obtain ⟨y, Ge, Ie, re, ye, ste, fre⟩ := he
    have Ip := Ie.pinned (fix fre) (T.obj _ _ ste)
    refine wpAny_passesOwn hp (thnT te (hg.run _ se τ Ge y w _ Ip re (step y Ge ye)) fun _ sf tf hf => ?_)
    obtain ⟨τf, Gf, If, qf⟩ := hf
    refine wpAny_passesOwn hp (thnT tf (hb _ sf τf Gf _ tf If qf) fun fl sg tg2 qg => ?_)
    have back : ∀ {τg : L2.St} {Gg : Hp}, Inv X (pins ++ pinsAt fp se.heap) τg Gg sg → N τg Gg → ∃ m, m < n ∧ (1 ≤ sg.toks ∧ ∃ i τ' G', Inv X pins τ' G' sg ∧ tn i sg.heap ∧ (∀ c ∈ fp, G' c = none) ∧ W i m τ' G') := fun {τg Gg} Ig ng => by
      obtain ⟨m, hm, wm⟩ := hN τg Gg ng
      have pinned : ∀ c ∈ fp, ∀ o, se.heap.get? c = some o → sg.heap.get? c = some o ∧ Gg c = none := fun c hcm o eo => by
        have z := Ig.pin (c, o) (List.mem_append_right _ (List.mem_append_right _ (mem_pinsAt hcm eo)))
        exact ⟨z.1, z.2.1⟩
      refine ⟨m, hm, tg2, i + 1, τg, Gg, Ig.unpinned, T.keep _ _ _ ste fun c hcm o eo => (pinned c hcm o eo).1, fun c hcm => ?_, wm⟩
      obtain ⟨o, eo, _⟩ := T.obj _ _ ste c hcm
      exact (pinned c hcm o eo).2
    cases fl with
    | next =>
      obtain ⟨τg, Gg, Ig, ng⟩ := qg
      exact back Ig ng
    | cont =>
      obtain ⟨τg, Gg, Ig, ng⟩ := qg
      exact back Ig ng
    | brk =>
      obtain ⟨τg, Gg, Ig, qz⟩ := qg
      exact ⟨τg, Gg, Ig.unpinned, qz⟩
    | ret v =>
      obtain ⟨xv, τg, Gg, Ig, rv, qz⟩ := qg
      exact ⟨xv, τg, Gg, Ig.unpinned, rv, qz⟩
end
end Own
set_option Elab.async false
set_option linter.all false
set_option maxRecDepth 100000
set_option maxHeartbeats 400000
namespace Own
open PySem PySem.Spec PyProof.Rows L2 LamX
/-! ### a law that asks for the repr of lists: nothing is being written at its call -/
/-- a def's promise, kept where no repr is under way at its call -/
structure FnOkG (P : Program) (w : World) (K : PySem.W.Frag) (mg : Str → Option Value) (base : Heap) (CX : CXT) (k : Nat) (f : Addr) (fd : FuncData) (ps : List Str) (sp : Sp) : Prop where
  len : ∀ vs H Q E, sp vs H Q E → vs.length = ps.length
  run : ∀ (A : Around) (outer : List Env) (s : Shared) (H : Hp) (args : Args) (us : List Value) (vs : List V) (Q : VK) (E : XK), A.guards = some [] → Room k A → Env0 P w K mg base A outer s H → BindsTo s fd args (ps.zip us) → Vals vs us → sp vs H Q E →
    codeAny (model P w) A (.call (.ref f) args) (CR CX outer P w H s Q E) s
theorem FunD.okG {CX : CXT} {P : Program} {w : World} {K : PySem.W.Frag} {mg : Str → Option Value} {base : Heap} {x qual p : Str} {params : Arguments} {body : List Stmt} {scope : Scope} {dvs : List V} {kws : List (Str × V)} {f : Addr} {fd : FuncData} {N ps : List Str} {k : Nat} {sp : Sp}
    (F : FunD K x qual params body scope dvs kws f fd) (S : FnScope N (p :: ps) scope) (hp : scope.names.lookup p = some .local) (len : ∀ vs H Q E, sp vs H Q E → vs.length = (p :: ps).length)
    (hbody : ∀ (cdv : Value) (A : Around) (outer : List Env) (s : Shared) (H : Hp) (vs : List V) (Q : VK) (E : XK), (∃ (oc : Value) (od : Option Addr) (dV kV doc pm : Value) (an : Option Addr) (ct : Value) (osl : Array (Option Value)), K.lookup f = some ⟨oc, od, .func (PySem.W.fnOf x qual params body scope dV kV doc pm an cdv ct), osl⟩) → PySem.W.codeIn K cdv qual = true → (A.deeper (envOfC qual scope s.heap.objs.size f cdv)).guards = some [] →
      Room k (A.deeper (envOfC qual scope s.heap.objs.size f cdv)) → sp vs H Q E → ∃ t, PSsT (cxOf CX P w K mg base N qual scope f cdv A outer s H E) body t ∧ t { nx := fun _ H' => Q .non H', rt := Q } (start N vs) H) : FnOkG P w K mg base CX (k + 1) f fd (p :: ps) sp := by
  obtain ⟨oc, od, dV, kV, doc, pm, an, cdv, ct, osl, rfl, lk, hcd, _, _⟩ := F.ex
  refine ⟨len, fun A outer s H args us vs Q E hg hr e0 hb r hsp => ?_⟩
  have inH : K.In s.heap := e0.mod.kin.keeps fun b o e => (e0.bs b o e).1
  have hl := len _ _ _ _ hsp
  refine codeAny_call_function hr.depth (inH _ _ lk) rfl S.co S.gen rfl (PySem.W.codeRec_of inH hcd) (hb _ _ _ _ ?_)
  match us, r.length with
  | [], z => rw [z] at hl; cases hl
  | u :: us, _ =>
    refine newEnv_tok (n := p) (v := u) (r := ps.zip us) S.kind hp (fun y hy => kinds_of S _ (u :: us) y (List.mem_cons_of_mem _ hy)) fun env he s1 ht xx => ?_
    subst he
    exact ⟨(e0.mod.nolimit.keeps fun b o e => (e0.bs b o e).1).keeps xx.toInCall.keep, run_bodyT S hr e0 hl r xx ht (hbody _ _ _ _ _ _ _ _ ⟨_, _, _, _, _, _, _, _, _, lk⟩ hcd hg (hr.deeper _) hsp)⟩
/-! ### the end -/
section
variable {P : Program} {w : World} {K : PySem.W.Frag} {mg mb : Str → Option Value} {a : Addr} {T : List Addr} {h : Heap} {vs : List Value} {ns : List Int}
/-- the abstract heap at the law's call: the tables, and the script where it is not written -/
def H0 (K : PySem.W.Frag) (T : List Addr) (a : Addr) (vs : List Value) (ns : List Int) : Hp := fun b =>
  if b ∈ T then some (.tbl #[]) else if b = a ∧ K.lookup b = none then some (.frz { cls := .type "list", data := .seq vs.toArray } (.lst (ns.map V.int))) else none
theorem H0_tab {b : Addr} (hb : b ∈ T) : H0 K T a vs ns b = some (.tbl #[]) := if_pos hb
theorem H0_cases (b : Addr) : (b ∈ T ∧ H0 K T a vs ns b = some (.tbl #[])) ∨ (b ∉ T ∧ b = a ∧ K.lookup b = none ∧ H0 K T a vs ns b = some (.frz { cls := .type "list", data := .seq vs.toArray } (.lst (ns.map V.int)))) ∨ (b ∉ T ∧ ¬ (b = a ∧ K.lookup b = none) ∧ H0 K T a vs ns b = none) := by
  by_cases m : b ∈ T
  · exact .inl ⟨m, if_pos m⟩
  · by_cases e : b = a ∧ K.lookup b = none
    · exact .inr (.inl ⟨m, e.1, e.2, (if_neg m).trans (if_pos e)⟩)
    · exact .inr (.inr ⟨m, e, (if_neg m).trans (if_neg e)⟩)
/-- what is neither a plain list nor an empty record is not tracked -/
theorem H0_off {b : Addr} {o : Obj} (tab : ∀ b ∈ T, h.get? b = some { cls := .none, data := .fields #[] }) (ha : h.get? a = some { cls := .type "list", data := .seq vs.toArray }) (e : h.get? b = some o) (n1 : ∀ vs n, o.data ≠ .seq vs n) (n2 : o.data ≠ .fields #[]) : H0 K T a vs ns b = none := by
  rcases H0_cases (K := K) (T := T) (a := a) (vs := vs) (ns := ns) b with ⟨m, _⟩ | ⟨_, rfl, _, _⟩ | ⟨_, _, q⟩
  · have := e.symm.trans (tab b m)
    cases this
    exact absurd rfl n2
  · have := e.symm.trans ha
    cases this
    exact absurd rfl (n1 _ _)
  · exact q
theorem H0_ok (tab : ∀ b ∈ T, h.get? b = some { cls := .none, data := .fields #[] }) (ha : h.get? a = some { cls := .type "list", data := .seq vs.toArray }) (hi : IntsAre vs ns) (hl : ns.length ≤ sizeLine) : HOk P w (H0 K T a vs ns) h := by
  intro b u z
  rcases H0_cases (K := K) (T := T) (a := a) (vs := vs) (ns := ns) b with ⟨m, q⟩ | ⟨_, rfl, _, q⟩ | ⟨_, _, q⟩
  · cases q.symm.trans z
    exact tab b m
  · cases q.symm.trans z
    exact ⟨ha, by rw [List.length_map]; exact hl, vs, _, vals_ints hi, ha⟩
  · cases q.symm.trans z
theorem H0_list (nT : ∀ b ∈ T, h.get? b = some { cls := .none, data := .fields #[] }) (KX : K.In h) (ha : h.get? a = some { cls := .type "list", data := .seq vs.toArray }) (hi : IntsAre vs ns) (hl : ns.length ≤ sizeLine) : SqL K (H0 K T a vs ns) a (ns.map V.int) := by
  cases hk : K.lookup a with
  | some o =>
    cases (KX a o hk).symm.trans ha
    exact .inr ⟨_, vs.toArray, _, hk, rfl, rfl, rfl, by rw [List.size_toArray, hi.length]; exact hl, by simpa using vals_ints hi⟩
  | none =>
    have m : a ∉ T := fun m => by
      have := ha.symm.trans (nT a m)
      cases this
    exact .inl (.inr ⟨_, (if_neg m).trans (if_pos ⟨rfl, hk⟩)⟩)
end
section
variable {P : Program} {w : World} {K : PySem.W.Frag} {mg mb : Str → Option Value} {CX : CXT} {k : Nat} {fa a : Addr} {cs : List (Addr × Addr)} {fd : FuncData} {x : Str} {sp : Sp} {s₁ : Shared} {vs : List Value} {ns : List Int}
theorem law_callG (KX : K.In s₁.heap) (hns : s₁.heap.Ns mainGlobals mg) (hb : s₁.heap.Ns builtinsNs mb) (hbb : ∀ x : Str, x ≠ "__name__" → mb x = bootBuiltins x) (hlim : s₁.heap.NoLimit) (hg : s₁.gens = #[])
    (hT : ∀ p ∈ cs, s₁.heap.get? p.2 = some { cls := .none, data := .fields #[] }) (nT : ∀ p ∈ cs, K.lookup p.2 = none) (C : ∀ p ∈ cs, PySem.W.CodeHd s₁.heap p.1 p.2)
    (hbm : ∃ (bm : Addr) (ob : Obj), mg "__builtins__" = some (.ref bm) ∧ bm ≠ builtinsNs ∧ s₁.heap.get? bm = some ob ∧ ob.cls = .type "module" ∧ ob.dict = some builtinsNs ∧ ob.data = .plain)
    (ha : s₁.heap.get? a = some { cls := .type "list", data := .seq vs.toArray }) (hi : IntsAre vs ns) (hl : ns.length ≤ sizeLine) (hr : Room k callerA)
    (F : ∀ base : Heap, K.In base → base.Ns mainGlobals mg → (∀ p ∈ cs, TabB base mg p.1 p.2) → FnOkG P w K mg base CX k fa fd [x] sp) (hbind : ∀ (s : Shared) (u : Value), BindsTo s fd ⟨[u], []⟩ [(x, u)])
    (hsp : ∀ H : Hp, (∀ p ∈ cs, H p.2 = some (.tbl #[])) → SqL K H a (ns.map V.int) → sp [.ref a] H (fun v _ => v = .bl true) fun _ _ _ => False) (hCX : ∀ H e s', CX [] H s₁ (fun _ _ _ => False) e s' → False) :
    codeAny (model P w) callerA (.call (.ref fa) ⟨[.ref a], []⟩) (fun r s' => r = .ok (.ret (.bool true)) ∧ OldK s₁.heap s'.heap ∧ s'.os = s₁.os ∧ AllBare s'.gens) s₁ := by
  have tab : ∀ b ∈ cs.map (·.2), s₁.heap.get? b = some { cls := .none, data := .fields #[] } := fun b m => by
    obtain ⟨p, hp, rfl⟩ := List.mem_map.mp m
    exact hT p hp
  have here : ∀ p ∈ cs, H0 K (cs.map (·.2)) a vs ns p.2 = some (.tbl #[]) := fun p hp => H0_tab (List.mem_map.mpr ⟨p, hp, rfl⟩)
  have off : ∀ {b : Addr} {o : Obj}, s₁.heap.get? b = some o → (∀ vs n, o.data ≠ .seq vs n) → o.data ≠ .fields #[] → H0 K (cs.map (·.2)) a vs ns b = none := fun e n1 n2 => H0_off tab ha e n1 n2
  have kin : ∀ b o, K.lookup b = some o → H0 K (cs.map (·.2)) a vs ns b = none := fun b o e => by
    rcases H0_cases (K := K) (T := cs.map (·.2)) (a := a) (vs := vs) (ns := ns) b with ⟨m, _⟩ | ⟨_, _, n, _⟩ | ⟨_, _, q⟩
    · obtain ⟨p, hp, rfl⟩ := List.mem_map.mp m
      rw [nT p hp] at e
      cases e
    · rw [n] at e
      cases e
    · exact q
  have hok : HOk P w (H0 K (cs.map (·.2)) a vs ns) s₁.heap := H0_ok tab ha hi hl
  have old : ∀ {b : Addr} {o : Obj}, s₁.heap.get? b = some o → H0 K (cs.map (·.2)) a vs ns b ≠ none → (∃ p ∈ cs, b = p.2) ∨ ∃ ob xs, H0 K (cs.map (·.2)) a vs ns b = some (.frz ob (.lst xs)) := fun {b o} _ ne => by
    rcases H0_cases (K := K) (T := cs.map (·.2)) (a := a) (vs := vs) (ns := ns) b with ⟨m, _⟩ | ⟨_, _, _, q⟩ | ⟨_, _, q⟩
    · obtain ⟨p, hp, e⟩ := List.mem_map.mp m
      exact .inl ⟨p, hp, e.symm⟩
    · exact .inr ⟨_, _, q⟩
    · exact absurd q ne
  have lst := H0_list (K := K) (T := cs.map (·.2)) tab KX ha hi hl
  generalize H0 K (cs.map (·.2)) a vs ns = H at here off kin hok old lst
  have dic : ∀ {b : Addr} {m : Str → Option Value}, s₁.heap.Ns b m → (hidT s₁.heap H).Ns b m := fun {b m} z => by
    obtain ⟨o, es, ep, e, d, r⟩ := z
    exact ⟨o, es, ep, hidT_get e (off e (fun _ _ q => by rw [d] at q; cases q) fun q => by rw [d] at q; cases q), d, r⟩
  have kb : K.In (hidT s₁.heap H) := fun b o e => hidT_get (KX b o e) (kin b o e)
  have lim : (hidT s₁.heap H).NoLimit := by
    obtain ⟨mc, h1, h2⟩ := hlim
    exact ⟨mc, dic h1, h2⟩
  have tabs : ∀ p ∈ cs, TabB (hidT s₁.heap H) mg p.1 p.2 := fun p hp => by
    refine ⟨?_, ?_, fun z => ?_⟩
    · obtain ⟨o, us, file, tf, flags, tg, inF, text, tt, e1, r1, r2, r3, rs⟩ := C p hp
      refine ⟨o, us, file, tf, flags, tg, inF, text, tt, hidT_get e1 (off e1 (fun _ _ q => by rw [r2] at q; cases q) fun q => ?_), r1, r2, r3, rs⟩
      rw [r2] at q
      cases q
      simp at r3
    · obtain ⟨bm, ob, b1, b2, b3, b4, b5, b6⟩ := hbm
      refine ⟨bm, ob, b1, b2, fun q => ?_, fun q => ?_, hidT_get b3 (off b3 (fun _ _ q => by rw [b6] at q; cases q) fun q => by rw [b6] at q; cases q), b4, b5, b6⟩
      · obtain ⟨o, es, ep, e, hd, _⟩ := hns
        rw [q, e] at b3
        cases b3
        rw [hd] at b6
        cases b6
      · rw [q, hT p hp] at b3
        cases b3
        cases b6
    · obtain ⟨o, es, ep, e, hd, _⟩ := hns
      rw [z, hT p hp] at e
      cases e
      cases hd
  have env : Env0 P w K mg (hidT s₁.heap H) callerA [] s₁ H :=
    { frames := rfl, mod := ⟨kb, dic hns, ⟨mb, dic hb, hbb⟩, lim⟩, bs := fun b o e => of_hidT e, bsz := Nat.le_of_eq (hidT_size _ _), funs := trivial, frf := (fun b m => by cases m), hok := hok, bare := .of_eq hg }
  refine codeAny_mono ((F _ kb (dic hns) tabs).run callerA [] s₁ H ⟨[.ref a], []⟩ [.ref a] [.ref a] _ _ rfl hr env (hbind s₁ (.ref a)) (.cons rfl .nil) (hsp H here lst)) fun r s' z => ?_
  match r, z with
  | .error e, z => exact (hCX H e s' z).elim
  | .ok .next, z => exact False.elim z
  | .ok .brk, z => exact False.elim z
  | .ok .cont, z => exact False.elim z
  | .ok (.ret u), z =>
    obtain ⟨v, H', os, bare, un, hok', ru, rfl⟩ := z
    cases ru
    have more : ∀ p ∈ cs, ∃ m : Array Value, s'.heap.get? p.2 = some { cls := .none, data := .fields m } := fun p hp => by
      obtain ⟨m, z⟩ := un.tbls p.2 #[] (here p hp)
      exact ⟨_, hok' p.2 _ z⟩
    have rest : ∀ b o, s₁.heap.get? b = some o → (∀ p ∈ cs, b ≠ p.2) → s'.heap.get? b = some o := fun b o e nb => by
      by_cases q : H b = none
      · exact un.keep b o e q (by intro z; cases z) (by intro z; cases z)
      · rcases old e q with ⟨p, hp, z⟩ | ⟨ob, xs, z⟩
        · exact absurd z (nb p hp)
        · have z1 := (hok b _ z).1
          cases z1.symm.trans e
          exact (hok' b _ (un.frzs b _ _ z)).1
    refine ⟨rfl, ⟨fun b o e => ?_, fun b o e => ?_⟩, os, bare⟩
    · by_cases q : ∃ p ∈ cs, b = p.2
      · obtain ⟨p, hp, rfl⟩ := q
        obtain ⟨m, hm⟩ := more p hp
        cases (hT p hp).symm.trans e
        exact .inr (.inl ⟨((C p hp).tab (hT p hp)).isCodeTable, rfl, #[], m, rfl, by rw [Array.empty_append]; exact hm⟩)
      · exact .inl (rest b o e fun p hp z => q ⟨p, hp, z⟩)
    · by_cases q : ∃ p ∈ cs, b = p.2
      · obtain ⟨p, hp, rfl⟩ := q
        obtain ⟨m, hm⟩ := more p hp
        exact ⟨_, hm⟩
      · exact ⟨o, rest b o e fun p hp z => q ⟨p, hp, z⟩⟩
/-- what is known of the law's promise at the head's heap -/
def LawAtG (l : PySem.W.OpenLaw) (w : World) (K : PySem.W.Frag) (CX : CXT) (k n : Nat) (x : Str) (mg : Str → Option Value) (fa : Addr) (h : Heap) : Prop :=
  ∃ (fd : FuncData) (cs : List (Addr × Addr)) (sp : Sp), (∀ p ∈ cs, h.get? p.2 = some { cls := .none, data := .fields #[] }) ∧ (∀ p ∈ cs, K.lookup p.2 = none) ∧ (∀ p ∈ cs, PySem.W.CodeHd h p.1 p.2) ∧ (∀ (s : Shared) (u : Value), BindsTo s fd ⟨[u], []⟩ [(x, u)]) ∧
    (∀ (H : Hp) (a : Addr) (ns : List Int), ns.length ≤ n → (∀ z ∈ ns, Builtin.Int.intBits z ≤ 1048576) → (∀ p ∈ cs, H p.2 = some (.tbl #[])) → SqL K H a (ns.map V.int) → sp [.ref a] H (fun v _ => v = .bl true) fun _ _ _ => False) ∧
    ∀ base : Heap, K.In base → base.Ns mainGlobals mg → (∀ p ∈ cs, TabB base mg p.1 p.2) → FnOkG l.prog w K mg base CX k fa fd [x] sp
theorem walk_ofG {l : PySem.W.OpenLaw} {n k : Nat} {q : Program} {loose : List Str} {XP : (Str → Option Value) → Heap → Prop} {YP : World → Heap → Prop} {d : DefRec} {CX : World → CXT} {x : Str} (hn : l.most = some n) (hn2 : n ≤ sizeLine) (hdf : d.params.defaults = []) (hr : Room k callerA)
    (F : ∀ (w : World) (mg : Str → Option Value) (fa : Addr) (h : Heap), YP w h → h.Ns mainGlobals mg → mg d.name = some (.ref fa) → ∃ K : PySem.W.Frag, K.In h ∧ LawAtG l w K (CX w) k n x mg fa h)
    (hCX : ∀ (w : World) (H : Hp) (s : Shared) (e : Value) (s' : Shared), CX w [] H s (fun _ _ _ => False) e s' → False) : PySem.W.WalkO q loose XP YP l.row.toRowW d [] (fun f vs => PySem.call f vs) := by
  refine Att.attach_callB hn hdf fun w s₀ s₁ mg mb fa o pm cd doc a vs ns G Y ho hd hcd hmg hobj hints hlen hbits hg => ?_
  obtain ⟨K, KX, fd, cs, sp, hT, nT, C, hb, hsp, hF⟩ := F w mg fa _ Y G.T.g hmg
  exact law_callG KX G.T.g G.T.b G.T.builtins G.T.nolimit hg hT nT C G.T.bmain hobj hints (Nat.le_trans hlen hn2) hr hF hb (fun H hH hS => hsp H a ns hlen hbits hH hS) fun H e s' => hCX w H s₁ e s'
end
end Own
set_option Elab.async false
set_option linter.all false
set_option maxRecDepth 100000
set_option maxHeartbeats 400000
namespace L2
open PySem PySem.Spec PyProof.Rows
/-! ### repr -/
/-- the text of a flat value -/
def flatT : V → Option Str
  | .non => some "None"
  | .bl b => some (if b then "True" else "False")
  | .int i => some (toString i)
  | _ => none
/-- repr of None, a truth value, a number -/
def rRepr0 : List V → Hp → VK → Prop := fun vs H Q => ∃ (x : V) (z : Str), vs = [x] ∧ flatT x = some z ∧ (∀ i, x = .int i → i.natAbs.log2 < 1920) ∧ Q (.str z) H
/-- repr of data of any depth, nothing being written just now -/
def rReprD (K : PySem.W.Frag) : List V → Hp → VK → Prop := fun vs H Q => ∃ (a : Addr) (d : PyData), vs = [.ref a] ∧ Dp K H (.ref a) d ∧ d.showable = true ∧ d.hasDict = false ∧ d.depth ≤ 64 ∧ d.shown.length ≤ sizeLine ∧ Q (.str d.shown) H
section
variable {X : Cx}
theorem call_repr0 : CallR X (.builtin "repr") rRepr0 := by
  intro pins s σ H xs us Q I r h
  obtain ⟨x, z, rfl, hz, hi, q⟩ := h
  obtain ⟨u, rfl, ru⟩ := vals1 r
  cases x with
  | non =>
    cases ru
    cases hz
    exact P.repr_of_none ⟨.str _, H, I.tok _, ⟨_, rfl⟩, q⟩
  | bl b =>
    cases ru
    cases hz
    exact P.repr_of_bool ⟨.str _, H, I.tok _, ⟨_, rfl⟩, q⟩
  | int i =>
    obtain ⟨t, rfl⟩ := ru
    cases hz
    exact P.repr_of_int (hi i rfl) ⟨.str _, H, I.tok _, ⟨_, rfl⟩, q⟩
  | str _ => cases hz
  | byt _ => cases hz
  | flt _ => cases hz
  | ref _ => cases hz
  | ty _ => cases hz
theorem call_reprD (hg : X.A.guards = some []) (hu : X.A.units + 100 < cLine) : CallR X (.builtin "repr") (rReprD X.K) := by
  intro pins s σ H xs us Q I r h
  obtain ⟨a, d, rfl, hd, h1, h2, h3, h4, q⟩ := h
  obtain ⟨u, rfl, ru⟩ := vals1 r
  cases ru
  obtain ⟨as, rd⟩ := Dp.reads I d _ _ hd rfl
  exact repr_of_reads' rd h1 (PyData.noDict_hsm h2) hg (by omega) (fun _ _ e => e) (fun h' u tk hk => ⟨.str _, H, I.kept (t' := tk) hk, ⟨u, rfl⟩, q⟩) h4
end
end L2
set_option Elab.async false
set_option linter.all false
set_option maxRecDepth 100000
set_option maxHeartbeats 400000
namespace Own
open PySem PySem.Spec PyProof.Rows L2 LamX
/-! ### the law's own judge of names; repr of any value; calls where no repr is under way -/
/-- repr of data -/
def rReprA (K : PySem.W.Frag) : List V → Hp → VK → Prop := fun vs H Q => ∃ (x : V) (d : PyData), vs = [x] ∧ Dp K H x d ∧ d.showable = true ∧ d.hasDict = false ∧ d.depth ≤ 64 ∧ d.shown.length ≤ sizeLine ∧ Q (.str d.shown) H
section
variable {X : Cx}
theorem call_reprA (hg : X.A.guards = some []) (hu : X.A.units + 100 < cLine) : CallR X (.builtin "repr") (rReprA X.K) := by
  intro pins s σ H xs us Q I r h
  obtain ⟨x, d, rfl, hd, h1, h2, h3, h4, q⟩ := h
  obtain ⟨u, rfl, ru⟩ := vals1 r
  cases hd with
  | non =>
    cases ru
    exact P.repr_of_none ⟨.str _, H, I.tok _, ⟨_, rfl⟩, q⟩
  | bl b =>
    cases ru
    exact P.repr_of_bool ⟨.str _, H, I.tok _, ⟨_, rfl⟩, q⟩
  | int i =>
    obtain ⟨t, rfl⟩ := ru
    exact P.repr_of_int (of_decide_eq_true h1) ⟨.str _, H, I.tok _, ⟨_, rfl⟩, q⟩
  | str z =>
    obtain ⟨t, rfl⟩ := ru
    exact P.repr_of_str (hsz := h4) ⟨.str _, H, I.tok _, ⟨_, rfl⟩, q⟩
  | lst a b =>
    obtain ⟨as, rd⟩ := Dp.reads I _ _ _ (Dp.lst a b) ru
    cases ru
    exact repr_of_reads' rd h1 (PyData.noDict_hsm h2) hg (by omega) (fun _ _ e => e) (fun h' u tk hk => ⟨.str _, H, I.kept (t' := tk) hk, ⟨u, rfl⟩, q⟩) h4
  | tup a b =>
    obtain ⟨as, rd⟩ := Dp.reads I _ _ _ (Dp.tup a b) ru
    cases ru
    exact repr_of_reads' rd h1 (PyData.noDict_hsm h2) hg (by omega) (fun _ _ e => e) (fun h' u tk hk => ⟨.str _, H, I.kept (t' := tk) hk, ⟨u, rfl⟩, q⟩) h4
end
section
variable {X : Cx} {CX : CXT} {k : Nat} {f : Addr} {fd : FuncData} {ps : List Str} {sp : Sp} {E : XK} {x : Str} {p pos : Pos} {e : Expr} {es : List Expr} {t : TA}
/-- such a callee runs -/
theorem fnG_run {pins : List (Addr × Obj)} {σ : L2.St} {H : Hp} {s : Shared} {Q : VK} {us : List Value} {vs : List V} (F : FnOkG X.prog X.w X.K X.mg X.base CX k f fd ps sp) (gd : X.A.guards = some []) (room : Room k X.A) (hb : Binds X.K fd ps []) (pass : Passes CX X E) (I : Inv X pins σ H s) (r : Vals vs us) (h : sp vs H Q E) :
    wpAny (model X.prog X.w) X.A (call (.ref f) us) (EP X pins σ Q) X.xe s := by
  have hb' := hb s us I.kIn (by rw [List.append_nil, ← r.length]; exact F.len _ _ _ _ h)
  rw [List.append_nil] at hb'
  refine wpAny_call (codeAny_mono (F.run X.A X.stack s H ⟨us, []⟩ us vs Q E gd room I.env0 hb' r h) ?_)
  rintro (err | fl) s' hq
  · exact pass pins σ H s err s' I hq
  · cases fl with
    | ret u => exact I.after hq
    | _ => exact False.elim hq
theorem pe_callG (F : FnOkG X.prog X.w X.K X.mg X.base CX k f fd ps sp) (gd : X.A.guards = some []) (room : Room k X.A) (hg : Gl X x) (hm : X.mg x = some (.ref f)) (hk : PySem.W.keepIn X.K (.ref f) = true) (hb : Binds X.K fd ps []) (pass : Passes CX X E)
    (ha : PA X (e :: es) t) (hdb : (x == ("__debug__" : Str)) = false := by decide) (he : starEach (e :: es) X.env = (false, eval e X.env) :: starEach es X.env := by rfl) (hpl : (backTo pos (starEach es X.env)).any (·.1) = false := by rfl) :
    PE X (.Call (.Name x p) (e :: es) [] pos) (tCall sp [] E t) := by
  constructor
  intro pins s σ H Q I h
  refine wpAny_Call_Name_kw (ld_glob I hg hm (PySem.W.callWith_K (h₀ := X.base) I.ok.mod.kin hk (thn (ha.run pos pins s σ H _ I h) fun us s1 z => ?_) he hpl) hdb)
  obtain ⟨vs, H1, I1, r, q⟩ := z
  rw [List.append_nil] at q
  exact ⟨I1.kIn, fnG_run F gd room hb pass I1 r q⟩
end
section
variable {P : Program} {w : World} {K : PySem.W.Frag} {mg : Str → Option Value} {base : Heap} {f : Addr} {fd2 : FuncData}
theorem scNameDue : FnScope ["_law_value", "_law_letters", "_law_sign"] ["_law_value"] (defScope sNameDue) := ⟨rfl, rfl, rfl, by decide +kernel, rfl, by decide +kernel, by decide +kernel⟩
theorem ok_namedue (F : FnP K "_law_is_name" sNameDue f fd2) (T : Txt K mg) : FnOk P w K mg base CX0 1 f fd2 ["_law_value"] spName := by
  refine F.ok scNameDue (fun vs H Q E h => ?_) (fun cdv A outer s H vs Q E hr h => ?_)
  · obtain ⟨x, d, rfl, _⟩ := h
    rfl
  · obtain ⟨x, d, rfl, hx, vd, k⟩ := h
    refine ⟨_, PSs.nox (pss_cons (ps_set (i := 1) scNameDue.nd rfl (.inr rfl) pe_str)
      (pss_cons (ps_if (PW.pt (pw_or (pt_not (pt_val (pe_callB call_isi (by rfl) T.isi boot_isinstance (pa_cons (pv 0) (pa_cons (pe_bltn (v := .ty "str") (by rfl) T.str (by decide +kernel) rfl) pa_nil)))))
        (pw_or (pt_cmpR op_lt (pe_callB call_len_str (by rfl) T.len PySem.boot_len (pa_cons (pv 0) pa_nil)) pe_int (nomark _)) (pw_or (pt_cmpR op_gt (pe_callB call_len_str (by rfl) T.len PySem.boot_len (pa_cons (pv 0) pa_nil)) pe_int (nomark _))
        (pw_or1 (pt_cmpR op_notIn_sign (pe_ix ix_str (pv 0) pe_int (fun _ _ => rfl)) (pv 1) (by rfl))))))) (pss_one (ps_ret pe_bl)) pss_nil)
      (pss_one (ps_ret (pe_cmpR (op_eqD hr.units) (pe_lc (own := [("_law_sign", 2)]) (g := gName 2) (by rfl) scNameDue.nd (pi_str (pv 0)) (blkOk_by (own := [("_law_sign", 2)]) (N := ["_law_value", "_law_letters", "_law_sign"]) (sc := defScope sNameDue) (by decide +kernel))
          (fun _ _ _ _ _ => pg_name (i := 2) scNameDue.nd rfl (Or.inl rfl)) (fun _ _ _ _ _ => pts_one (pt_cmpR op_notIn_sign (pv 2) (pe_op op_add_str (pv 1) pe_str) (by rfl))) (fun _ _ _ _ _ => pv 2)) (pe_lst pa_nil) (nomark _)))))), ?_⟩
    refine ⟨_, rfl, x, .ty "str", .type (tyOf d), .type "str", isS d, rfl, .ty _, hx.ty, kit_ty (kit_str d), _, rfl, ?_⟩
    cases es : isS d with
    | false =>
      refine iteT ?_
      have q := k H (Same.refl _)
      rw [name_none es] at q
      exact q
    | true =>
      refine iteF ?_
      obtain ⟨z, rfl⟩ : ∃ z, d = .str z := by
        cases d <;> first | exact ⟨_, rfl⟩ | cases es
      obtain ⟨zl, zf⟩ := gdb_str (vdb_gdb vd rfl)
      cases hx
      have zs : z.length ≤ sizeLine := Nat.le_trans zl (by decide)
      refine ⟨_, rfl, z, rfl, zs, _, _, rfl, rfl, decide (((z.length : Nat) : Int) < (1 : Int)), rfl, ?_⟩
      by_cases z2 : z = ""
      · subst z2
        refine iteT ?_
        have q := k H (Same.refl _)
        have e : nameB (.str "") = false := by decide +kernel
        rw [e] at q
        exact q
      obtain ⟨c, r, ec⟩ : ∃ c r, z.cps.toList = c :: r := by
        cases e : z.cps.toList with
        | nil =>
          exfalso
          apply z2
          exact TL.ext_tl e
        | cons c r => exact ⟨c, r, rfl⟩
      have zl1 : 0 < z.length := by
        show 0 < z.cps.size
        rw [← Array.length_toList, ec]
        exact Nat.succ_pos _
      rw [decide_eq_false (by omega : ¬ ((z.length : Nat) : Int) < (1 : Int))]
      refine iteF ?_
      refine ⟨_, rfl, z, rfl, zs, _, _, rfl, rfl, decide (((z.length : Nat) : Int) > (8 : Int)), rfl, ?_⟩
      by_cases z8 : z.length ≤ 8
      · rw [decide_eq_false (by omega : ¬ ((z.length : Nat) : Int) > (8 : Int))]
        refine iteF ?_
        have en := name_eq ec z8
        rw [en] at k
        refine ⟨_, rfl, z, _, c, rfl, rfl, zs, ?_, _, rfl, ⟨c, _, rfl, rfl, _, rfl, ?_⟩⟩
        · rw [ec]
          exact atI_nat (j := 0) rfl
        show if (!decide (c ∈ LET)) = true then _ else _
        cases hc : decide (c ∈ LET) with
        | false =>
          refine iteT ?_
          have q := k H (Same.refl _)
          rw [hc] at q
          exact q
        | true =>
          refine iteF ?_
          refine ⟨_, rfl, z, rfl, fun D nD => ?_⟩
          have sl : (signs z).length < sizeLine := by
            rw [signs_len]
            exact Nat.lt_of_le_of_lt z8 (by decide)
          refine lc_filt (p := fun x => !ledB x) walk_signs nD sl (fun _ _ => trivial) (by show 2 < 3; decide) (fun x H' hx _ R kR => ?_) fun H' sH eD => ?_
          · obtain ⟨c, hc, rfl⟩ := List.mem_map.mp hx
            refine ⟨_, rfl, _, rfl, _, _, rfl, rfl, by decide, ⟨c, _, rfl, rfl, _, rfl, ?_⟩⟩
            have e1 : ledB (V.str ⟨#[c]⟩) = decide (c ∈ ("abcdefghijklmnopqrstuvwxyz" ++ "0123456789" : Str).cps.toList) := by
              show decide (∀ x ∈ ([c] : List Nat), x ∈ LEDI) = _
              rw [Bool.eq_iff_iff, decide_eq_true_iff, decide_eq_true_iff]
              exact ⟨fun h => h c (by simp), fun h y hy => by rw [List.mem_singleton.mp hy]; exact h⟩
            have q := kR H' (Same.refl _)
            rw [e1] at q
            exact q
          · refine tail_eq eD (all_filter (List.all_eq_true.mpr (fok_signs zf))) fun H'' s2 => ?_
            have q := k H'' (sH.trans s2)
            rw [hc, Bool.true_and, ← filter_any, Bool.not_not] at q
            exact q
      · rw [decide_eq_true (by omega : ((z.length : Nat) : Int) > (8 : Int))]
        refine iteT ?_
        have q := k H (Same.refl _)
        have e : nameB (.str z) = false := decide_eq_false fun h => z8 h.1
        rw [e] at q
        exact q
end
end Own
set_option Elab.async false
set_option linter.all false
set_option maxRecDepth 100000
set_option maxHeartbeats 400000
namespace Own
open PySem PySem.Spec PyProof.Rows L2 LamX
/-! ### the law's own judge of deeds -/
theorem PSsT.nox {X : Cx} {st : List Stmt} {t : TS} (h : PSsT X.nox st t) : PSsT X st t := fun pins s σ H D h0 I hw =>
  wpAny_mono (h pins s σ H D h0 (I.wish _) hw) (fun _ _ q => q.unwish) fun _ _ z => False.elim z
/-- an item whose repr is that of a way only if it is one -/
def lastB (e : PyData) : Bool := e.showable && (decide (e.shown.length ≤ 100) && ((e.shown == "1" || e.shown == "2") == wayB e))
def LastAll (d : PyData) : Prop := ∀ ds, d = .tuple ds → ∀ e ∈ ds, lastB e = true
def spDeedDue : Sp := fun vs H Q _ => ∃ (x : V) (d : PyData), vs = [x] ∧ Dq [] H x d ∧ vdb d = true ∧ LastAll d ∧ ∀ H', Same H H' → Q (.bl (deedB d)) H'
theorem vdb_of {d : PyData} (h : gdb d = true) : vdb d = true := by
  unfold vdb
  rw [h, Bool.or_true]
theorem fk_get {wd : Str} : (∃ q, FORM.lookup wd = some q ∧ valV FK (Sum.inr wd) = some (.int q.1)) ∨ (FORM.lookup wd = none ∧ valV FK (Sum.inr wd) = none) := by
  cases e : FORM.lookup wd with
  | some q => exact .inl ⟨q, rfl, fk_look _ (look_mem e)⟩
  | none =>
    refine .inr ⟨rfl, ?_⟩
    cases e2 : valV FK (Sum.inr wd) with
    | none => rfl
    | some v =>
      exfalso
      have m := valV_in e2
      obtain ⟨t, ht, et⟩ := List.mem_map.mp (show Sum.inr wd ∈ FK.map (·.1) from m)
      obtain ⟨t2, ht2, rfl⟩ := List.mem_map.mp ht
      have : t2.1 = wd := by
        have := et
        injection this
      have q := form_look _ ht2
      rw [this, e] at q
      cases q
theorem way_form {m kk : Nat} {wd : Str} (h : (wd, m, kk) ∈ FORM) : decide (wd ∈ WAYS) = (kk == 1) := fk_way _ h
section
variable {P : Program} {w : World} {K : PySem.W.Frag} {mg : Str → Option Value} {base : Heap} {f : Addr} {fd2 dN dF dH : FuncData}
theorem form_two : ∀ t ∈ FORM, 2 ≤ t.2.1 := by decide +kernel
theorem deed_short {ds : List PyData} (h : ds.length < 3) : deedB (.tuple ds) = false := by
  cases e : deedB (.tuple ds) with
  | false => rfl
  | true =>
    exfalso
    obtain ⟨d, e2, m, k, hm, nm, _⟩ := deedB_ok e
    have e3 : ds = d.pys := by injection e2
    have := form_two _ hm
    have l : d.pys.length = 1 + d.names.length + d.way.length := by
      unfold Deed.pys
      rw [List.length_cons, List.length_append, List.length_map, List.length_map]
      omega
    rw [e3, l] at h
    have h2 : 2 ≤ m := this
    omega
abbrev nsDeedDue : List Str := ["_law_value", "_law_many", "_law_name_here"]
theorem scDeedDue : FnScope nsDeedDue ["_law_value"] (defScope sDeedDue) := ⟨rfl, rfl, rfl, by decide +kernel, rfl, by decide +kernel, by decide +kernel⟩
theorem ok_deeddue (F : FnP K "_law_is_deed" sDeedDue f fd2) (KN : Fk P w K mg base CX0 1 "_law_is_name" dN ["_law_value"] spName) (KF : Fk P w K mg base CX0 1 "_law_forms" dF [] spForms) (KH : Fk P w K mg base CX0 1 "_law_has_way" dH ["_law_word"] spHasWay) (T : Txt K mg) :
    FnOkG P w K mg base CX0 2 f fd2 ["_law_value"] spDeedDue := by
  refine FunD.okG F scDeedDue rfl (fun vs H Q E h => ?_) (fun cdv A outer s H vs Q E hlk hcd hg hr h => ?_)
  · obtain ⟨x, d, rfl, _⟩ := h
    rfl
  · obtain ⟨x, d, rfl, hx, vd, la, k⟩ := h
    have hu := hu_of hr
    have hu1 : (A.deeper (envOfC "_law_is_deed" (defScope sDeedDue) s.heap.objs.size f cdv)).units + 100 < cLine := by have := hr.un; omega
    refine ⟨_, PSsT.nox (PSsT.of (pss_cons (ps_if (PW.pt (pw_or (pt_not (pt_val (pe_callB call_isi (by rfl) T.isi boot_isinstance (pa_cons (pv 0) (pa_cons (pe_bltn (v := .ty "tuple") (by rfl) T.tuple (by decide +kernel) rfl) pa_nil)))))
        (pw_or (pt_cmpR op_lt (pe_callB call_len_seq (by rfl) T.len PySem.boot_len (pa_cons (pv 0) pa_nil)) pe_int (nomark _)) (pw_or (pt_not (pt_val (pe_callB call_isi (by rfl) T.isi boot_isinstance (pa_cons (pe_ix ix_tup (pv 0) pe_int (fun _ _ => rfl)) (pa_cons (pe_bltn (v := .ty "str") (by rfl) T.str (by decide +kernel) rfl) pa_nil)))))
        (pw_or1 (pt_cmp (pc_dnotin hu (pe_ix ix_tup (pv 0) pe_int (fun _ _ => rfl)) (pe_call0 KF.ok hr (by rfl) KF.g KF.kp KF.b .nil pass0)))))))) (pss_one (ps_ret pe_bl)) pss_nil)
      (pss_cons (ps_set (i := 1) scDeedDue.nd rfl (.inl rfl) (pe_op op_add pe_int (pe_dget hu (pe_call0 KF.ok hr (by rfl) KF.g KF.kp KF.b .nil pass0) (pe_ix ix_tup (pv 0) pe_int (fun _ _ => rfl)) (fun _ _ => rfl))))
      (pss_cons (ps_if (pt_cmpR op_ne (pe_callB call_len_seq (by rfl) T.len PySem.boot_len (pa_cons (pv 0) pa_nil)) (pe_op op_add (pv 1) (pe_callTy call_int1 (by rfl) T.int boot_int (pa_cons (pe_call KH.ok hr (by rfl) KH.g KH.kp KH.b .nil pass0 (pa_cons (pe_ix ix_tup (pv 0) pe_int (fun _ _ => rfl)) pa_nil)) pa_nil))) (nomark _)) (pss_one (ps_ret pe_bl)) pss_nil)
      (pss_cons (ps_if (pt_cmpR (op_neD hr.units) (pe_lc (own := [("_law_name_here", 2)]) (g := gName 2) (by rfl) scDeedDue.nd (pi_tup (pe_slice sl_tup (pv 0) (po_some pe_int) (po_some (pv 1)))) (blkOk_by (own := [("_law_name_here", 2)]) (N := nsDeedDue) (sc := defScope sDeedDue) (by decide +kernel))
          (fun _ _ _ _ _ => pg_name (i := 2) scDeedDue.nd rfl (Or.inl rfl)) (fun _ _ _ _ _ => pts_one (pt_not (pt_val (pe_call KN.ok hr (by rfl) KN.g KN.kp KN.b .nil pass0 (pa_cons (pv 2) pa_nil))))) (fun _ _ _ _ _ => pv 2)) (pe_lst pa_nil) (nomark _)) (pss_one (ps_ret pe_bl)) pss_nil)
      (pss_one (ps_ret (pe_or (pe_cmpR op_eq (pe_callB call_len_seq (by rfl) T.len PySem.boot_len (pa_cons (pv 0) pa_nil)) (pv 1) (nomark _)) (pe_one (pe_cmpR op_in_seq (pe_callB (call_reprA hg hu1) (by rfl) T.repr (by decide +kernel) (pa_cons (pe_ix ix_tup (pv 0) (pv 1) (fun _ _ => rfl)) pa_nil)) (pe_lst (pa_cons pe_str (pa_cons pe_str pa_nil))) (by rfl))))))))))), ?_⟩
    have k0 := k H (Same.refl _)
    refine ⟨_, rfl, x, .ty "tuple", .type (tyOf d), .type "tuple", isT d, rfl, .ty _, hx.ty, kit_ty (kit_tuple d), _, rfl, ?_⟩
    cases eT : isT d with
    | false =>
      refine iteT ?_
      rw [deed_none eT] at k0
      exact k0
    | true =>
    refine iteF ?_
    obtain ⟨a, xs, ds, rfl, rfl, ha, hds⟩ : ∃ a xs ds, x = .ref a ∧ d = .tuple ds ∧ H a = some (.tup xs) ∧ DqAll [] H xs ds := by
      cases hx with
      | tup _ h1 h2 => exact ⟨_, _, _, rfl, rfl, h1, h2⟩
      | non => cases eT
      | bl => cases eT
      | int => cases eT
      | str => cases eT
      | lst => cases eT
      | dict => cases eT
    have hs : SqT K H a xs := SqT.of ha
    have gd0 : gdb (.tuple ds) = true := vdb_gdb vd rfl
    obtain ⟨l1000, gds⟩ := gdb_tuple gd0
    have len := hds.f2.len
    by_cases l3 : xs.length < 3
    · refine ⟨_, rfl, a, _, rfl, .inr hs, _, _, rfl, rfl, _, rfl, ?_⟩
      rw [decide_eq_true (by omega : ((xs.length : Nat) : Int) < (3 : Int))]
      refine iteT ?_
      rw [deed_short (by omega)] at k0
      exact k0
    refine ⟨_, rfl, a, _, rfl, .inr hs, _, _, rfl, rfl, _, rfl, ?_⟩
    rw [decide_eq_false (by omega : ¬ ((xs.length : Nat) : Int) < (3 : Int))]
    refine iteF ?_
    have s0 : Same H H := Same.refl _
    have kG := k0
    have hsG := hs
    cases hds with
    | nil => exact absurd l3 (by simp)
    | @cons v0 vs0 d0 ds0 h0 h1 =>
    have at0 : atI (v0 :: vs0) (0 : Int) = some v0 := at_nat (k := 0) rfl
    refine ⟨_, rfl, a, _, _, _, rfl, rfl, hsG, at0, v0, .ty "str", .type (tyOf d0), .type "str", isS d0, rfl, .ty _, (h0.same s0).ty, kit_ty (kit_str d0), _, rfl, ?_⟩
    cases eS : isS d0 with
    | false =>
      refine iteT ?_
      rw [deed_head_none eS] at kG
      exact kG
    | true =>
    refine iteF ?_
    obtain ⟨wd, rfl⟩ : ∃ z, d0 = .str z := by
      cases d0 <;> first | exact ⟨_, rfl⟩ | cases eS
    cases h0
    refine ⟨_, rfl, a, _, _, _, rfl, rfl, hsG, at0, rfl, fun fo H2 s2 nfo hfo => ⟨fo, _, rfl, DGet.k (k := Sum.inr wd) hfo, _, rfl, ?_⟩⟩
    rcases fk_get (wd := wd) with ⟨⟨m, kk⟩, hq, hv⟩ | ⟨hq, hv⟩
    rotate_left
    · rw [hv]
      refine iteT ?_
      have q := k _ (s0.trans s2)
      rw [deedB_no _ _ hq] at q
      exact q
    rw [hv]
    refine iteF ?_
    have hm := look_mem hq
    obtain ⟨f1, _, f3, f4⟩ := form_facts _ hm
    have f3' : m ≤ 5 := f3
    have f4' : kk ≤ 1 := f4
    have eB := deedB_cons wd ds0 hq
    rw [eB] at k
    have hs2 := seqT s2 hsG
    refine ⟨rfl, fun fo2 H3 s3 nfo2 hfo2 => ⟨_, rfl, a, _, _, _, rfl, rfl, seqT s3 hs2, at0, fo2, _, rfl, dget_k (.inr wd) hfo2 hv, _, _, rfl, rfl, ?_⟩⟩
    refine ⟨_, rfl, a, _, rfl, .inr (seqT s3 hs2), _, rfl, _, rfl, a, _, _, _, rfl, rfl, seqT s3 hs2, at0, wd, rfl, fun H4 s4 => .inr ⟨_, rfl, _, _, rfl, rfl, rfl, _, rfl, ?_⟩⟩
    have ew : (if decide (wd ∈ WAYS) = true then (1 : Int) else 0) = (kk : Int) := by
      rw [way_form hm]
      have : kk = 0 ∨ kk = 1 := by omega
      rcases this with rfl | rfl <;> rfl
    rw [ew]
    have sA4 := ((s0.trans s2).trans s3).trans s4
    have hs4 := seqT sA4 hs
    have h14 := h1.same sA4
    show if (!decide (V.int (((V.str wd :: vs0).length : Nat) : Int) = V.int (1 + (m : Int) + (kk : Int)))) = true then _ else _
    have l2 : vs0.length = ds0.length := by simpa using len
    by_cases hl : ds0.length = m + kk
    rotate_left
    · have e1 : (!decide (V.int (((V.str wd :: vs0).length : Nat) : Int) = V.int (1 + (m : Int) + (kk : Int)))) = true := by
        rw [decide_eq_false (by simp only [V.int.injEq, List.length_cons]; omega)]
        rfl
      rw [e1]
      refine iteT ?_
      have e2 : formB2 (m, kk) ds0 = false := by
        unfold formB2
        rw [decide_eq_false hl]
        rfl
      have q := k _ sA4
      rw [e2] at q
      exact q
    have e1 : (!decide (V.int (((V.str wd :: vs0).length : Nat) : Int) = V.int (1 + (m : Int) + (kk : Int)))) = false := by
      rw [decide_eq_true (by simp only [V.int.injEq, List.length_cons]; omega)]
      rfl
    rw [e1]
    refine iteF ?_
    refine ⟨_, rfl, _, rfl, _, rfl, _, rfl, a, _, rfl, hs4, cut_notwhole (by simp), fun p np => ?_⟩
    have lm : 1 + m ≤ (V.str wd :: vs0).length := by
      rw [List.length_cons, l2, hl]
      omega
    rw [cut_mid1 (m := m) lm, List.drop_succ_cons, List.drop_zero]
    have s5 := same_upd (o := .tup (vs0.take m)) np
    have hz : (vs0.take m).length < sizeLine := by
      rw [List.length_take]
      exact Nat.lt_of_le_of_lt (Nat.le_trans (Nat.min_le_left _ _) f3') (by decide)
    have hp := upd_same (H := H4) (a := p) (o := .tup (vs0.take m))
    generalize L2.upd H4 p (.tup (vs0.take m)) = H5 at s5 hp
    have sA5 := sA4.trans s5
    have gt : ∀ e ∈ ds0.take m, gdb e = true := fun e he => gds e (List.mem_cons_of_mem _ (List.mem_of_mem_take he))
    refine ⟨p, rfl, ⟨_, SqT.of hp⟩, fun D nD => ?_⟩
    refine lc_any (N := []) (ds := ds0.take m) (p := fun e => !nameB e) walk_tup (F2.take m (h14.same s5).f2) nD hz (fun H' s' => SqT.of (s' _ _ hp)) (by show 2 < 3; decide) (fun y e H' he hy _ R kR => ?_) fun H6 ys es1 s6 eD f5 sub em => ?_
    · exact ⟨_, rfl, y, e, rfl, hy, vdb_of (gt e he), fun H2 s3 => ⟨_, rfl, kR H2 s3⟩⟩
    refine tail_neD eD f5 (fun e he => gt e (sub e he)) fun H7 s7 => ⟨_, rfl, ?_⟩
    rw [em, Bool.not_not]
    have sA := (sA5.trans s6).trans s7
    have k2 := k H7 sA
    have e3 : formB2 (m, kk) ds0 = ((ds0.take m).all nameB && (ds0.drop m).all wayB) := by
      unfold formB2
      rw [decide_eq_true hl, Bool.true_and]
    rw [e3] at k
    have eN : (ds0.take m).any (fun e => !nameB e) = !(ds0.take m).all nameB := by
      rw [List.all_eq_not_any_not, Bool.not_not]
    rw [eN]
    cases eA : (ds0.take m).all nameB with
    | false =>
      refine iteT ?_
      have q := k _ sA
      rw [eA] at q
      exact q
    | true =>
    rw [eA] at k
    refine iteF ?_
    have hs7 := seqT sA hs
    refine ⟨_, rfl, a, _, rfl, .inr hs7, _, rfl, rfl, _, rfl, ?_⟩
    by_cases hk : kk = 0
    · subst hk
      have e5 : ds0.drop m = [] := List.drop_eq_nil_of_le (by omega)
      rw [e5] at k
      rw [decide_eq_true (by simp only [V.int.injEq, List.length_cons]; omega : V.int (((V.str wd :: vs0).length : Nat) : Int) = V.int (1 + (m : Int)))]
      exact iteT (k _ sA)
    have e4 : decide (V.int (((V.str wd :: vs0).length : Nat) : Int) = V.int (1 + (m : Int))) = false := decide_eq_false (by simp only [V.int.injEq, List.length_cons]; omega)
    rw [e4]
    refine iteF ?_
    have k1 : kk = 1 := by omega
    subst k1
    obtain ⟨eW, hW⟩ : ∃ e, ds0.drop m = [e] := by
      have : (ds0.drop m).length = 1 := by
        rw [List.length_drop, hl]
        omega
      match hd : ds0.drop m, this with
      | [e], _ => exact ⟨e, rfl⟩
    have hat0 : ds0[m]? = some eW := by
      have : (ds0.drop m)[0]? = some eW := by rw [hW]; rfl
      rw [List.getElem?_drop] at this
      simpa using this
    obtain ⟨vW, hvW, hqW⟩ := h1.f2.at' hat0
    have mW : eW ∈ ds0 := List.mem_of_getElem? hat0
    have hat : atI (V.str wd :: vs0) (1 + (m : Int)) = some vW := by
      have e6 : (1 + (m : Int)) = ((m + 1 : Nat) : Int) := by omega
      rw [e6]
      exact at_nat hvW
    have lW := la _ rfl eW (List.mem_cons_of_mem _ mW)
    unfold lastB at lW
    rw [Bool.and_eq_true, Bool.and_eq_true, decide_eq_true_iff, beq_iff_eq] at lW
    obtain ⟨w1, w2, w3⟩ := lW
    have gW := gds eW (List.mem_cons_of_mem _ mW)
    obtain ⟨g1, g2⟩ := gdb_lay gW
    rw [hW] at k
    have k3 : ∀ H', Same H H' → Q (.bl (wayB eW)) H' := fun H' s' => by
      have q := k H' s'
      have e8 : (true && [eW].all wayB) = wayB eW := by simp
      rw [e8] at q
      exact q
    refine ⟨_, rfl, _, rfl, a, _, _, _, rfl, rfl, hs7, hat, vW, eW, rfl, Dq.dp _ _ (hqW.same sA) g1, w1, PyData.hasDict_of_canLay _ g1, by omega, Nat.le_trans w2 (by decide), ?_⟩
    refine ⟨(by show 2 ≤ sizeLine; decide), fun l nl => ?_⟩
    refine ⟨l, [V.str "1", V.str "2"], rfl, .inl (SqL.of upd_same), rfl, by decide +kernel, ?_⟩
    have e9 : inV (V.str eW.shown) [V.str "1", V.str "2"] = wayB eW := by
      rw [← w3]
      show inV (V.str eW.shown) (("1" :: "2" :: [] : List Str).map V.str) = _
      rw [inV_str, Bool.eq_iff_iff, decide_eq_true_iff, Bool.or_eq_true, beq_iff_eq, beq_iff_eq]
      simp
    rw [e9]
    exact k3 _ (sA.trans (same_upd nl))
end
end Own
set_option Elab.async false
set_option linter.all false
set_option maxRecDepth 100000
set_option maxHeartbeats 400000
namespace Own
open PySem PySem.Spec PyProof.Rows L2
/-! ### dict comprehensions: stored in a local; over any walk -/
section
variable {X : Cx}
theorem ps_setDc {n : Nat} {dn : Str} {pn : Pos} {kx vx tg src : Expr} {cs : List Expr} {sc : Scope} {own : List (Str × Nat)} {p1 p2 : Pos} {wi : TI} {gg : TG} {tc : TT} {tk tv : TE} (calm : X.calm = true) (nd : X.N.Nodup) (at_ : X.N[n]? = some dn) (loc : X.env.scope.names.lookup dn = some .local)
    (sw : swapsWith (.DictComp kx vx [⟨tg, src, cs, 0⟩] sc p1) (some (.Name dn pn)) p2.line X.env = pure true) (it : PI X tg src wi) (bk : BlkOk X.N X.env.scope sc own)
    (h1 : ∀ (s : Shared) (H : Hp) (C : Addr) (cl : List (PySem.Str × Addr)) (fp : List Addr), PG (X.blk s H sc (compEnvC sc cl C X.env) fp) tg gg) (h2 : ∀ (s : Shared) (H : Hp) (C : Addr) (cl : List (PySem.Str × Addr)) (fp : List Addr), PTs (X.blk s H sc (compEnvC sc cl C X.env) fp) cs tc)
    (h3 : ∀ (s : Shared) (H : Hp) (C : Addr) (cl : List (PySem.Str × Addr)) (fp : List Addr), PE (X.blk s H sc (compEnvC sc cl C X.env) fp) kx tk)
    (h4 : ∀ (s : Shared) (H : Hp) (C : Addr) (cl : List (PySem.Str × Addr)) (fp : List Addr), PE (X.blk s H sc (compEnvC sc cl C X.env) fp) vx tv) (h5 : ∀ x, foldedSetIterable src X.env x = pure x := by intro _; rfl) :
    PS X (.Assign [.Name dn pn] (.DictComp kx vx [⟨tg, src, cs, 0⟩] sc p1) p2) (tAsg (tDc wi gg tc tk tv (own.map (·.2))) (gName n)) := by
  refine ⟨fun pins s σ H D I hyp => ?_⟩
  rw [exec_Assign_Name_used _ _ _ _ sw]
  refine wpAny_bind (wpAny_standAt (wpAny_bind ?_))
  show wpAny _ X.A (do let _ ← comprehension (.DictComp kx vx [⟨tg, src, cs, 0⟩] sc p1) sc X.env (firstIterPos [⟨tg, src, cs, 0⟩] p1) newDict false (eval src X.env) (some (assign (.Name dn pn) X.env))) _ _ s
  have hyp : tDc wi gg tc tk tv (own.map (·.2)) σ H (fun x H1 => gName n x σ H1 D.nx) := hyp
  refine wpAny_bind (thn (dc_core (Qf := fun _ s' => SP X pins D .next s') calm nd I it bk h1 h2 h3 h4 h5 hyp fun L C s' m H' I' q hn f => ?_) fun _ s' hq => wpAny_pure (wpAny_pure hq))
  show wpAny _ _ (assign (.Name dn pn) X.env (.ref L)) _ _ _
  refine wpAny_assign_Name (store_ok2 (v := V.ref L) I' nd at_ (.inl loc) rfl (fun s2 I2 ⟨a, sb, ha⟩ => ?_) (.inr loc))
  obtain ⟨f0, f1, f2, f3, f4, f5⟩ := f
  have neC : C ≠ a := by
    rcases ha with z | z
    · rw [z]; exact f1
    · exact fun e => f4 dn a z e.symm
  refine ⟨m, hn.sameBut sb neC, fun h3 sb3 => ?_⟩
  exact ⟨_, H', I2.turned (t' := s2.toks) (fun b o hb e => (sb3.2 b hb).trans e) f0 f1 f3 f4 f5, q⟩
theorem sw_trueD {kx vx : Expr} {gs : List Comprehension} {sc : Scope} {p1 pn : Pos} {dn : Str} {l : Nat} {env : Env} (hk : env.scope.kind = .function) (hy : env.scope.names.lookup dn = some .local) (hl : (pn.line == p1.line) = true)
    (ha : (sc.names.any fun (n, k) => n == dn && (k == .local || k == .cell)) = false) : swapsWith (.DictComp kx vx gs sc p1) (some (.Name dn pn)) l env = pure true := by
  have k1 : env.kindOf dn = some .local := hy
  have k2 : env.blockKind = .function := by unfold Env.blockKind; rw [hk]; rfl
  unfold swapsWith
  simp only [k2, k1, ha, Expr.pos, hl]
  rfl
end
section
variable {J : It} {n : Nat} {G : Hp → Prop} {Y : Nat → Hp → V → Hp → Prop}
theorem dc_it (w : Walk J n G Y) {g : TG} {tt : TT} {tk tv : TE} {vs : List Nat} {σ : L2.St} {H1 : Hp} {D : Addr} {Qd : Hp → Prop} (R : Nat → Hp → Prop) (first : R 0 (upd H1 D (.dK []))) (still : ∀ i H, i ≤ n → R i H → G H)
    (turn : ∀ i x H H', i < n → R i H → Y i H x H' → g x (wipe σ vs) H' fun σ2 H2 => wipe σ2 vs = wipe σ vs ∧ tt σ2 H2 fun b H3 =>
      if b = true then tk σ2 H3 fun y H4 => tv σ2 H4 fun z H5 => ∃ kvs k, y = kV k ∧ H5 D = some (.dK kvs) ∧ kvs.length < sizeLine ∧ R (i + 1) (upd H5 D (.dK (putK kvs k z))) else R (i + 1) H3) (last : ∀ H, R n H → Qd H) :
    ∃ W : Nat → Nat → Hp → Prop, (∃ m, W 0 m (upd H1 D (.dK []))) ∧ ∀ i m H, W i m H →
      (J.stop i H ∧ Qd H) ∨ (J.go i H ∧ ∃ Nx : Hp → Prop, (∀ H', Nx H' → ∃ m', m' < m ∧ W (i + 1) m' H') ∧ ∀ x H', J.yld i H x H' → g x (wipe σ vs) H' fun σ2 H2 => wipe σ2 vs = wipe σ vs ∧ tt σ2 H2 fun b H3 =>
        if b = true then tk σ2 H3 fun y H4 => tv σ2 H4 fun z H5 => ∃ kvs k, y = kV k ∧ H5 D = some (.dK kvs) ∧ kvs.length < sizeLine ∧ Nx (upd H5 D (.dK (putK kvs k z))) else Nx H3) := by
  refine ⟨fun i m H => m = n - i ∧ i ≤ n ∧ R i H, ⟨n, by simp, Nat.zero_le _, first⟩, ?_⟩
  rintro i m H ⟨rfl, le, r⟩
  have gd := still i H le r
  rcases Nat.lt_or_ge i n with lt | ge
  · exact .inr ⟨w.goes i H lt gd, R (i + 1), fun H' r' => ⟨n - (i + 1), by omega, rfl, lt, r'⟩, fun x H' y => turn i x H H' lt r (w.yields i H x H' lt gd y)⟩
  · obtain rfl : i = n := by omega
    exact .inl ⟨w.stops H gd, last H r⟩
end
end Own
set_option Elab.async false
set_option linter.all false
set_option maxRecDepth 100000
set_option maxHeartbeats 400000
namespace Own
open PySem PySem.Spec PyProof.Rows L2 LamX
/-! ### lists of unlike names -/
def namesG : List Str → List PyData → Bool
  | _, [] => true
  | kn, d :: r => match d with
    | .str z => if NameOk z ∧ z ∉ kn then namesG (kn ++ [z]) r else false
    | _ => false
def namesV (d : PyData) : Bool := match itemsOf d with
  | some ds => namesG [] ds
  | none => false
theorem namesG_good {kn : List Str} {z : Str} {r : List PyData} (h : NameOk z ∧ z ∉ kn) : namesG kn (.str z :: r) = namesG (kn ++ [z]) r := if_pos h
theorem namesG_bad {kn : List Str} {z : Str} {r : List PyData} (h : ¬ (NameOk z ∧ z ∉ kn)) : namesG kn (.str z :: r) = false := if_neg h
theorem namesG_none {kn : List Str} {d : PyData} {r : List PyData} (h : nameB d = false) : namesG kn (d :: r) = false := by
  cases d with
  | str z =>
    refine namesG_bad fun q => ?_
    have q1 : nameB (.str z) = true := decide_eq_true q.1
    rw [q1] at h
    cases h
  | _ => rfl
/-- names that are unlike and in order -/
structure NamesOk (ns : List Str) : Prop where
  nd : ns.Nodup
  ok : ∀ z ∈ ns, NameOk z
theorem namesG_ok : ∀ {ds : List PyData} {kn : List Str}, namesG kn ds = true → ∃ ns : List Str, ds = ns.map PyData.str ∧ NamesOk ns ∧ ∀ z ∈ ns, z ∉ kn
  | [], kn, _ => ⟨[], rfl, ⟨List.nodup_nil, fun _ h => by cases h⟩, fun _ h => by cases h⟩
  | d :: ds, kn, h => by
    cases hn : nameB d with
    | false =>
      rw [namesG_none hn] at h
      cases h
    | true =>
      obtain ⟨z, rfl⟩ : ∃ z, d = .str z := by
        cases d <;> first | exact ⟨_, rfl⟩ | cases hn
      by_cases q : NameOk z ∧ z ∉ kn
      · rw [namesG_good q] at h
        obtain ⟨ns, rfl, ok, no⟩ := namesG_ok h
        refine ⟨z :: ns, rfl, ⟨List.nodup_cons.mpr ⟨fun m => no z m (by simp), ok.nd⟩, fun y hy => ?_⟩, fun y hy => ?_⟩
        · rcases List.mem_cons.mp hy with rfl | hy
          · exact q.1
          · exact ok.ok y hy
        · rcases List.mem_cons.mp hy with rfl | hy
          · exact q.2
          · exact fun m => no y hy (by simp [m])
      · rw [namesG_bad q] at h
        cases h
theorem namesG_of : ∀ {ns kn : List Str}, NamesOk ns → (∀ z ∈ ns, z ∉ kn) → namesG kn (ns.map PyData.str) = true
  | [], _, _, _ => rfl
  | z :: ns, kn, h, no => by
    obtain ⟨n1, n2⟩ := List.nodup_cons.mp h.nd
    show namesG kn (.str z :: ns.map PyData.str) = true
    rw [namesG_good ⟨h.ok z List.mem_cons_self, no z List.mem_cons_self⟩]
    refine namesG_of ⟨n2, fun y hy => h.ok y (List.mem_cons_of_mem _ hy)⟩ fun y hy m => ?_
    rcases List.mem_append.mp m with m | m
    · exact no y (List.mem_cons_of_mem _ hy) m
    · rw [List.mem_singleton.mp m] at hy
      exact n1 hy
/-- what list or tuple it is -/
theorem seq_of {H : Hp} {x : V} {d : PyData} (hx : Dq [] H x d) (wd : wdb d = true) (e : (isL d || isT d) = true) :
    ∃ a xs ds, x = .ref a ∧ itemsOf d = some ds ∧ F2 (Dq [] H) xs ds ∧ ds.length ≤ 1000 ∧ (∀ q ∈ ds, vdb q = true) ∧ (H a = some (.lst xs) ∨ H a = some (.tup xs)) := by
  cases hx with
  | lst _ ha hds =>
    have h2 : (decide (_ ≤ 1000) && _) = true := wd
    rw [Bool.and_eq_true, decide_eq_true_iff, List.all_eq_true] at h2
    exact ⟨_, _, _, rfl, rfl, hds.f2, h2.1, h2.2, .inl ha⟩
  | tup _ ha hds =>
    have h2 : (decide (_ ≤ 1000) && _) = true := wd
    rw [Bool.and_eq_true, decide_eq_true_iff, List.all_eq_true] at h2
    exact ⟨_, _, _, rfl, rfl, hds.f2, h2.1, h2.2, .inr ha⟩
  | non => cases e
  | bl => cases e
  | int => cases e
  | str => cases e
  | dict => cases e
theorem no_items {d : PyData} (h : (isL d || isT d) = false) : itemsOf d = none := by
  cases d <;> first | rfl | cases h
def spAreN : Sp := fun vs H Q _ => ∃ (x : V) (d : PyData), vs = [x] ∧ Dq [] H x d ∧ wdb d = true ∧ ∀ H', Same H H' → Q (.bl (namesV d)) H'
def spNeedN (CB : Addr) : Sp := fun vs H Q E => ∃ (x : V) (d : PyData), vs = [x] ∧ Dq [] H x d ∧ wdb d = true ∧ ((namesV d = true ∧ ∀ H', Same H H' → Q .non H') ∨ (namesV d = false ∧ ∀ H', Same H H' → E (.ref CB) none H'))
def spNeedDr (NOW : List Str) (CB : Addr) : Sp := fun vs H Q E => ∃ (x : V) (d : PyData), vs = [x] ∧ DrawIn NOW H x d ∧ ((drawV SHEET d = true ∧ ∀ H', Same H H' → Q .non H') ∨ (drawV SHEET d = false ∧ ∀ H', Same H H' → E (.ref CB) none H'))
section
variable {NOW : List Str} {P : Program} {w : World} {K : PySem.W.Frag} {mg : Str → Option Value} {base : Heap} {f CB : Addr} {fd2 fdN fdA : FuncData}
theorem scAreN : FnScope ["value", "seen", "name"] ["value"] (defScope sAreN) := ⟨rfl, rfl, rfl, by decide +kernel, rfl, by decide +kernel, by decide +kernel⟩
theorem ok_aren (F : FnP K "are_names" sAreN f fd2) (KN : Fk P w K mg base CX0 1 "is_name" fdN ["value"] spName) (T : Txt K mg) : FnOk P w K mg base CX0 2 f fd2 ["value"] spAreN := by
  refine F.ok scAreN (fun vs H Q E h => ?_) (fun cdv A outer s H vs Q E hr h => ?_)
  · obtain ⟨x, d, rfl, _⟩ := h
    rfl
  · obtain ⟨x, d, rfl, hx, wd, k⟩ := h
    have hu := hu_of hr
    refine ⟨_, PSs.nox (pss_cons (ps_if (pt_not (pt_val (pe_callB call_isiT (by rfl) T.isi boot_isinstance (pa_cons (pv 0) (pa_cons (pe_tup (pa_cons (pe_bltn (v := .ty "list") (by rfl) T.list (by decide +kernel) rfl) (pa_cons (pe_bltn (v := .ty "tuple") (by rfl) T.tuple (by decide +kernel) rfl) pa_nil))) pa_nil))))) (pss_one (ps_ret pe_bl)) pss_nil)
      (pss_cons (ps_set (i := 1) scAreN.nd rfl (.inl rfl) pe_dnewK)
      (pss_cons (ps_for PassesOwn.never rfl (pi_seqW (pv 0)) (pg_name (i := 2) scAreN.nd rfl (Or.inl rfl))
        (pss_cons (ps_if (PW.pt (pw_or (pt_not (pt_val (pe_call KN.ok hr (by rfl) KN.g KN.kp KN.b .nil pass0 (pa_cons (pv 2) pa_nil)))) (pw_or1 (pt_cmp (pc_din hu (pv 2) (pv 1)))))) (pss_one (ps_ret pe_bl)) pss_nil)
        (pss_one (ps_dput hu (pv 1) (pv 2) pe_bl rfl))))
      (pss_one (ps_ret pe_bl))))), ?_⟩
    refine ⟨_, rfl, (by show 2 ≤ sizeLine; decide), fun tp ntp => ?_⟩
    have s0 := same_upd (o := .tup [.ty "list", .ty "tuple"]) ntp
    refine ⟨x, tp, _, .type (tyOf d), [.type "list", .type "tuple"], (isL d || isT d), rfl, upd_same, .cons (.ty _) (.cons (.ty _) .nil), (hx.same s0).ty, ?_, _, rfl, ?_⟩
    · cases eL : isL d with
      | true => exact kitAny_cons (b := true) (kit_ty (eL ▸ kit_list d)) (fun z => by cases z) (fun _ => rfl)
      | false =>
        cases eT : isT d with
        | true => exact kitAny_cons (b := false) (kit_ty (eL ▸ kit_list d)) (fun _ => kitAny_cons (b := true) (kit_ty (eT ▸ kit_tuple d)) (fun z => by cases z) (fun _ => rfl)) (fun z => by cases z)
        | false => exact kitAny_cons (b := false) (kit_ty (eL ▸ kit_list d)) (fun _ => kitAny_cons (b := false) (kit_ty (eT ▸ kit_tuple d)) (fun _ => kitAny_nil) fun z => by cases z) (fun z => by cases z)
    cases eLT : isL d || isT d with
    | false =>
      refine iteT ?_
      have q := k _ s0
      unfold namesV at q
      rw [no_items eLT] at q
      exact q
    | true =>
    refine iteF ?_
    obtain ⟨a, xs, ds, rfl, hitems, hf2, l1000, vds, walkable⟩ := seq_of hx wd eLT
    have edr : namesV d = namesG [] ds := by
      unfold namesV
      rw [hitems]
    rw [edr] at k
    intro dk ndk
    have s2 := same_upd (o := .dK []) ndk
    have hdk := upd_same (H := L2.upd H tp (.tup [.ty "list", .ty "tuple"])) (a := dk) (o := .dK [])
    have lz : H dk = none := s0.free ndk
    have sA := s0.trans s2
    generalize L2.upd (L2.upd H tp (.tup [.ty "list", .ty "tuple"])) dk (.dK []) = H2 at hdk sA
    have nad : a ≠ dk := by
      rintro rfl
      rcases walkable with e | e <;> rw [lz] at e <;> cases e
    have hlen := hf2.len
    have fin : ∀ G', Kp [dk] H2 G' → Same H G' := fun G' kg b ob e => kg _ _ (sA _ _ e) (by
      have : b ≠ dk := fun z => by rw [z, lz] at e; cases e
      simp [this])
    have wka : SqL K H2 a xs ∨ SqT K H2 a xs := walkable.imp (fun e => SqL.of (sA _ _ e)) fun e => SqT.of (sA _ _ e)
    refine ⟨_, rfl, a, xs, rfl, wka, fun J GG wk hGG => ?_⟩
    have hG : ∀ G, Kp [dk] H2 G → GG G := fun G kG => hGG G fun o e => kG _ _ e (by simp [nad])
    refine for_it wk (fun i σ G => ∃ v2 kvs kn, σ = [some (.ref a), some (.ref dk), v2] ∧ Kp [dk] H2 G ∧ G dk = some (.dK kvs) ∧ KeysAre kvs kn ∧ kn.length = i ∧ namesG kn (ds.drop i) = namesG [] ds)
      ⟨none, [], [], rfl, Kp.refl _ _, hdk, rfl, rfl, rfl⟩ (fun i σ G _ q => hG G (by obtain ⟨_, _, _, _, kG, _⟩ := q; exact kG)) ?_ ?_
    · rintro i y σ G0 G hi ⟨v2, kvs, kn, rfl, kG, gd, ky, lk, eq⟩ ⟨rfl, hy⟩
      obtain ⟨e, he, hq0⟩ := hf2.at_ hy
      have hq := hq0.same (fin _ kG)
      rw [drop_at he] at eq
      have vde := vds e (List.mem_of_getElem? he)
      have bad : ∀ {G1 : Hp}, Kp [dk] H2 G1 → namesG kn (e :: ds.drop (i + 1)) = false → Q (.bl false) G1 := fun {G1} kg z => by
        have q := k G1 (fin G1 kg)
        rw [← eq, z] at q
        exact q
      refine ⟨_, rfl, y, e, rfl, hq, vde, fun G1 t1 => ⟨_, rfl, ?_⟩⟩
      have kG1 := kG.trans (Kp.of t1 (xs := [dk]))
      cases eN : nameB e with
      | false =>
        refine iteT ?_
        exact bad kG1 (namesG_none eN)
      | true =>
      refine iteF ?_
      obtain ⟨n, rfl⟩ : ∃ n, e = .str n := by
        cases e <;> first | exact ⟨_, rfl⟩ | cases eN
      have okn : NameOk n := of_decide_eq_true eN
      cases hq
      have gd1 := t1 _ _ gd
      refine ⟨_, rfl, _, rfl, dk, _, rfl, DGet.k (k := Sum.inr n) gd1, _, rfl, ?_⟩
      rw [ky.look]
      by_cases hn : n ∈ kn
      · rw [decide_eq_true hn]
        refine iteT ?_
        exact bad kG1 (namesG_bad fun q => q.2 hn)
      rw [decide_eq_false hn]
      refine iteF ?_
      have lkv : kvs.length < sizeLine := by
        rw [ky.len, lk]
        have : i < ds.length := (List.getElem?_eq_some_iff.mp he).1
        exact Nat.lt_of_le_of_lt (show i ≤ 1000 by omega) (by decide)
      refine ⟨_, rfl, _, rfl, dk, _, rfl, DPut.k (k := Sum.inr n) gd1 lkv, ?_⟩
      refine ⟨_, _, kn ++ [n], rfl, kG1.trans (Kp.upd (by simp)), upd_same, ky.put hn, ?_, ?_⟩
      · rw [List.length_append, List.length_singleton, lk]
      · rw [← eq, namesG_good ⟨okn, hn⟩]
    · rintro σ G ⟨v2, kvs, kn, rfl, kG, gd, ky, lk, eq⟩
      rw [hlen, List.drop_length] at eq
      have q := k G (fin G kG)
      rw [← eq] at q
      exact q
theorem scNeedN : FnScope ["names"] ["names"] (defScope sNeedN) := ⟨rfl, rfl, rfl, by decide +kernel, rfl, by decide +kernel, by decide +kernel⟩
theorem ok_needn (F : FnP K "need_names" sNeedN f fd2) (KA : Fk P w K mg base CX0 2 "are_names" fdA ["value"] spAreN) (B : ExcT K mg "BadNames" CB) : FnOk P w K mg base (L2.CX P w) 3 f fd2 ["names"] (spNeedN CB) := by
  refine F.ok scNeedN (fun vs H Q E h => ?_) (fun cdv A outer s H vs Q E hr h => ?_)
  · obtain ⟨x, d, rfl, _⟩ := h
    rfl
  · obtain ⟨x, d, rfl, hx, wd, k⟩ := h
    refine ⟨_, pss_one (ps_if (pt_not (pt_val (pe_call KA.ok hr (by rfl) KA.g KA.kp KA.b .nil pass0 (pa_cons (pv 0) pa_nil)))) (pss_one (ps_raise rfl (takes_of rfl rfl rfl rfl) (pmk_own PySem.F.excBase_ValueError B.x B.g B.k (raises_own B.b B.t) rfl))) pss_nil), ?_⟩
    refine ⟨_, rfl, x, d, rfl, hx, wd, fun H1 s1 => ⟨_, rfl, ?_⟩⟩
    rcases k with ⟨e, k⟩ | ⟨e, k⟩
    · rw [e]
      exact iteF (k H1 s1)
    · rw [e]
      exact iteT (k H1 s1)
theorem scNeedDr : FnScope ["steps"] ["steps"] (defScope sNeedDr) := ⟨rfl, rfl, rfl, by decide +kernel, rfl, by decide +kernel, by decide +kernel⟩
theorem ok_needdr (F : FnP K "need_drawing" sNeedDr f fd2) (KA : Fk P w K mg base CX0 6 "is_drawing" fdA ["value"] (spDrawing NOW)) (B : ExcT K mg "BadDrawing" CB) : FnOk P w K mg base (L2.CX P w) 7 f fd2 ["steps"] (spNeedDr NOW CB) := by
  refine F.ok scNeedDr (fun vs H Q E h => ?_) (fun cdv A outer s H vs Q E hr h => ?_)
  · obtain ⟨x, d, rfl, _⟩ := h
    rfl
  · obtain ⟨x, d, rfl, hx, k⟩ := h
    refine ⟨_, pss_one (ps_if (pt_not (pt_val (pe_call KA.ok hr (by rfl) KA.g KA.kp KA.b .nil pass0 (pa_cons (pv 0) pa_nil)))) (pss_one (ps_raise rfl (takes_of rfl rfl rfl rfl) (pmk_own PySem.F.excBase_ValueError B.x B.g B.k (raises_own B.b B.t) rfl))) pss_nil), ?_⟩
    refine ⟨_, rfl, x, d, rfl, hx, fun H1 s1 => ⟨_, rfl, ?_⟩⟩
    rcases k with ⟨e, k⟩ | ⟨e, k⟩
    · rw [e]
      exact iteF (k H1 s1)
    · rw [e]
      exact iteT (k H1 s1)
end
end Own
set_option Elab.async false
set_option linter.all false
set_option maxRecDepth 100000
set_option maxHeartbeats 400000
namespace Own
open PySem PySem.Spec PyProof.Rows L2 LamX
/-! ### drawn steps -/
def stepPy (s : Str × Deed) : PyData := .tuple [.str s.1, s.2.py]
theorem goes_snoc : ∀ (ds : List (Str × Deed)) (kn : List Str) (n : Str) (d : Deed), goesB kn (ds.map stepPy) = true → StepOk (kn ++ ds.map (·.1)) n d.py → goesB kn ((ds ++ [(n, d)]).map stepPy) = true
  | [], kn, n, d, _, h => by
    show goesB kn [.tuple [.str n, d.py]] = true
    rw [goes_good (by simpa using h)]
    rfl
  | (m, e) :: ds, kn, n, d, g, h => by
    have g' : goesB kn (.tuple [.str m, e.py] :: ds.map stepPy) = true := g
    show goesB kn (.tuple [.str m, e.py] :: (ds ++ [(n, d)]).map stepPy) = true
    by_cases q : StepOk kn m e.py
    · rw [goes_good q] at g' ⊢
      refine goes_snoc ds (kn ++ [m]) n d g' ?_
      simpa using h
    · rw [goes_bad (step_no q)] at g'
      cases g'
theorem mem3 {a b c x : Addr} (h1 : x ≠ a) (h2 : x ≠ b) (h3 : x ≠ c) : x ∉ [a, b, c] := by simp [h1, h2, h3]
end Own
set_option Elab.async false
set_option linter.all false
set_option maxRecDepth 100000
set_option maxHeartbeats 400000
namespace Own
open PySem PySem.Spec PyProof.Rows L2 LamX
/-! ### sequels -/
/-- {z: True for z in names} -/
theorem dc_known {J : It} {G : Hp → Prop} {m : Nat} {σ : L2.St} {H1 : Hp} {D : Addr} {Qd : Hp → Prop} {kn : List Str} (w : Walk J (kn.map V.str).length G (YAt (kn.map V.str))) (nd : kn.Nodup) (hD : H1 D = none) (hz : kn.length < sizeLine) (hG : ∀ H', Same H1 H' → G H') (hm : m < σ.length)
    (hd : ∀ H' kvs, Same H1 H' → H' D = some (.dK kvs) → KeysAre kvs kn → Qd H') :
    ∃ W : Nat → Nat → Hp → Prop, (∃ m, W 0 m (L2.upd H1 D (.dK []))) ∧ ∀ i k H, W i k H →
      (J.stop i H ∧ Qd H) ∨ (J.go i H ∧ ∃ Nx : Hp → Prop, (∀ H', Nx H' → ∃ m', m' < k ∧ W (i + 1) m' H') ∧ ∀ x H', J.yld i H x H' → gName m x (wipe σ [m]) H' fun σ2 H2 => wipe σ2 [m] = wipe σ [m] ∧ tYes σ2 H2 fun b H3 =>
        if b = true then tVar m σ2 H3 fun y H4 => tC (.bl true) σ2 H4 fun z H5 => ∃ kvs k, y = kV k ∧ H5 D = some (.dK kvs) ∧ kvs.length < sizeLine ∧ Nx (L2.upd H5 D (.dK (putK kvs k z))) else Nx H3) := by
  refine dc_it w (fun i H => Same H1 H ∧ ∃ kvs, H D = some (.dK kvs) ∧ KeysAre kvs (kn.take i)) ⟨same_upd hD, [], upd_same, rfl⟩ (fun i H _ q => hG H q.1) ?_ ?_
  · rintro i x H H' hi ⟨sH, kvs, e, ky⟩ ⟨rfl, hx⟩
    rw [List.getElem?_map] at hx
    cases ez : kn[i]? with
    | none => rw [ez] at hx; cases hx
    | some z =>
      rw [ez] at hx
      cases hx
      have et := take_snoc ez
      have no : z ∉ kn.take i := fun q => by
        have n2 : (kn.take (i + 1)).Nodup := nd.sublist (List.take_sublist _ _)
        rw [et] at n2
        exact (List.nodup_append.mp n2).2.2 z q z (by simp) rfl
      refine ⟨?_, yes_if ⟨.str z, ?_, kvs, Sum.inr z, rfl, e, ?_, ?_, ?_⟩⟩
      · show ((σ.set m none).set m (some (V.str z))).set m none = σ.set m none
        rw [List.set_set, List.set_set]
      · show ((σ.set m none).set m (some (V.str z)))[m]? = _
        rw [List.getElem?_set_self (by rw [List.length_set]; exact hm)]
      · rw [ky.len, List.length_take]
        exact Nat.lt_of_le_of_lt (Nat.min_le_right _ _) hz
      · exact fun b o hb => by
          have nb : b ≠ D := fun q => by rw [q, hD] at hb; cases hb
          rw [upd_ne nb]
          exact sH _ _ hb
      · refine ⟨_, upd_same, ?_⟩
        rw [et]
        exact ky.put no
  · rintro H ⟨sH, kvs, e, ky⟩
    rw [List.length_map, List.take_length] at ky
    exact hd H kvs sH e ky
theorem map_str_inj : ∀ {a b : List Str}, a.map PyData.str = b.map PyData.str → a = b
  | [], [], _ => rfl
  | [], _ :: _, h => by cases h
  | _ :: _, [], h => by cases h
  | x :: a, y :: b, h => by
    injection h with h1 h2
    injection h1 with h1
    rw [h1, map_str_inj h2]
/-- a list or tuple of names -/
def NamesAt (H : Hp) (y : V) (kn : List Str) : Prop := ∃ b, y = .ref b ∧ (H b = some (.lst (kn.map V.str)) ∨ H b = some (.tup (kn.map V.str)))
theorem NamesAt.same {H H' : Hp} {y : V} {kn : List Str} (h : NamesAt H y kn) (e : Same H H') : NamesAt H' y kn := by
  obtain ⟨b, rfl, h⟩ := h
  exact ⟨b, rfl, h.imp (fun q => e _ _ q) fun q => e _ _ q⟩
theorem names_at {H : Hp} {y : V} {d : PyData} (hy : Dq [] H y d) (wd : wdb d = true) (hn : namesV d = true) : ∃ kn, itemsOf d = some (kn.map PyData.str) ∧ NamesOk kn ∧ kn.length ≤ 1000 ∧ NamesAt H y kn := by
  cases e : isL d || isT d with
  | false =>
    unfold namesV at hn
    rw [no_items e] at hn
    cases hn
  | true =>
    obtain ⟨a, xs, ds, rfl, hi, f2, l, _, hw⟩ := seq_of hy wd e
    unfold namesV at hn
    rw [hi] at hn
    obtain ⟨ns, rfl, ok, _⟩ := namesG_ok hn
    have ex : xs = ns.map V.str := by
      obtain ⟨ys, e1, q⟩ := dq_strs (ns := ns) (ds := []) (by rw [List.append_nil]; exact DqAll.of f2)
      cases q
      rw [e1, List.append_nil]
    subst ex
    rw [List.length_map] at l
    exact ⟨ns, hi, ok, l, a, rfl, hw⟩
def spGoes (NOW : List Str) : Sp := fun vs H Q _ => ∃ (x y : V) (d : PyData) (kn : List Str), vs = [x, y] ∧ DrawIn NOW H x d ∧ NamesAt H y kn ∧ NamesOk kn ∧ kn.length ≤ 1000 ∧ ∀ H', Same H H' → Q (.bl (drawV kn d)) H'
def spSeq (NOW : List Str) (CB : Addr) : Sp := fun vs H Q E => ∃ (x y : V) (d nd : PyData), vs = [x, y] ∧ DrawIn NOW H x d ∧ Dq [] H y nd ∧ wdb nd = true ∧
  ((namesV nd = false ∧ ∀ H', Same H H' → E (.ref CB) none H') ∨ ∃ kn, itemsOf nd = some (kn.map PyData.str) ∧ NamesOk kn ∧ ∀ H', Same H H' → Q (.bl (drawV kn d)) H')
section
variable {NOW : List Str} {P : Program} {w : World} {K : PySem.W.Frag} {mg : Str → Option Value} {base : Heap} {f CB CD : Addr} {fd2 dN dD dM dG : FuncData}
abbrev nsGoes : List Str := ["value", "names", "known", "name", "step"]
theorem scGoes : FnScope nsGoes ["value", "names"] (defScope sGoes) := ⟨rfl, rfl, rfl, by decide +kernel, rfl, by decide +kernel, by decide +kernel⟩
theorem ok_goes (F : FnP K "goes_on" sGoes f fd2) (KN : Fk P w K mg base CX0 1 "is_name" dN ["value"] spName) (KD : Fk P w K mg base CX0 2 "is_deed" dD ["value"] (spDeed NOW))
    (KM : Fk P w K mg base (L2.CX P w) 4 "names_of" dM ["deed"] (spOfDeed NOW CD rNames)) (T : Txt K mg) : FnOk P w K mg base CX0 5 f fd2 ["value", "names"] (spGoes NOW) := by
  refine F.ok scGoes (fun vs H Q E h => ?_) (fun cdv A outer s H vs Q E hr h => ?_)
  · obtain ⟨x, y, d, kn, rfl, _⟩ := h
    rfl
  · obtain ⟨x, ny, d, kn0, rfl, ⟨hx, wd, rdy⟩, hny, okn0, l0, k⟩ := h
    have hu := hu_of hr
    have hr1 := hr.mono (show 1 ≤ 4 by decide)
    have hr2 := hr.mono (show 2 ≤ 4 by decide)
    refine ⟨_, PSs.nox (pss_cons (ps_if (pt_not (pt_val (pe_callB call_isiT (by rfl) T.isi boot_isinstance (pa_cons (pv 0) (pa_cons (pe_tup (pa_cons (pe_bltn (v := .ty "list") (by rfl) T.list (by decide +kernel) rfl) (pa_cons (pe_bltn (v := .ty "tuple") (by rfl) T.tuple (by decide +kernel) rfl) pa_nil))) pa_nil))))) (pss_one (ps_ret pe_bl)) pss_nil)
      (pss_cons (ps_set (i := 2) scGoes.nd rfl (.inr rfl) (pe_dc (own := [("name", 3)]) (g := gName 3) (tt := tYes) (by rfl) scGoes.nd (pi_seqW (pv 1)) (blkOk_by (own := [("name", 3)]) (N := nsGoes) (sc := defScope sGoes) (by decide +kernel))
          (fun _ _ _ _ _ => pg_name (i := 3) scGoes.nd rfl (Or.inl rfl)) (fun _ _ _ _ _ => pts_nil) (fun _ _ _ _ _ => pv 3) (fun _ _ _ _ _ => pe_bl)))
      (pss_cons (ps_for PassesOwn.never rfl (pi_seqW (pv 0)) (pg_name (i := 4) scGoes.nd rfl (Or.inl rfl))
        (pss_cons (ps_if (PW.pt (pw_or (pt_not (pt_val (pe_callB call_isi (by rfl) T.isi boot_isinstance (pa_cons (pv 4) (pa_cons (pe_bltn (v := .ty "tuple") (by rfl) T.tuple (by decide +kernel) rfl) pa_nil)))))
            (pw_or (pt_cmpR op_ne (pe_callB call_len_seq (by rfl) T.len PySem.boot_len (pa_cons (pv 4) pa_nil)) pe_int (nomark _)) (pw_or (pt_not (pt_val (pe_call KN.ok hr1 (by rfl) KN.g KN.kp KN.b .nil pass0 (pa_cons (pe_ix ix_tup (pv 4) pe_int (fun _ _ => rfl)) pa_nil))))
            (pw_or1 (pt_cmp (pc_din hu (pe_ix ix_tup (pv 4) pe_int (fun _ _ => rfl)) (pv 2)))))))) (pss_one (ps_ret pe_bl)) pss_nil)
        (pss_cons (ps_if (PW.pt (pw_or (pt_not (pt_val (pe_call KD.ok hr2 (by rfl) KD.g KD.kp KD.b .nil pass0 (pa_cons (pe_ix ix_tup (pv 4) pe_int (fun _ _ => rfl)) pa_nil))))
            (pw_or1 (pt_cmpR (op_neD hr.units) (pe_lc (own := [("name", 3)]) (g := gName 3) (by rfl) scGoes.nd (pi_tup (pe_call KM.ok hr (by rfl) KM.g KM.kp KM.b .nil passL (pa_cons (pe_ix ix_tup (pv 4) pe_int (fun _ _ => rfl)) pa_nil))) (blkOk_by (own := [("name", 3)]) (N := nsGoes) (sc := defScope sGoes) (by decide +kernel))
              (fun _ _ _ _ _ => pg_name (i := 3) scGoes.nd rfl (Or.inl rfl)) (fun _ _ _ _ _ => pts_one (pt_cmp (pc_dnotin hu (pv 3) (pv 2)))) (fun _ _ _ _ _ => pv 3)) (pe_lst pa_nil) (nomark _))))) (pss_one (ps_ret pe_bl)) pss_nil)
        (pss_one (ps_dput hu (pv 2) (pe_ix ix_tup (pv 4) pe_int (fun _ _ => rfl)) pe_bl rfl)))))
      (pss_one (ps_ret pe_bl))))), ?_⟩
    refine ⟨_, rfl, (by show 2 ≤ sizeLine; decide), fun tp ntp => ?_⟩
    have s0 := same_upd (o := .tup [.ty "list", .ty "tuple"]) ntp
    refine ⟨x, tp, _, .type (tyOf d), [.type "list", .type "tuple"], (isL d || isT d), rfl, upd_same, .cons (.ty _) (.cons (.ty _) .nil), (hx.same s0).ty, ?_, _, rfl, ?_⟩
    · cases eL : isL d with
      | true => exact kitAny_cons (b := true) (kit_ty (eL ▸ kit_list d)) (fun z => by cases z) (fun _ => rfl)
      | false =>
        cases eT : isT d with
        | true => exact kitAny_cons (b := false) (kit_ty (eL ▸ kit_list d)) (fun _ => kitAny_cons (b := true) (kit_ty (eT ▸ kit_tuple d)) (fun z => by cases z) (fun _ => rfl)) (fun z => by cases z)
        | false => exact kitAny_cons (b := false) (kit_ty (eL ▸ kit_list d)) (fun _ => kitAny_cons (b := false) (kit_ty (eT ▸ kit_tuple d)) (fun _ => kitAny_nil) fun z => by cases z) (fun z => by cases z)
    cases eLT : isL d || isT d with
    | false =>
      refine iteT ?_
      have q := k _ s0
      unfold drawV at q
      rw [no_items eLT] at q
      exact q
    | true =>
    refine iteF ?_
    obtain ⟨a, xs, ds, rfl, hitems, hf2, l1000, vds, walkable⟩ := seq_of hx wd eLT
    have rdy := rdy ds hitems
    have edr : drawV kn0 d = goesB kn0 ds := by
      unfold drawV
      rw [hitems]
    rw [edr] at k
    obtain ⟨nb, rfl, hnb⟩ := hny.same s0
    refine ⟨_, rfl, nb, kn0.map V.str, rfl, hnb.imp (fun e => SqL.of e) (fun e => SqT.of e), fun J0 GG0 wk0 hGG0 => fun dk ndk => ?_⟩
    refine dc_known wk0 okn0.nd ndk (Nat.lt_of_le_of_lt l0 (by decide)) (fun H' s' => hGG0 H' fun o e => s' _ _ e) (by show 3 < 5; decide) fun H2 kv0 s2 hdk key0 => ?_
    have sA := s0.trans s2
    have lz : H dk = none := s0.free ndk
    have nad : a ≠ dk := by
      rintro rfl
      rcases walkable with e | e <;> rw [lz] at e <;> cases e
    have hlen := hf2.len
    have fin : ∀ G', Kp [dk] H2 G' → Same H G' := fun G' kg b ob e => kg _ _ (sA _ _ e) (by
      have : b ≠ dk := fun z => by rw [z, lz] at e; cases e
      simp [this])
    have wka : SqL K H2 a xs ∨ SqT K H2 a xs := walkable.imp (fun e => SqL.of (sA _ _ e)) fun e => SqT.of (sA _ _ e)
    refine ⟨_, rfl, a, xs, rfl, wka, fun J GG wk hGG => ?_⟩
    have hG : ∀ G, Kp [dk] H2 G → GG G := fun G kG => hGG G fun o e => kG _ _ e (by simp [nad])
    refine for_it wk (fun i σ G => ∃ v4 kvs kn, σ = [some (.ref a), some (.ref nb), some (.ref dk), none, v4] ∧ Kp [dk] H2 G ∧ G dk = some (.dK kvs) ∧ KeysAre kvs kn ∧ kn.length ≤ 1000 + i ∧ goesB kn (ds.drop i) = goesB kn0 ds)
      ⟨none, _, kn0, rfl, Kp.refl _ _, hdk, key0, by omega, rfl⟩ (fun i σ G _ q => hG G (by obtain ⟨_, _, _, _, kG, _⟩ := q; exact kG)) ?_ ?_
    · rintro i y σ G0 G hi ⟨v4, kvs, kn, rfl, kG, gd, ky, lk, eq⟩ ⟨rfl, hy⟩
      obtain ⟨e, he, hq0⟩ := hf2.at_ hy
      have hq := hq0.same (fin _ kG)
      rw [drop_at he] at eq
      have vde := vds e (List.mem_of_getElem? he)
      have rde := rdy e (List.mem_of_getElem? he)
      have bad : goesB kn0 ds = false → Q (.bl false) G := fun z => by
        have q := k G (fin G kG)
        rw [z] at q
        exact q
      have badAt : stepB kn e = none → goesB kn0 ds = false := fun z => by rw [← eq, goes_bad z]
      refine ⟨_, rfl, y, .ty "tuple", .type (tyOf e), .type "tuple", isT e, rfl, .ty _, hq.ty, kit_ty (kit_tuple e), _, rfl, ?_⟩
      cases eT : isT e with
      | false =>
        refine iteT ?_
        exact bad (badAt (step_notup eT))
      | true =>
      refine iteF ?_
      obtain ⟨b, bs, es, rfl, rfl, hb, hbs⟩ : ∃ b bs es, y = .ref b ∧ e = .tuple es ∧ G b = some (.tup bs) ∧ DqAll [] G bs es := by
        cases hq with
        | tup _ h1 h2 => exact ⟨_, _, _, rfl, rfl, h1, h2⟩
        | non => cases eT
        | bl => cases eT
        | int => cases eT
        | str => cases eT
        | lst => cases eT
        | dict => cases eT
      have sb : SqT K G b bs := SqT.of hb
      have lbs := hbs.f2.len
      refine ⟨_, rfl, b, _, rfl, .inr sb, rfl, _, rfl, ?_⟩
      by_cases l2 : es.length = 2
      rotate_left
      · have e1 : (!decide (V.int ((bs.length : Nat) : Int) = V.int 2)) = true := by
          rw [decide_eq_false (by simp only [V.int.injEq]; omega)]
          rfl
        rw [e1]
        refine iteT ?_
        exact bad (badAt (step_len l2))
      have e1 : (!decide (V.int ((bs.length : Nat) : Int) = V.int 2)) = false := by
        rw [decide_eq_true (by simp only [V.int.injEq]; omega)]
        rfl
      rw [e1]
      refine iteF ?_
      obtain ⟨a1, a2, rfl⟩ : ∃ a1 a2, es = [a1, a2] := by
        match es, l2 with
        | [a1, a2], _ => exact ⟨a1, a2, rfl⟩
      have gde : gdb (.tuple [a1, a2]) = true := vdb_gdb vde rfl
      have g12 := (gdb_tuple gde).2
      have g1 := g12 a1 List.mem_cons_self
      have g2 := g12 a2 (List.mem_cons_of_mem _ List.mem_cons_self)
      have v1 : vdb a1 = true := by unfold vdb; rw [g1, Bool.or_true]
      have v2' : vdb a2 = true := by unfold vdb; rw [g2, Bool.or_true]
      cases hbs with
      | @cons u1 _ _ _ q1 hbs =>
      cases hbs with
      | @cons u2 _ _ _ q2 hbs =>
      cases hbs
      refine ⟨_, rfl, b, _, _, _, rfl, rfl, sb, at_nat (k := 0) rfl, u1, a1, rfl, q1, v1, fun G1 t1 => ⟨_, rfl, ?_⟩⟩
      have sb1 : SqT K G1 b [u1, u2] := seqT t1 sb
      have kG1 := kG.trans (Kp.of t1 (xs := [dk]))
      have bad1 : ∀ {G1 : Hp}, Kp [dk] H2 G1 → goesB kn0 ds = false → Q (.bl false) G1 := fun {G1} kg z => by
        have q := k G1 (fin G1 kg)
        rw [z] at q
        exact q
      cases eN : nameB a1 with
      | false =>
        refine iteT ?_
        exact bad1 kG1 (badAt (step_noname eN))
      | true =>
      refine iteF ?_
      obtain ⟨n, rfl⟩ : ∃ n, a1 = .str n := by
        cases a1 <;> first | exact ⟨_, rfl⟩ | cases eN
      have okn : NameOk n := of_decide_eq_true eN
      cases q1
      have gd1 := t1 _ _ gd
      refine ⟨_, rfl, b, _, _, _, rfl, rfl, sb1, at_nat (k := 0) rfl, _, rfl, dk, _, rfl, DGet.k (k := Sum.inr n) gd1, _, rfl, ?_⟩
      rw [ky.look]
      by_cases hn : n ∈ kn
      · rw [decide_eq_true hn]
        refine iteT ?_
        exact bad1 kG1 (badAt (step_no fun q => q.2.1 hn))
      rw [decide_eq_false hn]
      refine iteF ?_
      have rd2 := rde _ _ rfl
      have q2' := q2.same t1
      refine ⟨_, rfl, b, _, _, _, rfl, rfl, sb1, at_nat (k := 1) rfl, u2, a2, rfl, ⟨q2', v2', rd2⟩, fun G2 t2 => ⟨_, rfl, ?_⟩⟩
      have kG2 := kG1.trans (Kp.of t2 (xs := [dk]))
      cases eD : deedB a2 with
      | false =>
        refine iteT ?_
        refine bad1 kG2 (badAt (step_no fun q => ?_))
        have q3 := q.2.2.1
        rw [eD] at q3
        cases q3
      | true =>
      refine iteF ?_
      obtain ⟨dd, rfl, okd⟩ := deedB_ok eD
      refine ⟨_, rfl, b, _, _, _, rfl, rfl, seqT t2 sb1, at_nat (k := 1) rfl, u2, dd.py, rfl, ⟨q2'.same t2, v2', rd2⟩, .inl ⟨dd, rfl, okd, fun p G3 t3 _ hp => ?_⟩⟩
      have fo : ∀ z ∈ once dd.names, NameOk z := fun z hz => deed_okN okd z ((once_mem _ _).mp hz)
      have lo : ((once dd.names).map V.str).length < sizeLine := by
        rw [List.length_map]
        exact Nat.lt_of_le_of_lt (once_small okd) (by decide)
      have gd3 := t3 _ _ (t2 _ _ gd1)
      refine any_ne (p := fun x => !decide (strV x ∈ kn)) (SqT.of hp) (fok_names fo) lo (by show 3 < 5; decide) (fun x G' hx tG R kR => ?_) fun G4 t4 => ⟨_, rfl, ?_⟩
      · obtain ⟨z, hz, rfl⟩ := List.mem_map.mp hx
        refine ⟨_, rfl, _, rfl, dk, _, rfl, DGet.k (k := Sum.inr z) (tG _ _ gd3), _, rfl, ?_⟩
        rw [ky.look]
        exact kR G' (Same.refl _)
      rw [once_all]
      have t14 := ((t1.trans t2).trans t3).trans t4
      have kG4 := kG.trans (Kp.of t14 (xs := [dk]))
      by_cases ek : ∀ z ∈ dd.names, z ∈ kn
      rotate_left
      · rw [decide_eq_false ek]
        refine iteT ?_
        refine bad1 kG4 (badAt (step_no fun q => ek ?_))
        have := q.2.2.2
        rw [dnames_py okd] at this
        exact this
      rw [decide_eq_true ek]
      refine iteF ?_
      have gd4 := t14 _ _ gd
      have lkv : kvs.length < sizeLine := by
        rw [ky.len]
        have : i < ds.length := (List.getElem?_eq_some_iff.mp he).1
        exact Nat.lt_of_le_of_lt (show kn.length ≤ 2000 by omega) (by decide)
      refine ⟨_, rfl, _, rfl, b, _, _, _, rfl, rfl, seqT t14 sb, at_nat (k := 0) rfl, dk, _, rfl, DPut.k (k := Sum.inr n) gd4 lkv, ?_⟩
      refine ⟨_, _, kn ++ [n], rfl, kG4.trans (Kp.upd (by simp)), upd_same, ky.put hn, ?_, ?_⟩
      · rw [List.length_append, List.length_singleton]
        omega
      · rw [← eq]
        exact (goes_good ⟨okn, hn, eD, by rw [dnames_py okd]; exact ek⟩).symm
    · rintro σ G ⟨v4, kvs, kn, rfl, kG, gd, ky, lk, eq⟩
      rw [hlen, List.drop_length] at eq
      have q := k G (fin G kG)
      rw [← eq] at q
      exact q
theorem scSeq : FnScope ["value", "names"] ["value", "names"] (defScope sSeq) := ⟨rfl, rfl, rfl, by decide +kernel, rfl, by decide +kernel, by decide +kernel⟩
theorem ok_seq (F : FnP K "is_sequel" sSeq f fd2) (KN : Fk P w K mg base (L2.CX P w) 3 "need_names" dN ["names"] (spNeedN CB)) (KG : Fk P w K mg base CX0 5 "goes_on" dG ["value", "names"] (spGoes NOW)) : FnOk P w K mg base (L2.CX P w) 6 f fd2 ["value", "names"] (spSeq NOW CB) := by
  refine F.ok scSeq (fun vs H Q E h => ?_) (fun cdv A outer s H vs Q E hr h => ?_)
  · obtain ⟨x, y, d, nd, rfl, _⟩ := h
    rfl
  · obtain ⟨x, y, d, nd, rfl, hx, hy, wy, k⟩ := h
    have hr3 := hr.mono (show 3 ≤ 5 by decide)
    refine ⟨_, pss_cons (ps_expr (pe_call KN.ok hr3 (by rfl) KN.g KN.kp KN.b .nil (passes_call (takes_of rfl rfl rfl rfl) fun _ _ _ _ h => h) (pa_cons (pv 1) pa_nil)))
      (PSs.nox (pss_one (ps_ret (pe_call KG.ok hr (by rfl) KG.g KG.kp KG.b .nil pass0 (pa_cons (pv 0) (pa_cons (pv 1) pa_nil)))))), ?_⟩
    rcases k with ⟨eN, k⟩ | ⟨kn, hk, ok, k⟩
    · exact ⟨_, rfl, y, nd, rfl, hy, wy, .inr ⟨eN, k⟩⟩
    have eN : namesV nd = true := by
      unfold namesV
      rw [hk]
      exact namesG_of ok fun _ _ h => by cases h
    refine ⟨_, rfl, y, nd, rfl, hy, wy, .inl ⟨eN, fun H1 s1 => ?_⟩⟩
    obtain ⟨kn2, hk2, ok2, l2, at2⟩ := names_at hy wy eN
    have ek : kn2 = kn := by
      have e : kn2.map PyData.str = kn.map PyData.str := Option.some.inj (hk2.symm.trans hk)
      exact map_str_inj e
    subst ek
    exact ⟨_, rfl, _, rfl, x, y, d, kn2, rfl, hx.same s1, at2.same s1, ok2, l2, fun H2 s2 => k H2 (s1.trans s2)⟩
end
end Own
set_option Elab.async false
set_option linter.all false
set_option maxRecDepth 100000
set_option maxHeartbeats 400000
namespace Own
open PySem PySem.Spec PyProof.Rows L2 LamX
/-! ### chests of drawings -/
def TOOLS : List Str := "compass" :: "corner" :: "disc" :: "dividers" :: "gauge" :: "halver" :: "rims" :: "square" :: "strip" :: []
def chestOf (sts : List (Str × Deed)) : List Str := TOOLS.filter fun t => decide (t ∈ sts.map fun s => toolS s.2.word)
/-- a dict whose keys are S -/
def KeysIn (kvs : List (Key × V)) (S : List Str) : Prop := ∀ z : Str, (valV kvs (Sum.inr z)).isSome = decide (z ∈ S)
theorem KeysIn.put {kvs : List (Key × V)} {S : List Str} (h : KeysIn kvs S) (t : Str) (v : V) : KeysIn (putK kvs (Sum.inr t) v) (S ++ [t]) := fun z => by
  rw [valV_put]
  by_cases e : z = t
  · subst e
    rw [if_pos rfl]
    simp
  · rw [if_neg (fun q => e (by injection q)), h z, Bool.eq_iff_iff, decide_eq_true_iff, decide_eq_true_iff]
    simp [e]
theorem KeysAre.in_ {kvs : List (Key × V)} {S : List Str} (h : KeysAre kvs S) : KeysIn kvs S := h.look
theorem KeysIn.sub {kvs : List (Key × V)} {S S' : List Str} (h : KeysIn kvs S) (e : ∀ z, z ∈ S ↔ z ∈ S') : KeysIn kvs S' := fun z => by
  rw [h z, Bool.eq_iff_iff, decide_eq_true_iff, decide_eq_true_iff]
  exact e z
theorem dq_stepA {N : List Addr} {H : Hp} {x : V} {s : Str × Deed} (h : Dq N H x (stepPy s)) : ∃ b p, x = .ref b ∧ b ∉ N ∧ H b = some (.tup [.str s.1, .ref p]) ∧ p ∉ N ∧ H p = some (.tup s.2.vs) := by
  cases h with
  | tup n e q =>
    cases q with
    | cons q1 q =>
      cases q with
      | cons q2 q =>
        cases q
        cases q1
        obtain ⟨p, rfl, np, hp⟩ := q2.deed
        exact ⟨_, p, rfl, n, e, np, hp⟩
/-- a right drawing -/
structure DrawOk (NOW : List Str) (H : Hp) (x : V) (sts : List (Str × Deed)) (d : PyData) : Prop where
  i : DrawIn NOW H x d
  items : itemsOf d = some (sts.map stepPy)
  goes : goesB SHEET (sts.map stepPy) = true
  ok : ∀ s ∈ sts, DeedOk s.2
theorem DrawOk.v {NOW : List Str} {H : Hp} {x : V} {sts : List (Str × Deed)} {d : PyData} (h : DrawOk NOW H x sts d) : drawV SHEET d = true := by
  unfold drawV
  rw [h.items]
  exact h.goes
theorem DrawOk.same {NOW : List Str} {H H' : Hp} {x : V} {sts : List (Str × Deed)} {d : PyData} (h : DrawOk NOW H x sts d) (e : Same H H') : DrawOk NOW H' x sts d := ⟨h.i.same e, h.items, h.goes, h.ok⟩
theorem DrawOk.at_ {NOW : List Str} {H : Hp} {x : V} {sts : List (Str × Deed)} {d : PyData} (h : DrawOk NOW H x sts d) : ∃ a ws, x = .ref a ∧ (H a = some (.lst ws) ∨ H a = some (.tup ws)) ∧ F2 (Dq [] H) ws (sts.map stepPy) ∧ sts.length ≤ 1000 := by
  have e : (isL d || isT d) = true := by
    cases d <;> first | rfl | (have := h.items; cases this)
  obtain ⟨a, xs, ds, rfl, hi, f2, l, _, hw⟩ := seq_of h.i.1 h.i.2.1 e
  have : ds = sts.map stepPy := Option.some.inj (hi.symm.trans h.items)
  subst this
  rw [List.length_map] at l
  exact ⟨a, xs, rfl, hw, f2, l⟩
theorem deed_rd {NOW : List Str} {H : Hp} {d : PyData} {x : V} {sts : List (Str × Deed)} (h : DrawOk NOW H x sts d) {s : Str × Deed} (hs : s ∈ sts) : Ready NOW s.2.py ∧ vdb s.2.py = true := by
  have m : stepPy s ∈ sts.map stepPy := List.mem_map.mpr ⟨s, hs, rfl⟩
  refine ⟨h.i.2.2 _ h.items (stepPy s) m _ _ rfl, ?_⟩
  have w := h.i.2.1
  have q : ∀ e ∈ sts.map stepPy, vdb e = true := by
    cases d with
    | list ds =>
      have e : ds = sts.map stepPy := by injection h.items
      subst e
      have h2 : (decide (_ ≤ 1000) && _) = true := w
      rw [Bool.and_eq_true, List.all_eq_true] at h2
      exact h2.2
    | tuple ds =>
      have e : ds = sts.map stepPy := by injection h.items
      subst e
      have h2 : (decide (_ ≤ 1000) && _) = true := w
      rw [Bool.and_eq_true, List.all_eq_true] at h2
      exact h2.2
    | _ => have := h.items; cases this
  have g : gdb (.tuple [.str s.1, s.2.py]) = true := vdb_gdb (q _ m) rfl
  have := (gdb_tuple g).2 s.2.py (by simp)
  unfold vdb
  rw [this, Bool.or_true]
def spChest (NOW : List Str) : Sp := fun vs H Q _ => ∃ (x : V) (d : PyData) (sts : List (Str × Deed)), vs = [x] ∧ DrawOk NOW H x sts d ∧ ∀ p H', Same H H' → H p = none → H' p = some (.tup ((chestOf sts).map V.str)) → Q (.ref p) H'
section
variable {NOW : List Str} {P : Program} {w : World} {K : PySem.W.Frag} {mg : Str → Option Value} {base : Heap} {f CB CD pT : Addr} {fd2 dN dT : FuncData}
abbrev nsChest : List Str := ["steps", "used", "name", "deed", "tool"]
theorem scChest : FnScope nsChest ["steps"] (defScope sChest) := ⟨rfl, rfl, rfl, by decide +kernel, rfl, by decide +kernel, by decide +kernel⟩
theorem ok_chest (F : FnP K "chest_of" sChest f fd2) (KN : Fk P w K mg base (L2.CX P w) 7 "need_drawing" dN ["steps"] (spNeedDr NOW CB)) (KT : Fk P w K mg base (L2.CX P w) 4 "tool_of" dT ["deed"] (spOfDeed NOW CD rTool)) (T : Txt K mg)
    (gT : mg "TOOLS" = some (.ref pT)) (hT : ∀ H, SqT K H pT (TOOLS.map V.str)) : FnOk P w K mg base CX0 8 f fd2 ["steps"] (spChest NOW) := by
  refine F.ok scChest (fun vs H Q E h => ?_) (fun cdv A outer s H vs Q E hr h => ?_)
  · obtain ⟨x, d, sts, rfl, _⟩ := h
    rfl
  · obtain ⟨x, d, sts, rfl, hd, k⟩ := h
    have hu := hu_of hr
    have hr4 := hr.mono (show 4 ≤ 7 by decide)
    refine ⟨_, PSs.nox (pss_cons (ps_expr (pe_call KN.ok hr (by rfl) KN.g KN.kp KN.b .nil passL (pa_cons (pv 0) pa_nil)))
      (pss_cons (ps_set (i := 1) scChest.nd rfl (.inr rfl) (pe_dc (own := [("name", 2), ("deed", 3)]) (g := gTup K 2 (gCons (gName 2) (gCons (gName 3) gNil))) (tt := tYes) (by rfl) scChest.nd (pi_seqW (pv 0)) (blkOk_by (own := [("name", 2), ("deed", 3)]) (N := nsChest) (sc := defScope sChest) (by decide +kernel))
          (fun _ _ _ _ _ => pg_tup rfl (pgs_cons (pg_name (i := 2) scChest.nd rfl (.inl rfl)) (pgs_cons (pg_name (i := 3) scChest.nd rfl (.inl rfl)) pgs_nil))) (fun _ _ _ _ _ => pts_nil) (fun _ _ _ _ _ => pe_call KT.ok hr4 (by rfl) KT.g KT.kp KT.b .nil passL (pa_cons (pv 3) pa_nil)) (fun _ _ _ _ _ => pe_bl)))
      (pss_one (ps_ret (pe_tupleOf (by rfl) T.tuple (pe_lc (own := [("tool", 4)]) (g := gName 4) (by rfl) scChest.nd (pi_tup (pe_glob (v := .ref pT) (by rfl) gT rfl)) (blkOk_by (own := [("tool", 4)]) (N := nsChest) (sc := defScope sChest) (by decide +kernel))
          (fun _ _ _ _ _ => pg_name (i := 4) scChest.nd rfl (Or.inl rfl)) (fun _ _ _ _ _ => pts_one (pt_cmp (pc_din hu (pv 4) (pv 1)))) (fun _ _ _ _ _ => pv 4))))))), ?_⟩
    refine ⟨_, rfl, x, d, rfl, hd.i, .inl ⟨hd.v, fun H1 s1 => ?_⟩⟩
    obtain ⟨a, ws, rfl, hw, f2, l1000⟩ := (hd.same s1).at_
    refine ⟨_, rfl, a, ws, rfl, hw.imp (fun e => SqL.of e) (fun e => SqT.of e), fun J GG wk hGG => fun D nD => ?_⟩
    have len := f2.len
    rw [List.length_map] at len
    refine dc_it wk (fun i H => Same H1 H ∧ ∃ kvs, H D = some (.dK kvs) ∧ kvs.length ≤ i ∧ KeysIn kvs ((sts.take i).map fun s => toolS s.2.word)) ⟨same_upd nD, [], upd_same, Nat.le_refl _, fun z => rfl⟩ (fun i H _ q => hGG H fun o e => q.1 _ _ e) ?_ ?_
    · rintro i y G G' hi ⟨sG, kvs, eD, lk, ky⟩ ⟨rfl, hy⟩
      obtain ⟨e, he, hq0⟩ := f2.at_ hy
      rw [List.getElem?_map] at he
      cases ez : sts[i]? with
      | none => rw [ez] at he; cases he
      | some st =>
        rw [ez] at he
        cases he
        obtain ⟨b, p, rfl, _, hb, _, hp⟩ := dq_stepA (hq0.same sG)
        have ms := List.mem_of_getElem? ez
        refine ⟨b, _, rfl, SqT.of hb, rfl, _, _, rfl, _, _, rfl, rfl, ?_, yes_if ?_⟩
        · rfl
        obtain ⟨rd, vd⟩ := deed_rd hd ms
        refine ⟨_, rfl, _, _, rfl, ⟨Dq.of_deed (by simp) hp, vd, rd⟩, .inl ⟨st.2, rfl, hd.ok st ms, fun G2 s2 => ⟨kvs, Sum.inr (toolS st.2.word), rfl, s2 _ _ eD, ?_, ?_, ?_⟩⟩⟩
        · have : i < sts.length := (List.getElem?_eq_some_iff.mp ez).1
          exact Nat.lt_of_le_of_lt (show kvs.length ≤ 1000 by omega) (by decide)
        · exact fun b o hb => by
            have nb : b ≠ D := fun q => by rw [q, nD] at hb; cases hb
            rw [upd_ne nb]
            exact s2 _ _ (sG _ _ hb)
        · refine ⟨_, upd_same, Nat.le_trans (length_putK _ _ _) (by omega), ?_⟩
          rw [take_snoc ez, List.map_append]
          exact ky.put _ _
    · rintro G ⟨sG, kvs, eD, lk, ky⟩
      rw [len, List.take_length] at ky
      refine ⟨pT, rfl, ⟨_, hT G⟩, fun D2 nD2 => ?_⟩
      refine lc_filt (p := fun x => decide (strV x ∈ sts.map fun s => toolS s.2.word)) walk_tup nD2 (by decide) (fun H' _ => hT H') (by show 4 < 5; decide) (fun x H' hx sH R kR => ?_) fun H' sH eD2 => ?_
      · obtain ⟨z, hz, rfl⟩ := List.mem_map.mp hx
        refine ⟨_, rfl, _, rfl, D, _, rfl, DGet.k (k := Sum.inr z) (sH _ _ eD), _, rfl, ?_⟩
        rw [ky z]
        exact kR H' (Same.refl _)
      · refine .inl ⟨D2, _, rfl, SqL.of eD2, fun p np => ?_⟩
        have sA := (s1.trans sG).trans sH
        refine k p _ (sA.trans (same_upd np)) (sA.free np) ?_
        rw [upd_same, List.filter_map]
        rfl
end
end Own
set_option Elab.async false
set_option linter.all false
set_option maxRecDepth 100000
set_option maxHeartbeats 400000
namespace Own
open PySem PySem.Spec PyProof.Rows L2 LamX
/-! ### what some names need -/
def pickR : List (Str × Deed) → List Str → List (Str × Deed)
  | [], _ => []
  | s :: r, W => if s.1 ∈ W then s :: pickR r (W ++ s.2.names) else pickR r W
def needL (sts : List (Str × Deed)) (ns : List Str) : List (Str × Deed) := (pickR sts.reverse ns).reverse
theorem pickR_yes {s : Str × Deed} {r : List (Str × Deed)} {W : List Str} (h : s.1 ∈ W) : pickR (s :: r) W = s :: pickR r (W ++ s.2.names) := if_pos h
theorem pickR_no {s : Str × Deed} {r : List (Str × Deed)} {W : List Str} (h : s.1 ∉ W) : pickR (s :: r) W = pickR r W := if_neg h
theorem pickR_ext : ∀ {r : List (Str × Deed)} {W W' : List Str}, (∀ z, z ∈ W ↔ z ∈ W') → pickR r W = pickR r W'
  | [], _, _, _ => rfl
  | s :: r, W, W', h => by
    by_cases q : s.1 ∈ W
    · rw [pickR_yes q, pickR_yes ((h _).mp q), pickR_ext (W' := W' ++ s.2.names) fun z => by rw [List.mem_append, List.mem_append, h z]]
    · rw [pickR_no q, pickR_no (fun z => q ((h _).mpr z)), pickR_ext h]
theorem F2.rev {α β : Type} {R : α → β → Prop} : ∀ {as : List α} {bs : List β}, F2 R as bs → F2 R as.reverse bs.reverse
  | _, _, .nil => .nil
  | _, _, .cons h t => by
    rw [List.reverse_cons, List.reverse_cons]
    exact (F2.rev t).snoc h
theorem find_stepF {α : Type} {p : α → Bool} {l : List α} {i : Nat} {x y : α} (no : ∀ y ∈ l.take i, p y = false) (hx : l[i]? = some x) (hp : p x = true) (hf : l.find? p = some y) : x = y := by
  have e : l = l.take i ++ x :: l.drop (i + 1) := by
    obtain ⟨hlt, hg⟩ := List.getElem?_eq_some_iff.mp hx
    rw [← hg, List.getElem_cons_drop, List.take_append_drop]
  rw [e, List.find?_append, List.find?_eq_none.mpr (fun y hy => by rw [no y hy]; exact Bool.false_ne_true), Option.none_or, List.find?_cons_of_pos hp] at hf
  exact Option.some.inj hf
def spNeeded (NOW : List Str) (CB CN CS : Addr) : Sp := fun vs H Q E => ∃ (x y : V) (d : PyData), vs = [x, y] ∧ DrawIn NOW H x d ∧ ((drawV SHEET d = false ∧ ∀ H', Same H H' → E (.ref CB) none H') ∨ ∃ (sts : List (Str × Deed)) (nd : PyData), DrawOk NOW H x sts d ∧ Dq [] H y nd ∧ wdb nd = true ∧
  ((namesV nd = false ∧ ∀ H', Same H H' → E (.ref CN) none H') ∨ ∃ ns : List Str, itemsOf nd = some (ns.map PyData.str) ∧ NamesOk ns ∧
    ((∃ z, ns.find? (fun z => !decide (z ∈ sts.map (·.1) ++ SHEET)) = some z ∧ ∀ o H', Same H H' → H' o = some (.xd [("name", .str z)]) → E (.ref CS) (some o) H') ∨
      ((∀ z ∈ ns, z ∈ sts.map (·.1) ++ SHEET) ∧ ∀ p ws H', Same H H' → H p = none → H' p = some (.lst ws) → F2 (Dq [] H') ws ((needL sts ns).map stepPy) → Q (.ref p) H'))))
section
variable {NOW : List Str} {P : Program} {w : World} {K : PySem.W.Frag} {mg : Str → Option Value} {base : Heap} {f CB CN CS CD CNum fI : Addr} {fd2 dD dN dS dM : FuncData}
abbrev nsNeeded : List Str := ["steps", "names", "own", "name", "deed", "wanted", "found", "other"]
theorem scNeeded : FnScope nsNeeded ["steps", "names"] (defScope sNeeded) := ⟨rfl, rfl, rfl, by decide +kernel, rfl, by decide +kernel, by decide +kernel⟩
theorem ok_needed (F : FnP K "needed" sNeeded f fd2) (KD : Fk P w K mg base (L2.CX P w) 7 "need_drawing" dD ["steps"] (spNeedDr NOW CB)) (KN : Fk P w K mg base (L2.CX P w) 3 "need_names" dN ["names"] (spNeedN CN)) (KS : Fk P w K mg base CX0 5 "sheet" dS [] (spSheet CNum))
    (KM : Fk P w K mg base (L2.CX P w) 4 "names_of" dM ["deed"] (spOfDeed NOW CD rNames)) (S : SupX.Has P K mg tNN CS fI) (T : Txt K mg) : FnOk P w K mg base (L2.CX P w) 8 f fd2 ["steps", "names"] (spNeeded NOW CB CN CS) := by
  refine F.ok scNeeded (fun vs H Q E h => ?_) (fun cdv A outer s H vs Q E hr h => ?_)
  · obtain ⟨x, y, d, rfl, _⟩ := h
    rfl
  · obtain ⟨x, y, d, rfl, hx, k⟩ := h
    have hu := hu_of hr
    have hr3 := hr.mono (show 3 ≤ 7 by decide)
    have hr4 := hr.mono (show 4 ≤ 7 by decide)
    have hr5 := hr.mono (show 5 ≤ 7 by decide)
    refine ⟨_, pss_cons (ps_expr (pe_call KD.ok hr (by rfl) KD.g KD.kp KD.b .nil (passes_call (takes_of rfl rfl rfl rfl) fun _ _ _ _ h => h) (pa_cons (pv 0) pa_nil)))
      (pss_cons (ps_expr (pe_call KN.ok hr3 (by rfl) KN.g KN.kp KN.b .nil (passes_call (takes_of rfl rfl rfl rfl) fun _ _ _ _ h => h) (pa_cons (pv 1) pa_nil)))
      (pss_cons (ps_setDc (n := 2) (own := [("name", 3), ("deed", 4)]) (gg := gTup K 2 (gCons (gName 3) (gCons (gName 4) gNil))) (tc := tYes) (by rfl) scNeeded.nd rfl rfl (sw_trueD rfl rfl rfl (by decide +kernel)) (pi_seqW (pv 0)) (blkOk_by (own := [("name", 3), ("deed", 4)]) (N := nsNeeded) (sc := defScope sNeeded) (by decide +kernel))
          (fun _ _ _ _ _ => pg_tup rfl (pgs_cons (pg_name (i := 3) scNeeded.nd rfl (.inl rfl)) (pgs_cons (pg_name (i := 4) scNeeded.nd rfl (.inl rfl)) pgs_nil))) (fun _ _ _ _ _ => pts_nil) (fun _ _ _ _ _ => pv 3) (fun _ _ _ _ _ => pe_bl))
      (pss_cons (ps_for (passes_of rfl) rfl (pi_seqW (pv 1)) (pg_name (i := 3) scNeeded.nd rfl (Or.inl rfl))
        (pss_one (ps_if (PW.pt (pw_and (pt_cmp (pc_dnotin hu (pv 3) (pv 2))) (pw_and1 (pt_cmp (pc_dnotin hu (pv 3) (pe_call0 KS.ok hr5 (by rfl) KS.g KS.kp KS.b .nil pass0)))))) (pss_one (ps_raise rfl (takes_of rfl rfl rfl rfl) (pmk_sup (t := tNN) (C := CS) S hr (pa_cons (pv 3) pa_nil) (by rfl) (by decide +kernel)))) pss_nil)))
      (PSs.nox (pss_cons (ps_par (i := 5) (j := 6) (by rfl) scNeeded.nd rfl rfl (by decide) rfl rfl (pa_cons (pe_dc (own := [("name", 3)]) (g := gName 3) (tt := tYes) (by rfl) scNeeded.nd (pi_seqW (pv 1)) (blkOk_by (own := [("name", 3)]) (N := nsNeeded) (sc := defScope sNeeded) (by decide +kernel))
          (fun _ _ _ _ _ => pg_name (i := 3) scNeeded.nd rfl (Or.inl rfl)) (fun _ _ _ _ _ => pts_nil) (fun _ _ _ _ _ => pv 3) (fun _ _ _ _ _ => pe_bl)) (pa_cons (pe_lst pa_nil) pa_nil)) (by rfl))
      (pss_cons (ps_for PassesOwn.never rfl (RT.pi_revA (by rfl) T.reversed (pe_callTy call_list_of (by rfl) T.list (by decide +kernel) (pa_cons (pv 0) pa_nil))) (pg_tup rfl (pgs_cons (pg_name (i := 3) scNeeded.nd rfl (.inl rfl)) (pgs_cons (pg_name (i := 4) scNeeded.nd rfl (.inl rfl)) pgs_nil)))
        (pss_one (ps_if (pt_cmp (pc_din hu (pv 3) (pv 5))) (pss_cons (ps_expr (pe_bm PySem.F.plainAttrs_list PySem.F.slot_list_append PySem.F.type_list_append mt_append (pv 6) (pa_cons (pe_tup (pa_cons (pv 3) (pa_cons (pv 4) pa_nil))) pa_nil)))
          (pss_one (ps_for PassesOwn.never rfl (pi_tup (pe_call KM.ok hr4 (by rfl) KM.g KM.kp KM.b .nil passL (pa_cons (pv 4) pa_nil))) (pg_name (i := 7) scNeeded.nd rfl (Or.inl rfl)) (pss_one (ps_dput hu (pv 5) (pv 7) pe_bl rfl))))) pss_nil)))
      (pss_one (ps_ret (pe_revL (pv 6)))))))))), ?_⟩
    rcases k with ⟨eD, k⟩ | ⟨sts, nd, hd, hy, wy, k⟩
    · exact ⟨_, rfl, x, d, rfl, hx, .inr ⟨eD, k⟩⟩
    refine ⟨_, rfl, x, d, rfl, hx, .inl ⟨hd.v, fun H1 s1 => ?_⟩⟩
    rcases k with ⟨eN, k⟩ | ⟨ns, hns, okn, k⟩
    · exact ⟨_, rfl, y, nd, rfl, hy.same s1, wy, .inr ⟨eN, fun H2 s2 => k H2 (s1.trans s2)⟩⟩
    have eN : namesV nd = true := by
      unfold namesV
      rw [hns]
      exact namesG_of okn fun _ _ h => by cases h
    refine ⟨_, rfl, y, nd, rfl, hy.same s1, wy, .inl ⟨eN, fun H2 s2 => ?_⟩⟩
    have s02 := s1.trans s2
    obtain ⟨kn2, hk2, _, ln, atn⟩ := names_at (hy.same s02) wy eN
    have ek : kn2 = ns := map_str_inj (Option.some.inj (hk2.symm.trans hns))
    subst ek
    obtain ⟨nb, rfl, hnb⟩ := atn
    obtain ⟨a, ws, rfl, hw, f2, l1000⟩ := (hd.same s02).at_
    have len := f2.len
    rw [List.length_map] at len
    refine ⟨_, rfl, a, ws, rfl, hw.imp (fun e => SqL.of e) (fun e => SqT.of e), fun J0 GG0 wk0 hGG0 => fun D nD => ?_⟩
    refine dc_it wk0 (fun i H => Same H2 H ∧ ∃ kvs, H D = some (.dK kvs) ∧ kvs.length ≤ i ∧ KeysIn kvs ((sts.take i).map (·.1))) ⟨same_upd nD, [], upd_same, Nat.le_refl _, fun z => rfl⟩ (fun i H _ q => hGG0 H fun o e => q.1 _ _ e) ?_ ?_
    · rintro i v G G' hi ⟨sG, kvs, eD, lk, ky⟩ ⟨rfl, hv⟩
      obtain ⟨e, he, hq0⟩ := f2.at_ hv
      rw [List.getElem?_map] at he
      cases ez : sts[i]? with
      | none => rw [ez] at he; cases he
      | some st =>
        rw [ez] at he
        cases he
        obtain ⟨b, p, rfl, _, hb, _, hp⟩ := dq_stepA (hq0.same sG)
        refine ⟨b, _, rfl, SqT.of hb, rfl, _, _, rfl, _, _, rfl, rfl, ?_, yes_if ⟨_, rfl, kvs, Sum.inr st.1, rfl, eD, ?_, ?_, ?_⟩⟩
        · rfl
        · have : i < sts.length := (List.getElem?_eq_some_iff.mp ez).1
          exact Nat.lt_of_le_of_lt (show kvs.length ≤ 1000 by omega) (by decide)
        · exact fun b o hb => by
            have nb : b ≠ D := fun q => by rw [q, nD] at hb; cases hb
            rw [upd_ne nb]
            exact sG _ _ hb
        · refine ⟨_, upd_same, Nat.le_trans (length_putK _ _ _) (by omega), ?_⟩
          rw [take_snoc ez, List.map_append]
          exact ky.put _ _
    rintro H3 ⟨s3, kvO, eDO, _, kyO⟩
    rw [len, List.take_length] at kyO
    have s03 := s02.trans s3
    have hnb3 : SqL K H3 nb (kn2.map V.str) ∨ SqT K H3 nb (kn2.map V.str) := hnb.imp (fun e => SqL.of (s3 _ _ e)) fun e => SqT.of (s3 _ _ e)
    have hnbS : ∀ {G : Hp}, Same H3 G → SqL K G nb (kn2.map V.str) ∨ SqT K G nb (kn2.map V.str) := fun {G} sG => hnb.imp (fun e => SqL.of (sG _ _ (s3 _ _ e))) fun e => SqT.of (sG _ _ (s3 _ _ e))
    refine ⟨_, rfl, nb, kn2.map V.str, rfl, hnb3, fun J1 GG1 wk1 hGG1 => ?_⟩
    have inB : ∀ z : Str, (!decide (z ∈ sts.map (·.1) ++ SHEET)) = (!decide (z ∈ sts.map (·.1)) && !decide (z ∈ SHEET)) := fun z => by
      rw [Bool.eq_iff_iff, Bool.and_eq_true, Bool.not_eq_true', Bool.not_eq_true', Bool.not_eq_true', decide_eq_false_iff_not, decide_eq_false_iff_not, decide_eq_false_iff_not, List.mem_append, not_or]
    refine for_it wk1 (fun i σ G => ∃ v3, σ = [some (.ref a), some (.ref nb), some (.ref D), v3, none, none, none, none] ∧ Same H3 G ∧ ∀ z ∈ kn2.take i, (!decide (z ∈ sts.map (·.1) ++ SHEET)) = false)
      ⟨none, rfl, Same.refl _, fun z hz => by cases hz⟩ (fun i σ G _ q => hGG1 G (by obtain ⟨_, _, sG, _⟩ := q; exact fun o e => sG _ _ e)) ?_ ?_
    · rintro i v σ G0 G hi ⟨v3, rfl, sG, no⟩ ⟨rfl, hv⟩
      rw [List.getElem?_map] at hv
      cases ez : kn2[i]? with
      | none => rw [ez] at hv; cases hv
      | some u =>
        rw [ez] at hv
        cases hv
        have more : (!decide (u ∈ sts.map (·.1) ++ SHEET)) = false → ∀ z ∈ kn2.take (i + 1), (!decide (z ∈ sts.map (·.1) ++ SHEET)) = false := fun e z hz => by
          rw [take_snoc ez] at hz
          rcases List.mem_append.mp hz with hz | hz
          · exact no z hz
          · rw [List.mem_singleton.mp hz]
            exact e
        refine ⟨_, rfl, _, rfl, D, _, rfl, DGet.k (k := Sum.inr u) (sG _ _ eDO), _, rfl, ?_⟩
        rw [kyO u]
        have eB := inB u
        cases e1 : !decide (u ∈ sts.map (·.1)) with
        | false =>
          refine iteF ?_
          rw [e1, Bool.false_and] at eB
          exact ⟨_, rfl, sG, more eB⟩
        | true =>
        refine iteT ?_
        refine ⟨_, rfl, rfl, fun d0 wv G1 t1 nd0 hw5 hd0 _ => ⟨d0, _, rfl, DGet.k (k := Sum.inr u) hd0, _, rfl, ?_⟩⟩
        have key0 : KeysAre ((SHEET.map (Sum.inr : Str → Key)).zip wv) SHEET := by
          unfold KeysAre
          rw [List.map_fst_zip (by rw [List.length_map, hw5]; decide)]
        rw [key0.look]
        rw [e1, Bool.true_and] at eB
        cases e2 : !decide (u ∈ SHEET) with
        | false =>
          refine iteF ?_
          rw [e2] at eB
          exact ⟨_, rfl, sG.trans t1, more eB⟩
        | true =>
        refine iteT ?_
        rw [e2] at eB
        rcases k with ⟨z, fz, k⟩ | ⟨all, _⟩
        · have : u = z := find_stepF no ez eB fz
          subst this
          refine ⟨_, rfl, _, rfl, fun o no' => ?_⟩
          exact k o _ (((s03.trans sG).trans t1).trans (Same.upd no')) upd_same
        · have := all u (List.mem_of_getElem? ez)
          rw [decide_eq_true this] at eB
          cases eB
    · rintro σ G ⟨v3, rfl, sG, no⟩
      rw [List.length_map, List.take_length] at no
      rcases k with ⟨z, fz, k⟩ | ⟨all, k⟩
      · rw [(List.find?_eq_none (p := fun z => !decide (z ∈ sts.map (·.1) ++ SHEET))).mpr (fun y hy => by rw [no y hy]; exact Bool.false_ne_true)] at fz
        cases fz
      refine ⟨_, rfl, nb, kn2.map V.str, rfl, hnbS sG, fun J2 GG2 wk2 hGG2 => fun dw ndw => ?_⟩
      have okn2 := okn
      refine dc_known wk2 okn2.nd ndw (Nat.lt_of_le_of_lt ln (by decide)) (fun H' s' => hGG2 H' fun o e => s' _ _ e) (by show 3 < 8; decide) fun H5 kv0 s5 hdw key0 => ?_
      refine ⟨(by show 0 ≤ sizeLine; decide), fun lf nlf => ⟨_, _, rfl, ?_⟩⟩
      have s6 := same_upd (o := .lst []) nlf
      have hlf := upd_same (H := H5) (a := lf) (o := .lst [])
      have hdw6 := s6 _ _ hdw
      have ndwlf : dw ≠ lf := ne_of_none hdw nlf
      have lzw : H dw = none := (s03.trans sG).free ndw
      have lzf : H lf = none := ((s03.trans sG).trans s5).free nlf
      have sA := ((s03.trans sG).trans s5).trans s6
      have sW : Same H2 (L2.upd H5 lf (.lst [])) := ((s3.trans sG).trans s5).trans s6
      generalize L2.upd H5 lf (.lst []) = H6 at hlf hdw6 sA sW
      have hw6 : SqL K H6 a ws ∨ SqT K H6 a ws := hw.imp (fun e => SqL.of (sW _ _ e)) fun e => SqT.of (sW _ _ e)
      have f26 : F2 (Dq [] H6) ws (sts.map stepPy) := f2.mono fun _ _ q => q.same sW
      refine ⟨_, rfl, a, ws, rfl, hw6, fun L nL => ⟨L, ws, rfl, .inl ⟨SqL.of upd_same, ?_⟩⟩⟩
      have s7 := same_upd (o := .lst ws) nL
      have hL := upd_same (H := H6) (a := L) (o := .lst ws)
      have nLw : L ≠ dw := fun q => by rw [q, hdw6] at nL; cases nL
      have nLf : L ≠ lf := fun q => by rw [q, hlf] at nL; cases nL
      have f27 := f26.mono fun _ _ q => q.same s7
      have hdw7 := s7 _ _ hdw6
      have hlf7 := s7 _ _ hlf
      have s07 := sA.trans s7
      generalize L2.upd H6 L (.lst ws) = H7 at hL f27 hdw7 hlf7 s07
      have base : ∀ {G : Hp}, Kp [dw, lf] H7 G → Same H G := fun {G} kg b o e => kg _ _ (s07 _ _ e) (by
        have q1 : b ≠ dw := fun z => by rw [z, lzw] at e; cases e
        have q2 : b ≠ lf := fun z => by rw [z, lzf] at e; cases e
        simp [q1, q2])
      -- the steps' tuples are none of the two
      have off : ∀ {i : Nat} {st : Str × Deed}, sts[i]? = some st → ∃ b p, ws[i]? = some (V.ref b) ∧ b ∉ [dw, lf] ∧ p ∉ [dw, lf] ∧ H7 b = some (.tup [.str st.1, .ref p]) ∧ H7 p = some (.tup st.2.vs) := fun {i st} ez => by
        obtain ⟨v, hv, hq⟩ := f27.at' (show (sts.map stepPy)[i]? = some (stepPy st) by rw [List.getElem?_map, ez]; rfl)
        obtain ⟨b, p, rfl, _, hb, _, hp⟩ := dq_stepA hq
        have n1 : ∀ {c : Addr} {xs : List V}, H7 c = some (.tup xs) → c ∉ [dw, lf] := fun {c xs} hc => by
          have q1 : c ≠ dw := fun z => by rw [z, hdw7] at hc; cases hc
          have q2 : c ≠ lf := fun z => by rw [z, hlf7] at hc; cases hc
          simp [q1, q2]
        exact ⟨b, p, hv, n1 hb, n1 hp, hb, hp⟩
      refine for_it walk_rev (fun i σ G => ∃ v3 v4 v7 kvs W acc picked, σ = [some (.ref a), some (.ref nb), some (.ref D), v3, v4, some (.ref dw), some (.ref lf), v7] ∧ Kp [dw, lf] H7 G ∧ G dw = some (.dK kvs) ∧ kvs.length ≤ 1000 + 5 * i ∧ KeysIn kvs W ∧ G lf = some (.lst acc) ∧ picked.length ≤ i ∧
          F2 (Dq [dw, lf] G) acc (picked.map stepPy) ∧ picked ++ pickR (sts.reverse.drop i) W = pickR sts.reverse kn2)
        ⟨_, _, _, _, kn2, [], [], rfl, Kp.refl _ _, hdw7, by rw [key0.len]; omega, key0.in_, hlf7, Nat.le_refl _, .nil, rfl⟩ (fun i σ G _ q => by
          obtain ⟨_, _, _, _, _, _, _, _, kG, _⟩ := q
          exact SqL.of (kG _ _ hL (by simp [nLw, nLf]))) ?_ ?_
      · rintro i v σ G0 G hi ⟨v3, v4, v7, kvs, W, acc, picked, rfl, kG, gw, lkv, ky, gf, lp, fp, eq⟩ ⟨rfl, hv⟩
        have i1000 : i < 1000 := by omega
        have hj : ws.length - 1 - i < sts.length := by omega
        obtain ⟨b, p, hv2, ob, op, hb7, hp7⟩ := off (List.getElem?_eq_getElem hj)
        rw [hv2] at hv
        cases hv
        generalize hst : sts[ws.length - 1 - i] = st at hb7 hp7
        have mst : st ∈ sts := by rw [← hst]; exact List.getElem_mem hj
        have hrev : sts.reverse.drop i = st :: sts.reverse.drop (i + 1) := by
          refine drop_at ?_
          rw [List.getElem?_reverse (by omega), ← hst, ← len]
          exact List.getElem?_eq_getElem hj
        rw [hrev] at eq
        have hb := kG _ _ hb7 ob
        have hp := kG _ _ hp7 op
        refine ⟨b, _, rfl, SqT.of hb, rfl, _, _, rfl, _, _, rfl, rfl, ?_⟩
        refine ⟨_, rfl, _, rfl, dw, _, rfl, DGet.k (k := Sum.inr st.1) gw, _, rfl, ?_⟩
        rw [ky st.1]
        by_cases hm : st.1 ∈ W
        rotate_left
        · rw [decide_eq_false hm]
          refine iteF ?_
          rw [pickR_no hm] at eq
          exact ⟨_, _, _, kvs, W, acc, picked, rfl, kG, gw, by omega, ky, gf, by omega, fp, eq⟩
        rw [decide_eq_true hm]
        refine iteT ?_
        rw [pickR_yes hm] at eq
        refine ⟨_, rfl, .inl ⟨rfl, _, .inl (.inl gf)⟩, _, rfl, _, rfl, (by show 2 ≤ sizeLine; decide), fun tt ntt => ?_⟩
        have t1 := same_upd (o := .tup [.str st.1, .ref p]) ntt
        have htt := upd_same (H := G) (a := tt) (o := .tup [V.str st.1, .ref p])
        have gf1 := t1 _ _ gf
        have gw1 := t1 _ _ gw
        have lacc : acc.length = picked.length := by rw [fp.len, List.length_map]
        have ttw : tt ≠ dw := fun z => by rw [z, gw] at ntt; cases ntt
        have ttf : tt ≠ lf := fun z => by rw [z, gf] at ntt; cases ntt
        have hp1 := t1 _ _ hp
        have kG1 := kG.trans (Kp.of t1 (xs := [dw, lf]))
        have fp1 := fp.mono fun _ _ q => q.same t1
        generalize L2.upd G tt (.tup [V.str st.1, .ref p]) = G1 at htt gf1 gw1 hp1 kG1 fp1
        refine ⟨lf, _, _, rfl, rfl, gf1, by rw [lacc]; exact Nat.lt_of_le_of_lt (show picked.length ≤ 1000 by omega) (by decide), ?_⟩
        -- behind the append
        have gw2 : (L2.upd G1 lf (.lst (acc ++ [V.ref tt]))) dw = some (.dK kvs) := by
          rw [upd_ne ndwlf]
          exact gw1
        have gf2 := upd_same (H := G1) (a := lf) (o := .lst (acc ++ [V.ref tt]))
        have hp2 : (L2.upd G1 lf (.lst (acc ++ [V.ref tt]))) p = some (.tup st.2.vs) := by
          rw [upd_ne (fun z => op (by simp [z]))]
          exact hp1
        have htt2 : (L2.upd G1 lf (.lst (acc ++ [V.ref tt]))) tt = some (.tup [V.str st.1, .ref p]) := by
          rw [upd_ne ttf]
          exact htt
        have kG2 : Kp [dw, lf] H7 (L2.upd G1 lf (.lst (acc ++ [V.ref tt]))) := kG1.trans (Kp.upd (by simp))
        have kE2 : KpE [dw, lf] G1 (L2.upd G1 lf (.lst (acc ++ [V.ref tt]))) := fun c o e nc _ => by
          simp only [List.mem_cons, List.not_mem_nil, or_false, not_or] at nc
          rw [upd_ne nc.2]
          exact e
        have fp2 : F2 (Dq [dw, lf] (L2.upd G1 lf (.lst (acc ++ [V.ref tt])))) (acc ++ [V.ref tt]) ((picked ++ [st]).map stepPy) := by
          rw [List.map_append]
          exact (fp1.mono fun _ _ q => Dq.keep kE2 _ _ q).snoc (.tup (by simp [ttw, ttf]) htt2 (.cons (.str _) (.cons (Dq.of_deed op hp2) .nil)))
        generalize L2.upd G1 lf (.lst (acc ++ [V.ref tt])) = G2 at gw2 gf2 hp2 kG2 fp2
        obtain ⟨rd, vd⟩ := deed_rd hd mst
        refine ⟨_, rfl, .ref p, st.2.py, rfl, ⟨Dq.of_deed (by simp) hp2, vd, rd⟩, .inl ⟨st.2, rfl, hd.ok st mst, fun q G3 t3 nq hq => ⟨q, rfl, ⟨_, SqT.of hq⟩, ?_⟩⟩⟩
        have gw3 := t3 _ _ gw2
        have gf3 := t3 _ _ gf2
        have fp3 := fp2.mono fun _ _ q => q.same t3
        have kG3 := kG2.trans (Kp.of t3 (xs := [dw, lf]))
        have qw : q ≠ dw := fun z => by rw [z, gw2] at nq; cases nq
        have qf : q ≠ lf := fun z => by rw [z, gf2] at nq; cases nq
        have lo := once_small (hd.ok st mst)
        refine for_tup (K := K) (a := q) (xs := (once st.2.names).map V.str) (fun j σ G => ∃ v7 kvs', σ = [some (.ref a), some (.ref nb), some (.ref D), some (.str st.1), some (.ref p), some (.ref dw), some (.ref lf), v7] ∧ Kp [dw] G3 G ∧ G dw = some (.dK kvs') ∧ kvs'.length ≤ kvs.length + j ∧ KeysIn kvs' (W ++ (once st.2.names).take j))
          ⟨_, kvs, rfl, Kp.refl _ _, gw3, Nat.le_refl _, by rw [List.take_zero, List.append_nil]; exact ky⟩ (fun j σ G _ ⟨_, _, _, kg, _⟩ => SqT.of (kg _ _ hq (by simp [qw]))) ?_ ?_
        · rintro j u σ G4 hj4 ⟨v7', kvs', rfl, kg, gw4, lk4, ky4⟩
          rw [List.getElem?_map] at hj4
          cases eu : (once st.2.names)[j]? with
          | none => rw [eu] at hj4; cases hj4
          | some z =>
            rw [eu] at hj4
            cases hj4
            have j5 : j < 5 := by
              have := (List.getElem?_eq_some_iff.mp eu).1
              omega
            refine ⟨_, rfl, _, rfl, dw, _, rfl, DPut.k (k := Sum.inr z) gw4 (Nat.lt_of_le_of_lt (show kvs'.length ≤ 10000 by omega) (by decide)), ?_⟩
            refine ⟨_, _, rfl, kg.trans (Kp.upd (by simp)), upd_same, Nat.le_trans (length_putK _ _ _) (by omega), ?_⟩
            rw [take_snoc eu, ← List.append_assoc]
            exact ky4.put _ _
        · rintro σ G4 ⟨v7', kvs', rfl, kg, gw4, lk4, ky4⟩
          rw [List.length_map] at lk4 ky4
          rw [List.take_length] at ky4
          have kE : KpE [dw, lf] G3 G4 := fun c o e nc _ => kg c o e (by
            simp only [List.mem_cons, List.not_mem_nil, or_false, not_or] at nc ⊢
            exact nc.1)
          refine ⟨_, _, _, kvs', W ++ once st.2.names, _, picked ++ [st], rfl, ?_, gw4, by omega, ky4, kg _ _ gf3 (by simp [ndwlf.symm]), by rw [List.length_append, List.length_singleton]; omega, fp3.mono fun _ _ q => Dq.keep kE _ _ q, ?_⟩
          · exact kG3.trans fun c o e nc => kg c o e (by
              simp only [List.mem_cons, List.not_mem_nil, or_false, not_or] at nc ⊢
              exact nc.1)
          · rw [← eq, List.append_assoc, List.singleton_append, pickR_ext (W := W ++ once st.2.names) (W' := W ++ st.2.names) fun z => by rw [List.mem_append, List.mem_append, once_mem]]
      · rintro σ G ⟨v3, v4, v7, kvs, W, acc, picked, rfl, kG, gw, lkv, ky, gf, lp, fp, eq⟩
        have e0 : sts.reverse.drop ws.length = [] := List.drop_eq_nil_of_le (by rw [List.length_reverse]; omega)
        rw [e0] at eq
        have eq' : picked = pickR sts.reverse kn2 := by rw [← eq]; exact (List.append_nil _).symm
        refine ⟨_, rfl, lf, acc, rfl, SqL.of gf, fun q nq => ?_⟩
        have sF := (base kG).trans (same_upd (o := .lst acc.reverse) nq)
        refine k q acc.reverse _ sF ((base kG).free nq) upd_same ?_
        have fr := (fp.mono fun _ _ z => (z.same (same_upd (o := .lst acc.reverse) nq)).none_N).rev
        rw [← List.map_reverse, eq'] at fr
        exact fr
end
end Own
set_option Elab.async false
set_option linter.all false
set_option maxRecDepth 100000
set_option maxHeartbeats 400000
namespace Own
open PySem PySem.Spec PyProof.Rows L2 LamX
/-! ### the law's own sequels -/
def spDNames : Sp := fun vs H Q _ => ∃ (p : Addr) (d : Deed), vs = [.ref p] ∧ H p = some (.tup d.vs) ∧ DeedOk d ∧ ∀ l H', Same H H' → H l = none → H' l = some (.lst (d.names.map V.str)) → Q (.ref l) H'
def StepLast (e : PyData) : Prop := ∀ a b, e = .tuple [a, b] → LastAll b
def spLGoes : Sp := fun vs H Q _ => ∃ (x : V) (nb : Addr) (d : PyData) (kn : List Str), vs = [x, .ref nb] ∧ Dq [] H x d ∧ wdb d = true ∧ (∀ ds, itemsOf d = some ds → ∀ e ∈ ds, StepLast e) ∧ H nb = some (.lst (kn.map V.str)) ∧ kn.length ≤ 1000 ∧ ∀ H', Same H H' → Q (.bl (drawV kn d)) H'
section
variable {P : Program} {w : World} {K : PySem.W.Frag} {mg : Str → Option Value} {base : Heap} {f : Addr} {fd2 dN dD dF dM : FuncData}
theorem scDNames : FnScope ["_law_deed_here"] ["_law_deed_here"] (defScope sDNames) := ⟨rfl, rfl, rfl, by decide +kernel, rfl, by decide +kernel, by decide +kernel⟩
theorem ok_dnames (F : FnP K "_law_deed_names" sDNames f fd2) (KF : Fk P w K mg base CX0 1 "_law_forms" dF [] spForms) (T : Txt K mg) : FnOk P w K mg base CX0 2 f fd2 ["_law_deed_here"] spDNames := by
  refine F.ok scDNames (fun vs H Q E h => ?_) (fun cdv A outer s H vs Q E hr h => ?_)
  · obtain ⟨p, d, rfl, _⟩ := h
    rfl
  · obtain ⟨a, dd, rfl, ha, okd, k⟩ := h
    have hu := hu_of hr
    refine ⟨_, PSs.nox (pss_one (ps_ret (pe_callTy call_list_of (by rfl) T.list (by decide +kernel) (pa_cons (pe_slice sl_tup (pv 0) (po_some pe_int) (po_some (pe_op op_add pe_int (pe_dget hu (pe_call0 KF.ok hr (by rfl) KF.g KF.kp KF.b .nil pass0) (pe_ix ix_tup (pv 0) pe_int (fun _ _ => rfl)) (fun _ _ => rfl))))) pa_nil)))), ?_⟩
    have s4 : SqT K H a dd.vs := SqT.of ha
    obtain ⟨m, kk, hm, nm, okN, nk, okW⟩ := id okd
    refine ⟨_, rfl, _, rfl, rfl, fun fo G3 t3 nfo hfo => ⟨_, rfl, a, _, _, _, rfl, rfl, seqT t3 s4, deed_head dd, fo, _, rfl, dget_k (.inr dd.word) hfo (fk_look _ hm), _, _, rfl, rfl, _, rfl, a, _, rfl, seqT t3 s4, deed_notwhole, fun p np => ?_⟩⟩
    rw [deed_names nm]
    have t4 := same_upd (o := .tup (dd.names.map V.str)) np
    have hp := upd_same (H := G3) (a := p) (o := .tup (dd.names.map V.str))
    refine ⟨p, _, rfl, .inr (SqT.of hp), fun l nl => ?_⟩
    have tA := t3.trans t4
    exact k l _ (tA.trans (same_upd nl)) (tA.free nl) upd_same
abbrev nsLGoes : List Str := ["_law_value", "_law_names", "_law_known", "_law_step", "_law_one"]
theorem scLGoes : FnScope nsLGoes ["_law_value", "_law_names"] (defScope sLGoes) := ⟨rfl, rfl, rfl, by decide +kernel, rfl, by decide +kernel, by decide +kernel⟩
theorem ok_lgoes (F : FnP K "_law_goes_on" sLGoes f fd2) (KN : Fk P w K mg base CX0 1 "_law_is_name" dN ["_law_value"] spName) (KM : Fk P w K mg base CX0 2 "_law_deed_names" dM ["_law_deed_here"] spDNames)
    (gd : FnOkG P w K mg base CX0 2 (He.ga K "_law_is_deed") dD ["_law_value"] spDeedDue) (bd : Binds K dD ["_law_value"] []) (kpd : PySem.W.keepIn K (.ref (He.ga K "_law_is_deed")) = true) (gld : mg "_law_is_deed" = some (.ref (He.ga K "_law_is_deed"))) (T : Txt K mg) :
    FnOkG P w K mg base CX0 3 f fd2 ["_law_value", "_law_names"] spLGoes := by
  refine FunD.okG F scLGoes rfl (fun vs H Q E h => ?_) (fun cdv A outer s H vs Q E hlk hcd hg hr h => ?_)
  · obtain ⟨x, nb, d, kn, rfl, _⟩ := h
    rfl
  · obtain ⟨x, nb, d, kn0, rfl, hx, wd, la, hnb, l0, k⟩ := h
    have hu := hu_of hr
    have hr1 := hr.mono (show 1 ≤ 2 by decide)
    refine ⟨_, PSsT.nox (PSsT.of (pss_cons (ps_if (pt_not (pt_val (pe_callB call_isiT (by rfl) T.isi boot_isinstance (pa_cons (pv 0) (pa_cons (pe_tup (pa_cons (pe_bltn (v := .ty "list") (by rfl) T.list (by decide +kernel) rfl) (pa_cons (pe_bltn (v := .ty "tuple") (by rfl) T.tuple (by decide +kernel) rfl) pa_nil))) pa_nil))))) (pss_one (ps_ret pe_bl)) pss_nil)
      (pss_cons (ps_set (i := 2) scLGoes.nd rfl (.inr rfl) (pe_callTy call_list_of (by rfl) T.list (by decide +kernel) (pa_cons (pv 1) pa_nil)))
      (pss_cons (ps_for PassesOwn.never rfl (pi_seqW (pv 0)) (pg_name (i := 3) scLGoes.nd rfl (Or.inl rfl))
        (pss_cons (ps_if (PW.pt (pw_or (pt_not (pt_val (pe_callB call_isi (by rfl) T.isi boot_isinstance (pa_cons (pv 3) (pa_cons (pe_bltn (v := .ty "tuple") (by rfl) T.tuple (by decide +kernel) rfl) pa_nil)))))
            (pw_or (pt_cmpR op_ne (pe_callB call_len_seq (by rfl) T.len PySem.boot_len (pa_cons (pv 3) pa_nil)) pe_int (nomark _)) (pw_or (pt_not (pt_val (pe_call KN.ok hr1 (by rfl) KN.g KN.kp KN.b .nil pass0 (pa_cons (pe_ix ix_tup (pv 3) pe_int (fun _ _ => rfl)) pa_nil))))
            (pw_or1 (pt_cmpR op_in_seq (pe_ix ix_tup (pv 3) pe_int (fun _ _ => rfl)) (pv 2) (by rfl))))))) (pss_one (ps_ret pe_bl)) pss_nil)
        (pss_cons (ps_if (PW.pt (pw_or (pt_not (pt_val (pe_callG gd hg hr (by rfl) gld kpd bd pass0 (pa_cons (pe_ix ix_tup (pv 3) pe_int (fun _ _ => rfl)) pa_nil)))) (pw_or1 (pt_cmpR (op_neD hr.units) (pe_lc (own := [("_law_one", 4)]) (g := gName 4) (by rfl) scLGoes.nd (pi_list (pe_call KM.ok hr (by rfl) KM.g KM.kp KM.b .nil pass0 (pa_cons (pe_ix ix_tup (pv 3) pe_int (fun _ _ => rfl)) pa_nil)))
              (blkOk_by (own := [("_law_one", 4)]) (N := nsLGoes) (sc := defScope sLGoes) (by decide +kernel))
              (fun _ _ _ _ _ => pg_name (i := 4) scLGoes.nd rfl (Or.inl rfl)) (fun _ _ _ _ _ => pts_one (pt_cmpR (op_notInK (K := K) rfl) (pv 4) (pv 2) (by rfl))) (fun _ _ _ _ _ => pv 4)) (pe_lst pa_nil) (nomark _))))) (pss_one (ps_ret pe_bl)) pss_nil)
        (pss_one (ps_expr (pe_bm PySem.F.plainAttrs_list PySem.F.slot_list_append PySem.F.type_list_append mt_append (pv 2) (pa_cons (pe_ix ix_tup (pv 3) pe_int (fun _ _ => rfl)) pa_nil)))))))
      (pss_one (ps_ret pe_bl)))))), ?_⟩
    refine ⟨_, rfl, (by show 2 ≤ sizeLine; decide), fun tp ntp => ?_⟩
    have s0 := same_upd (o := .tup [.ty "list", .ty "tuple"]) ntp
    refine ⟨x, tp, _, .type (tyOf d), [.type "list", .type "tuple"], (isL d || isT d), rfl, upd_same, .cons (.ty _) (.cons (.ty _) .nil), (hx.same s0).ty, ?_, _, rfl, ?_⟩
    · cases eL : isL d with
      | true => exact kitAny_cons (b := true) (kit_ty (eL ▸ kit_list d)) (fun z => by cases z) (fun _ => rfl)
      | false =>
        cases eT : isT d with
        | true => exact kitAny_cons (b := false) (kit_ty (eL ▸ kit_list d)) (fun _ => kitAny_cons (b := true) (kit_ty (eT ▸ kit_tuple d)) (fun z => by cases z) (fun _ => rfl)) (fun z => by cases z)
        | false => exact kitAny_cons (b := false) (kit_ty (eL ▸ kit_list d)) (fun _ => kitAny_cons (b := false) (kit_ty (eT ▸ kit_tuple d)) (fun _ => kitAny_nil) fun z => by cases z) (fun z => by cases z)
    cases eLT : isL d || isT d with
    | false =>
      refine iteT ?_
      have q := k _ s0
      unfold drawV at q
      rw [no_items eLT] at q
      exact q
    | true =>
    refine iteF ?_
    obtain ⟨a, xs, ds, rfl, hitems, hf2, l1000, vds, walkable⟩ := seq_of hx wd eLT
    have la := la ds hitems
    have edr : drawV kn0 d = goesB kn0 ds := by
      unfold drawV
      rw [hitems]
    rw [edr] at k
    refine ⟨_, rfl, nb, _, rfl, .inl (SqL.of (s0 _ _ hnb)), fun lk nlk => ?_⟩
    have s2 := same_upd (o := .lst (kn0.map V.str)) nlk
    have hlk2 := upd_same (H := L2.upd H tp (.tup [.ty "list", .ty "tuple"])) (a := lk) (o := .lst (kn0.map V.str))
    have sA := s0.trans s2
    have lz : H lk = none := s0.free nlk
    generalize L2.upd (L2.upd H tp (.tup [.ty "list", .ty "tuple"])) lk (.lst (kn0.map V.str)) = H2 at hlk2 sA
    have nad : a ≠ lk := by
      rintro rfl
      rcases walkable with e | e <;> rw [lz] at e <;> cases e
    have hlen := hf2.len
    have fin : ∀ G', Kp [lk] H2 G' → Same H G' := fun G' kg b ob e => kg _ _ (sA _ _ e) (by
      have : b ≠ lk := fun z => by rw [z, lz] at e; cases e
      simp [this])
    have wka : SqL K H2 a xs ∨ SqT K H2 a xs := walkable.imp (fun e => SqL.of (sA _ _ e)) fun e => SqT.of (sA _ _ e)
    refine ⟨_, rfl, a, xs, rfl, wka, fun J GG wk hGG => ?_⟩
    have hG : ∀ G, Kp [lk] H2 G → GG G := fun G kG => hGG G fun o e => kG _ _ e (by simp [nad])
    refine for_it wk (fun i σ G => ∃ v3 kn, σ = [some (.ref a), some (.ref nb), some (.ref lk), v3, none] ∧ Kp [lk] H2 G ∧ G lk = some (.lst (kn.map V.str)) ∧ kn.length ≤ 1000 + i ∧ goesB kn (ds.drop i) = goesB kn0 ds)
      ⟨none, kn0, rfl, Kp.refl _ _, hlk2, by omega, rfl⟩ (fun i σ G _ q => hG G (by obtain ⟨_, _, _, kG, _⟩ := q; exact kG)) ?_ ?_
    · rintro i y σ G0 G hi ⟨v3, kn, rfl, kG, gl, lkn, eq⟩ ⟨rfl, hy⟩
      obtain ⟨e, he, hq0⟩ := hf2.at_ hy
      have hq := hq0.same (fin _ kG)
      rw [drop_at he] at eq
      have vde := vds e (List.mem_of_getElem? he)
      have lae := la e (List.mem_of_getElem? he)
      have bad : goesB kn0 ds = false → Q (.bl false) G := fun z => by
        have q := k G (fin G kG)
        rw [z] at q
        exact q
      have badAt : stepB kn e = none → goesB kn0 ds = false := fun z => by rw [← eq, goes_bad z]
      refine ⟨_, rfl, y, .ty "tuple", .type (tyOf e), .type "tuple", isT e, rfl, .ty _, hq.ty, kit_ty (kit_tuple e), _, rfl, ?_⟩
      cases eT : isT e with
      | false =>
        refine iteT ?_
        exact bad (badAt (step_notup eT))
      | true =>
      refine iteF ?_
      obtain ⟨b, bs, es, rfl, rfl, hb, hbs⟩ : ∃ b bs es, y = .ref b ∧ e = .tuple es ∧ G b = some (.tup bs) ∧ DqAll [] G bs es := by
        cases hq with
        | tup _ h1 h2 => exact ⟨_, _, _, rfl, rfl, h1, h2⟩
        | non => cases eT
        | bl => cases eT
        | int => cases eT
        | str => cases eT
        | lst => cases eT
        | dict => cases eT
      have sb : SqT K G b bs := SqT.of hb
      have lbs := hbs.f2.len
      refine ⟨_, rfl, b, _, rfl, .inr sb, rfl, _, rfl, ?_⟩
      by_cases l2 : es.length = 2
      rotate_left
      · have e1 : (!decide (V.int ((bs.length : Nat) : Int) = V.int 2)) = true := by
          rw [decide_eq_false (by simp only [V.int.injEq]; omega)]
          rfl
        rw [e1]
        refine iteT ?_
        exact bad (badAt (step_len l2))
      have e1 : (!decide (V.int ((bs.length : Nat) : Int) = V.int 2)) = false := by
        rw [decide_eq_true (by simp only [V.int.injEq]; omega)]
        rfl
      rw [e1]
      refine iteF ?_
      obtain ⟨a1, a2, rfl⟩ : ∃ a1 a2, es = [a1, a2] := by
        match es, l2 with
        | [a1, a2], _ => exact ⟨a1, a2, rfl⟩
      have gde : gdb (.tuple [a1, a2]) = true := vdb_gdb vde rfl
      have g12 := (gdb_tuple gde).2
      have g1 := g12 a1 List.mem_cons_self
      have g2 := g12 a2 (List.mem_cons_of_mem _ List.mem_cons_self)
      have v1 := vdb_of g1
      have v2' := vdb_of g2
      cases hbs with
      | @cons u1 _ _ _ q1 hbs =>
      cases hbs with
      | @cons u2 _ _ _ q2 hbs =>
      cases hbs
      refine ⟨_, rfl, b, _, _, _, rfl, rfl, sb, at_nat (k := 0) rfl, u1, a1, rfl, q1, v1, fun G1 t1 => ⟨_, rfl, ?_⟩⟩
      have sb1 : SqT K G1 b [u1, u2] := seqT t1 sb
      have kG1 := kG.trans (Kp.of t1 (xs := [lk]))
      have bad1 : ∀ {G1 : Hp}, Kp [lk] H2 G1 → goesB kn0 ds = false → Q (.bl false) G1 := fun {G1} kg z => by
        have q := k G1 (fin G1 kg)
        rw [z] at q
        exact q
      cases eN : nameB a1 with
      | false =>
        refine iteT ?_
        exact bad1 kG1 (badAt (step_noname eN))
      | true =>
      refine iteF ?_
      obtain ⟨n, rfl⟩ : ∃ n, a1 = .str n := by
        cases a1 <;> first | exact ⟨_, rfl⟩ | cases eN
      have okn : NameOk n := of_decide_eq_true eN
      cases q1
      have gl1 := t1 _ _ gl
      refine ⟨_, rfl, b, _, _, _, rfl, rfl, sb1, at_nat (k := 0) rfl, _, rfl, lk, _, rfl, .inl (SqL.of gl1), rfl, flat_strs _, _, rfl, ?_⟩
      rw [inV_str]
      by_cases hn : n ∈ kn
      · rw [decide_eq_true hn]
        refine iteT ?_
        exact bad1 kG1 (badAt (step_no fun q => q.2.1 hn))
      rw [decide_eq_false hn]
      refine iteF ?_
      have la2 := lae _ _ rfl
      have q2' := q2.same t1
      refine ⟨_, rfl, b, _, _, _, rfl, rfl, sb1, at_nat (k := 1) rfl, u2, a2, rfl, q2', v2', la2, fun G2 t2 => ⟨_, rfl, ?_⟩⟩
      have kG2 := kG1.trans (Kp.of t2 (xs := [lk]))
      cases eD : deedB a2 with
      | false =>
        refine iteT ?_
        refine bad1 kG2 (badAt (step_no fun q => ?_))
        have q3 := q.2.2.1
        rw [eD] at q3
        cases q3
      | true =>
      refine iteF ?_
      obtain ⟨dd, rfl, okd⟩ := deedB_ok eD
      obtain ⟨a4, rfl, _, ha4⟩ := (q2'.same t2).deed
      have sb2 := seqT t2 sb1
      have s4 : SqT K G2 a4 dd.vs := SqT.of ha4
      obtain ⟨m, kk, hm, nm, okN, nk, okW⟩ := id okd
      refine ⟨_, rfl, b, _, _, _, rfl, rfl, sb2, at_nat (k := 1) rfl, a4, dd, rfl, ha4, okd, fun p G4 t4 np hp => ?_⟩
      have gl4 := t4 _ _ (t2 _ _ gl1)
      have fo' : ∀ z ∈ dd.names, NameOk z := fun z hz => deed_okN okd z hz
      have lo : (dd.names.map V.str).length < sizeLine := by
        rw [List.length_map]
        exact Nat.lt_of_le_of_lt (form_small okd) (by decide)
      refine ⟨p, rfl, ⟨_, SqL.of hp⟩, fun D nD => ?_⟩
      refine lc_filt (p := fun x => !inV x (kn.map V.str)) walk_list nD lo (fun H' s' => SqL.of (s' _ _ hp)) (by show 4 < 5; decide) (fun x G' hx tG R kR => ?_) fun G5 t5 hD => ?_
      · obtain ⟨z, hz, rfl⟩ := List.mem_map.mp hx
        exact ⟨_, rfl, _, rfl, lk, _, rfl, .inl (SqL.of (tG _ _ gl4)), rfl, flat_strs _, _, rfl, kR G' (Same.refl _)⟩
      refine tail_ne hD (all_filter (fok_names fo')) fun G6 t6 => ⟨_, rfl, ?_⟩
      rw [filter_any]
      have eall : (dd.names.map V.str).any (fun x => !inV x (kn.map V.str)) = !decide (∀ z ∈ dd.names, z ∈ kn) := by
        rw [List.any_map, Bool.eq_iff_iff, List.any_eq_true, Bool.not_eq_true', decide_eq_false_iff_not]
        constructor
        · rintro ⟨z, hz, e⟩ q
          have e' : (!inV (V.str z) (kn.map V.str)) = true := e
          rw [inV_str, decide_eq_true (q z hz)] at e'
          cases e'
        · intro q
          refine Classical.byContradiction fun r => q fun z hz => Classical.byContradiction fun r2 => r ⟨z, hz, ?_⟩
          show (!inV (V.str z) (kn.map V.str)) = true
          rw [inV_str, decide_eq_false r2]
          rfl
      rw [eall]
      have t16 := (((t1.trans t2).trans t4).trans t5).trans t6
      have kG6 := kG.trans (Kp.of t16 (xs := [lk]))
      by_cases ek : ∀ z ∈ dd.names, z ∈ kn
      rotate_left
      · rw [decide_eq_false ek]
        refine iteT ?_
        refine bad1 kG6 (badAt (step_no fun q => ek ?_))
        have := q.2.2.2
        rw [dnames_py okd] at this
        exact this
      rw [decide_eq_true ek]
      refine iteF ?_
      have gl6 := t16 _ _ gl
      have idl : i < ds.length := (List.getElem?_eq_some_iff.mp he).1
      refine ⟨_, rfl, .inl ⟨rfl, _, .inl (.inl gl6)⟩, _, rfl, b, _, _, _, rfl, rfl, seqT t16 sb, at_nat (k := 0) rfl, lk, _, _, rfl, rfl, gl6, by rw [List.length_map]; exact Nat.lt_of_le_of_lt (show kn.length ≤ 2000 by omega) (by decide), ?_⟩
      refine ⟨_, kn ++ [n], rfl, kG6.trans (Kp.upd (by simp)), by rw [upd_same, List.map_append]; rfl, ?_, ?_⟩
      · rw [List.length_append, List.length_singleton]
        omega
      · rw [← eq]
        exact (goes_good ⟨okn, hn, eD, by rw [dnames_py okd]; exact ek⟩).symm
    · rintro σ G ⟨v3, kn, rfl, kG, gl, lkn, eq⟩
      rw [hlen, List.drop_length] at eq
      have q := k G (fin G kG)
      rw [← eq] at q
      exact q
end
end Own
set_option Elab.async false
set_option linter.all false
set_option maxRecDepth 100000
set_option maxHeartbeats 400000
namespace Own
open PySem PySem.Spec PyProof.Rows L2 LamX
/-! ### drawn values: what they are made of -/
abbrev NOW : List Str := []
/-- all names that are drawn -/
def NMS : List Str := SHEET ++ (("fresh" :: "lay" :: "disc" :: "circles" :: "later" :: [] : List Str) ++ (LAB ++ (KK ++ SV)))
def ODD : List PyData := .str "later" :: .str "A" :: .str "" :: .str "toolongname" :: .int 1 :: .int 2 :: .int 3 :: .int 0 :: .bool true :: .none :: .str "o" :: .str "1" :: .str "a-b" :: .str "vv" :: []
def itemB (e : PyData) : Bool := gdb e && (decide (e.depth ≤ 10) && lastB e)
theorem odd_ok : ∀ e ∈ ODD, itemB e = true := by decide +kernel
theorem form_item : ∀ t ∈ FORM, itemB (.str t.1) = true := by decide +kernel
theorem nms_item : ∀ z ∈ NMS, itemB (.str z) = true ∧ NameOk z := by decide +kernel
theorem way_item : itemB (.int 1) = true ∧ itemB (.int 2) = true := by decide +kernel
theorem sheet_nms : ∀ z ∈ SHEET, z ∈ NMS := fun _ h => List.mem_append_left _ h
theorem law_nms : ∀ z ∈ LAB ++ (KK ++ SV), z ∈ NMS := fun _ h => List.mem_append_right _ (List.mem_append_right _ h)
theorem deed_items {d : Deed} (h : DeedOk d) (hn : ∀ z ∈ d.names, z ∈ NMS) : ∀ e ∈ d.pys, itemB e = true := by
  obtain ⟨m, k, hm, nm, okN, nk, okW⟩ := h
  intro e he
  unfold Deed.pys at he
  rcases List.mem_cons.mp he with rfl | he
  · exact form_item _ hm
  rcases List.mem_append.mp he with he | he
  · obtain ⟨z, hz, rfl⟩ := List.mem_map.mp he
    exact (nms_item z (hn z hz)).1
  · obtain ⟨z, hz, rfl⟩ := List.mem_map.mp he
    have := okW z hz
    have e : z = 1 ∨ z = 2 := by omega
    rcases e with rfl | rfl
    · exact way_item.1
    · exact way_item.2
theorem itemB_iff {e : PyData} (h : itemB e = true) : gdb e = true ∧ e.depth ≤ 10 ∧ lastB e = true := by
  unfold itemB at h
  rw [Bool.and_eq_true, Bool.and_eq_true, decide_eq_true_iff] at h
  exact h
theorem smls_all : ∀ {ds : List PyData}, (∀ d ∈ ds, sml d = true) → smls ds = true
  | [], _ => rfl
  | e :: ds, h => by
    show (sml e && smls ds) = true
    rw [h e List.mem_cons_self, smls_all fun d hd => h d (List.mem_cons_of_mem _ hd)]
    rfl
theorem gdb_sml {d : PyData} (h : gdb d = true) : sml d = true := by
  unfold gdb at h
  rw [Bool.and_eq_true, Bool.and_eq_true] at h
  exact h.2.2
theorem gdb_of_items {ds : List PyData} (l : ds.length ≤ 1000) (n : Nat) (hn : n ≤ 49) (h : ∀ e ∈ ds, gdb e = true ∧ e.depth ≤ n) : gdb (.tuple ds) = true ∧ gdb (.list ds) = true ∧ (PyData.tuple ds).depth ≤ n + 1 ∧ (PyData.list ds).depth ≤ n + 1 := by
  have a := lay_all fun e he => (gdb_lay (h e he).1).1
  have b := depth_all fun e he => (h e he).2
  have c := smls_all fun e he => gdb_sml (h e he).1
  have q : (PyData.canLayAll0 ds && (decide (PyData.depthAll ds + 1 ≤ 50) && (decide (ds.length ≤ 1000) && smls ds))) = true := by
    rw [a, c, decide_eq_true l, decide_eq_true (by omega : PyData.depthAll ds + 1 ≤ 50)]
    rfl
  exact ⟨q, q, (by show PyData.depthAll ds + 1 ≤ n + 1; omega), (by show PyData.depthAll ds + 1 ≤ n + 1; omega)⟩
/-- what a bent deed is -/
structure BentD (d : PyData) : Prop where
  g : gdb d = true
  dp : d.depth ≤ 11
  r : Ready NOW d
  l : LastAll d
theorem BentD.tuple {ds : List PyData} (l : ds.length ≤ 1000) (hd : ∀ w r, ds = .str w :: r → ∃ q, FORM.lookup w = some q) (h : ∀ e ∈ ds, itemB e = true) : BentD (.tuple ds) := by
  obtain ⟨g1, g2, g3, g4⟩ := gdb_of_items l 10 (by decide) fun e he => ⟨(itemB_iff (h e he)).1, (itemB_iff (h e he)).2.1⟩
  refine ⟨g1, g3, fun w r e => ?_, fun ds' e x hx => ?_⟩
  · injection e with e
    exact .inl (hd w r e)
  · injection e with e
    subst e
    exact (itemB_iff (h x hx)).2.2
theorem BentD.list {ds : List PyData} (l : ds.length ≤ 1000) (h : ∀ e ∈ ds, itemB e = true) : BentD (.list ds) := by
  obtain ⟨g1, g2, g3, g4⟩ := gdb_of_items l 10 (by decide) fun e he => ⟨(itemB_iff (h e he)).1, (itemB_iff (h e he)).2.1⟩
  exact ⟨g2, g4, (fun w r e => by cases e), (fun ds' e => by cases e)⟩
theorem pys_len {d : Deed} (h : DeedOk d) : d.pys.length ≤ 7 := by
  have h1 := form_small h
  have h2 := way_small h
  unfold Deed.pys
  rw [List.length_cons, List.length_append, List.length_map, List.length_map]
  omega
theorem deed_look {d : Deed} (h : DeedOk d) : ∃ q, FORM.lookup d.word = some q := by
  obtain ⟨m, k, hm, _⟩ := h
  exact ⟨_, form_look _ hm⟩
theorem BentD.deed {d : Deed} (h : DeedOk d) (hn : ∀ z ∈ d.names, z ∈ NMS) : BentD d.py := by
  refine BentD.tuple (Nat.le_trans (pys_len h) (by decide)) (fun w r e => ?_) (deed_items h hn)
  have : d.word = w := by
    unfold Deed.pys at e
    injection e with e _
    injection e
  rw [← this]
  exact deed_look h
/-! #### slices, put together -/
theorem tNoPart_in {σ : L2.St} {H : Hp} {Q : Option Int → Hp → Prop} (h : Q none H) : tNoPart σ H Q := h
theorem slA_read {K : PySem.W.Frag} {H : Hp} {Q : VK} {a : Addr} {xs : List V} {lo hi : Option Int} (ha : H a = some (.tup xs)) (k : ∀ r H', Same H H' → H' r = some (.tup (cutV xs lo hi)) → Q (.ref r) H') : rSlA K (.ref a) lo hi H Q := by
  refine ⟨a, xs, rfl, SqT.of ha, fun e => k a H (Same.refl _) ?_, fun _ p np => k p _ (same_upd np) upd_same⟩
  rw [ha]
  have : cutV xs lo hi = (xs.drop (HT.sIx xs.length 0 lo)).take (HT.sIx xs.length xs.length hi - HT.sIx xs.length 0 lo) := rfl
  rw [this, e.1, e.2, List.drop_zero, Nat.sub_zero, List.take_length]
theorem Dq.tup_of {N : List Addr} {H : Hp} {r : Addr} {xs : List V} {ds : List PyData} (n : r ∉ N) (h : H r = some (.tup xs)) (f : F2 (Dq N H) xs ds) : Dq N H (.ref r) (.tuple ds) := .tup n h (DqAll.of f)
theorem Deed.f2 {N : List Addr} {H : Hp} (d : Deed) : F2 (Dq N H) d.vs d.pys := DqAll.f2 (.cons (.str _) (dq_str_of _ (dq_int_of _)))
theorem deed_max {d : Deed} (h : DeedOk d) : 1 ≤ d.vs.length ∧ d.vs.length ≤ 7 := by
  rw [deed_len]
  have h1 := form_small h
  have h2 := way_small h
  omega
structure StepG (e : PyData) : Prop where
  v : vdb e = true
  r : StepRd NOW e
  l : StepLast e
structure DrawD (d : PyData) : Prop where
  w : wdb d = true
  r : ∀ ds, itemsOf d = some ds → ∀ e ∈ ds, StepRd NOW e
  l : ∀ ds, itemsOf d = some ds → ∀ e ∈ ds, StepLast e
theorem StepG.pair {x b : PyData} (hx : gdb x = true) (dx : x.depth ≤ 11) (h : BentD b) : StepG (.tuple [x, b]) := by
  obtain ⟨g, _⟩ := gdb_of_items (ds := [x, b]) (by show 2 ≤ 1000; decide) 11 (by decide) fun e he => by
    simp only [List.mem_cons, List.not_mem_nil, or_false] at he
    rcases he with rfl | rfl
    · exact ⟨hx, dx⟩
    · exact ⟨h.g, h.dp⟩
  refine ⟨vdb_of g, fun a c e => ?_, fun a c e => ?_⟩
  · injection e with e
    injection e with _ e
    injection e with e
    rw [← e]
    exact h.r
  · injection e with e
    injection e with _ e
    injection e with e
    rw [← e]
    exact h.l
theorem StepG.lst2 {x b : PyData} (hx : gdb x = true) (dx : x.depth ≤ 11) (h : BentD b) : StepG (.list [x, b]) := by
  obtain ⟨_, g, _⟩ := gdb_of_items (ds := [x, b]) (by show 2 ≤ 1000; decide) 11 (by decide) fun e he => by
    simp only [List.mem_cons, List.not_mem_nil, or_false] at he
    rcases he with rfl | rfl
    · exact ⟨hx, dx⟩
    · exact ⟨h.g, h.dp⟩
  exact ⟨vdb_of g, (fun a c e => by cases e), (fun a c e => by cases e)⟩
theorem StepG.three {x b : PyData} (hx : gdb x = true) (dx : x.depth ≤ 11) (h : BentD b) : StepG (.tuple [x, b, b]) := by
  obtain ⟨g, _⟩ := gdb_of_items (ds := [x, b, b]) (by show 3 ≤ 1000; decide) 11 (by decide) fun e he => by
    simp only [List.mem_cons, List.not_mem_nil, or_false] at he
    rcases he with rfl | rfl | rfl
    · exact ⟨hx, dx⟩
    · exact ⟨h.g, h.dp⟩
    · exact ⟨h.g, h.dp⟩
  refine ⟨vdb_of g, fun a c e => ?_, fun a c e => ?_⟩
  · injection e with e
    injection e with _ e
    injection e with _ e
    cases e
  · injection e with e
    injection e with _ e
    injection e with _ e
    cases e
theorem nms_g {z : Str} (h : z ∈ NMS) : gdb (.str z) = true ∧ (PyData.str z).depth ≤ 11 := ⟨(itemB_iff (nms_item z h).1).1, by show 0 ≤ 11; decide⟩
theorem DrawD.list {es : List PyData} (l : es.length ≤ 1000) (h : ∀ e ∈ es, StepG e) : DrawD (.list es) := by
  refine ⟨?_, fun ds e x hx => ?_, fun ds e x hx => ?_⟩
  · show (decide (es.length ≤ 1000) && es.all vdb) = true
    rw [decide_eq_true l, List.all_eq_true.mpr fun e he => (h e he).v]
    rfl
  · injection e with e
    subst e
    exact (h x hx).r
  · injection e with e
    subst e
    exact (h x hx).l
theorem DrawD.tuple {es : List PyData} (l : es.length ≤ 1000) (h : ∀ e ∈ es, StepG e) : DrawD (.tuple es) := by
  refine ⟨?_, fun ds e x hx => ?_, fun ds e x hx => ?_⟩
  · show (decide (es.length ≤ 1000) && es.all vdb) = true
    rw [decide_eq_true l, List.all_eq_true.mpr fun e he => (h e he).v]
    rfl
  · injection e with e
    subst e
    exact (h x hx).r
  · injection e with e
    subst e
    exact (h x hx).l
theorem tail_eqD {K : PySem.W.Frag} {N : List Addr} {σ : L2.St} {H : Hp} {D : Addr} {ys : List V} {es : List PyData} {Q : VK} (hD : H D = some (.lst ys)) (hf : F2 (Dq N H) ys es) (g : ∀ e ∈ es, gdb e = true) (k : ∀ H', Same H H' → Q (.bl ys.isEmpty) H') : tLst tNil σ H fun y H2 => rEqD K (.ref D) y H2 Q := by
  refine ⟨(by show 0 ≤ sizeLine; decide), fun q nq => ?_⟩
  have s := same_upd (o := .lst []) nq
  obtain ⟨a, b, c⟩ := dp_some (K := K) (hf.mono fun _ _ z => z.same s) g
  refine ⟨.list es, .list [], .lst (SqL.of (s _ _ hD)) a, .lst (SqL.of upd_same) .nil, ?_, rfl, ?_⟩
  · show (PyData.canLayAll0 es && decide (PyData.depthAll es + 1 ≤ 64)) = true
    rw [b, decide_eq_true (by omega)]
    rfl
  · rw [eqv_nilL]
    have e : es.isEmpty = ys.isEmpty := by
      have := hf.len
      cases ys <;> cases es <;> first | rfl | cases this
    rw [e]
    exact k _ s
/-! #### drawn steps -/
structure StepsOk (ds : List (Str × Deed)) : Prop where
  len : ds.length ≤ 8
  goes : goesB SHEET (ds.map stepPy) = true
  name : ∀ s ∈ ds, s.1 ∈ NMS
  deed : ∀ s ∈ ds, DeedOk s.2 ∧ ∀ z ∈ s.2.names, z ∈ NMS
theorem StepsOk.g {ds : List (Str × Deed)} (h : StepsOk ds) : ∀ e ∈ ds.map stepPy, StepG e := fun e he => by
  obtain ⟨s, hs, rfl⟩ := List.mem_map.mp he
  obtain ⟨g1, g2⟩ := nms_g (h.name s hs)
  exact StepG.pair g1 g2 (BentD.deed (h.deed s hs).1 (h.deed s hs).2)
theorem StepsOk.gdb {ds : List (Str × Deed)} (h : StepsOk ds) : ∀ e ∈ ds.map stepPy, gdb e = true := fun e he => by
  obtain ⟨s, hs, rfl⟩ := List.mem_map.mp he
  exact vdb_gdb ((StepG.pair (nms_g (h.name s hs)).1 (nms_g (h.name s hs)).2 (BentD.deed (h.deed s hs).1 (h.deed s hs).2)).v) rfl
/-- the list of all words, in some order -/
structure WordsL (ys : List Str) : Prop where
  pos : 0 < ys.length
  most : ys.length ≤ 20
  mem : ∀ y ∈ ys, ∃ m k, (y, m, k) ∈ FORM
end Own
set_option Elab.async false
set_option linter.all false
set_option maxRecDepth 100000
set_option maxHeartbeats 400000
namespace Own
open PySem PySem.Spec PyProof.Rows L2 LamX
/-! ### drawings that look back -/
def spChain : Sp := fun vs H Q _ => ∃ (a lw lc : Addr) (t : Nat) (j : Nat) (pw : Addr) (ys : List Str) (sh : Int), vs = [.ref a, .int j, .ref pw, .int sh] ∧ StA H a lw lc t ∧ t < 2 ^ 37 ∧ j ≤ 8 ∧ H pw = some (.lst (ys.map V.str)) ∧ pw ∉ [a, lw] ∧ WordsL ys ∧
  ∀ (l : Addr) (ws : List V) (ds : List (Str × Deed)) H', StepsOk ds → ds.length = j → F2 (Dq [a, lw, l] H') ws (ds.map stepPy) → l ∉ [a, lw] → l ≠ lc → H l = none → H' l = some (.lst ws) → StA H' a lw lc (t + 400) → Kp [a, lw] H H' → Q (.ref l) H'
section
variable {P : Program} {w : World} {K : PySem.W.Frag} {mg : Str → Option Value} {base : Heap} {f : Addr} {fd2 dD dP dN dE : FuncData}
abbrev nsChain : List Str := ["_law_state", "_law_many", "_law_words", "_law_share", "_law_known", "_law_found", "_law_turn", "_law_near", "_law_deed_here", "_law_name_here"]
theorem scChain : FnScope nsChain ["_law_state", "_law_many", "_law_words", "_law_share"] (defScope sChain) := ⟨rfl, rfl, rfl, by decide +kernel, rfl, by decide +kernel, by decide +kernel⟩
theorem asg_gen {te : TE} {tg : TG} {σ : L2.St} {H : Hp} {D : Ends} (C : V → Hp → Prop) (h : ∀ Q : VK, (∀ x H, C x H → Q x H) → te σ H Q) (k : ∀ x H, C x H → tg x σ H D.nx) : tAsg te tg D σ H := h _ k
theorem gname_seq {n : Nat} {v : V} {σ : L2.St} {H : Hp} {a b : TS} {D : Ends} {r : VK} {c e : L2.St → Hp → Prop} (h : tSeq a b D (σ.set n (some v)) H) : gName n v σ H (Ends.nx { nx := tSeq a b D, rt := r, bk := c, ct := e }) := h
theorem ok_chain (F : FnP K "_law_chained_steps" sChain f fd2) (KD : Fk P w K mg base CX0 2 "_law_draw" dD ["_law_state", "_law_room"] spDraw) (KP : Fk P w K mg base CX0 3 "_law_pick" dP ["_law_state", "_law_some"] (spPick K))
    (KN : Fk P w K mg base CX0 4 "_law_name" dN ["_law_state", "_law_barred"] spLName) (KE : Fk P w K mg base CX0 4 "_law_deed" dE ["_law_state", "_law_word", "_law_names"] spLDeed) (T : Txt K mg) :
    FnOk P w K mg base CX0 5 f fd2 ["_law_state", "_law_many", "_law_words", "_law_share"] spChain := by
  refine F.ok scChain (fun vs H Q E h => ?_) (fun cdv A outer s H vs Q E hr h => ?_)
  · obtain ⟨a, lw, lc, t, j, pw, ys, sh, rfl, _⟩ := h
    rfl
  · obtain ⟨a, lw, lc, t, j, pw, ys, sh, rfl, S, ht, j8, hpw, npw, W, k⟩ := h
    have hr2 := hr.mono (show 2 ≤ 4 by decide)
    have hr3 := hr.mono (show 3 ≤ 4 by decide)
    refine ⟨_, PSs.nox (pss_cons (ps_par (i := 4) (j := 5) (by rfl) scChain.nd rfl rfl (by decide) rfl rfl (pa_cons (pe_lst (pa_cons pe_str (pa_cons pe_str (pa_cons pe_str (pa_cons pe_str (pa_cons pe_str pa_nil)))))) (pa_cons (pe_lst pa_nil) pa_nil)) (by rfl))
      (pss_cons (ps_for PassesOwn.never rfl (pi_range1 (by rfl) T.range (pa_cons (pv 1) pa_nil)) (pg_name (i := 6) scChain.nd rfl (Or.inl rfl))
        (pss_cons (ps_set (i := 7) scChain.nd rfl (.inl rfl) (pe_ifExp (pt_cmpR op_lt (pe_call KD.ok hr2 (by rfl) KD.g KD.kp KD.b .nil pass0 (pa_cons (pv 0) (pa_cons pe_int pa_nil))) (pv 3) (nomark _)) (pe_slice sl_list (pv 4) (po_some (pe_callB (call_max2 rfl) (by rfl) T.max (by decide +kernel) (pa_cons pe_int (pa_cons (pe_op op_sub (pe_callB call_len_seq (by rfl) T.len PySem.boot_len (pa_cons (pv 4) pa_nil)) pe_int) pa_nil)))) po_none) (pv 4)))
        (pss_cons (ps_set (i := 8) scChain.nd rfl (.inl rfl) (pe_call KE.ok hr (by rfl) KE.g KE.kp KE.b .nil pass0 (pa_cons (pv 0) (pa_cons (pe_call KP.ok hr3 (by rfl) KP.g KP.kp KP.b .nil pass0 (pa_cons (pv 0) (pa_cons (pv 2) pa_nil))) (pa_cons (pe_ifExp (pt_cmpR op_gt (pe_callB call_len_seq (by rfl) T.len PySem.boot_len (pa_cons (pv 7) pa_nil)) pe_int (nomark _)) (pv 7) (pe_op op_cat (pe_op op_cat (pv 4) (pv 7)) (pv 7))) pa_nil)))))
        (pss_cons (ps_set (i := 9) scChain.nd rfl (.inl rfl) (pe_call KN.ok hr (by rfl) KN.g KN.kp KN.b .nil pass0 (pa_cons (pv 0) (pa_cons (pv 4) pa_nil))))
        (pss_cons (ps_expr (pe_bm PySem.F.plainAttrs_list PySem.F.slot_list_append PySem.F.type_list_append mt_append (pv 5) (pa_cons (pe_tup (pa_cons (pv 9) (pa_cons (pv 8) pa_nil))) pa_nil)))
        (pss_one (ps_expr (pe_bm PySem.F.plainAttrs_list PySem.F.slot_list_append PySem.F.type_list_append mt_append (pv 4) (pa_cons (pv 9) pa_nil)))))))))
      (pss_one (ps_ret (pv 5))))), ?_⟩
    refine ⟨(by show 5 ≤ sizeLine; decide), fun l2 n2 => ⟨(by show 0 ≤ sizeLine; decide), fun l1 n1 => ⟨_, _, rfl, ?_⟩⟩⟩
    have s2 := same_upd (o := .lst (SHEET.map V.str)) n2
    have g2 := upd_same (H := H) (a := l2) (o := .lst (SHEET.map V.str))
    have ee : L2.upd H l2 (.lst [V.str "o", .str "u", .str "uu", .str "v", .str "vv"]) = L2.upd H l2 (.lst (SHEET.map V.str)) := rfl
    rw [ee] at n1
    rw [ee]
    have s1 := same_upd (o := .lst []) n1
    have g1 := upd_same (H := L2.upd H l2 (.lst (SHEET.map V.str))) (a := l1) (o := .lst [])
    have n1H := s2.free n1
    obtain ⟨o2, o2c⟩ := S.new n2
    obtain ⟨o1, o1c⟩ := S.new n1H
    have n12 : l1 ≠ l2 := (ne_of_none g2 n1).symm
    have g2' := s1 _ _ g2
    generalize L2.upd (L2.upd H l2 (.lst (SHEET.map V.str))) l1 (.lst []) = H0 at s1 g1 g2'
    have sA := s2.trans s1
    have S0 := S.same sA
    have K01 : Kp [a, lw] H H0 := Kp.of sA
    have npl : pw ≠ l1 := fun z => by rw [z, n1H] at hpw; cases hpw
    have npl2 : pw ≠ l2 := fun z => by rw [z, n2] at hpw; cases hpw
    refine ⟨_, rfl, j, rfl, by omega, by omega, ?_⟩
    refine for_range (lo := 0) (n := j) (fun i σ G => ∃ (v6 v7 v8 v9 : Option V) (ws : List V) (ds : List (Str × Deed)), σ = [some (.ref a), some (.int j), some (.ref pw), some (.int sh), some (.ref l2), some (.ref l1), v6, v7, v8, v9] ∧ ds.length = i ∧ G l1 = some (.lst ws) ∧ G l2 = some (.lst ((SHEET ++ ds.map (·.1)).map V.str)) ∧
        F2 (Dq [a, lw, l1, l2] G) ws (ds.map stepPy) ∧ goesB SHEET (ds.map stepPy) = true ∧ (∀ s ∈ ds, s.1 ∈ NMS) ∧ (∀ s ∈ ds, DeedOk s.2 ∧ ∀ z ∈ s.2.names, z ∈ NMS) ∧ StA G a lw lc (t + 50 * i) ∧ Kp [a, lw] H G)
      ⟨none, none, none, none, [], [], rfl, rfl, g1, g2', .nil, rfl, (fun _ h => by cases h), (fun _ h => by cases h), S0, K01⟩ ?_ ?_
    · rintro i σ G hi ⟨v6, v7, v8, v9, ws, ds, rfl, ld, gl1, gl2, f2, dB, okN, okD, SG, KG⟩
      have lk : (SHEET ++ ds.map (·.1)).length = 5 + i := by
        rw [List.length_append, List.length_map, ld]
        rfl
      have inN : ∀ n ∈ SHEET ++ ds.map (·.1), n ∈ NMS := fun n hn => by
        rcases List.mem_append.mp hn with hn | hn
        · exact sheet_nms n hn
        · obtain ⟨s, hs, rfl⟩ := List.mem_map.mp hn
          exact okN s hs
      have okK : ∀ n ∈ SHEET ++ ds.map (·.1), NameOk n := fun n hn => (nms_item n (inN n hn)).2
      have gpw := KG _ _ hpw npw
      have npwl : pw ≠ lw := fun z => npw (by simp [z])
      have l20 := W.most
      refine asg_gen (fun x G1 => ∃ (nr : Addr) (ms : List Str), x = .ref nr ∧ G1 nr = some (.lst (ms.map V.str)) ∧ nr ∉ [a, lw] ∧ (∀ z ∈ ms, z ∈ SHEET ++ ds.map (·.1)) ∧ ms.length ≤ 13 ∧ StA G1 a lw lc (t + 50 * i + 1) ∧ Kp [a, lw] G G1) (fun Q0 q0 => ?_) ?_
      · refine ⟨_, rfl, a, lw, lc, _, _, rfl, SG, by omega, by decide, by decide, fun z G1 z0 z1 S1 K1 => ⟨_, rfl, _, _, rfl, rfl, _, rfl, ?_⟩⟩
        have h12 := K1 _ _ gl2 o2
        refine ite2 (fun _ => ?_) fun _ => ?_
        · refine ⟨_, rfl, _, rfl, l2, _, rfl, .inl (SqL.of h12), _, _, rfl, rfl, _, _, rfl, _, rfl, ?_⟩
          refine ⟨l2, _, rfl, SqL.of h12, fun p np => ?_⟩
          have hc : cutV ((SHEET ++ ds.map (·.1)).map V.str) (some (if ((((SHEET ++ ds.map (·.1)).map V.str).length : Nat) : Int) - 3 > 0 then ((((SHEET ++ ds.map (·.1)).map V.str).length : Nat) : Int) - 3 else 0)) none = ((SHEET ++ ds.map (·.1)).drop (5 + i - 3)).map V.str := by
            rw [List.length_map, lk, if_pos (by omega), show (((5 + i : Nat) : Int) - 3) = ((5 + i - 3 : Nat) : Int) by omega]
            show ((List.map V.str _).drop (HT.sIx _ 0 (some ((5 + i - 3 : Nat) : Int)))).take _ = _
            rw [HT.sIx_nat, List.length_map, lk, Nat.min_eq_left (by omega), List.map_drop]
            refine List.take_of_length_le ?_
            rw [List.length_drop, List.length_map, lk]
            show _ ≤ HT.sIx (5 + i) (5 + i) none - _
            rw [HT.sIx_none]
            exact Nat.le_refl _
          rw [hc]
          obtain ⟨np1, np2⟩ := S1.new np
          refine q0 _ _ ⟨p, _, rfl, upd_same, np1, fun z hz => List.mem_of_mem_drop hz, ?_, S1.same (same_upd np), K1.trans (Kp.of (same_upd np))⟩
          rw [List.length_drop, lk]
          omega
        · exact ⟨_, rfl, q0 _ _ ⟨l2, _, rfl, h12, o2, fun _ h => h, by omega, S1, K1⟩⟩
      rintro x G1 ⟨nr, ms, rfl, gnr, onr, hms, l13, S1, K1⟩
      refine gname_seq ?_
      refine asg_gen (fun x G2 => ∃ (p : Addr) (d : Deed), x = .ref p ∧ DeedOk d ∧ (∀ z ∈ d.names, z ∈ SHEET ++ ds.map (·.1)) ∧ G2 p = some (.tup d.vs) ∧ StA G2 a lw lc (t + 50 * i + 42) ∧ Kp [a, lw] G G2) (fun Q0 q0 => ?_) ?_
      · have h12 := K1 _ _ gl2 o2
        refine ⟨_, rfl, _, rfl, _, rfl, a, lw, lc, _, pw, _, rfl, S1, by omega, K1 _ _ gpw npw, npwl, by rw [List.length_map]; exact W.pos, by rw [List.length_map]; omega, fun j2 x G2 hx S2 K2 => ?_⟩
        obtain ⟨wd, hwd, rfl⟩ := List.mem_map.mp (List.mem_of_getElem? hx)
        obtain ⟨m, kk, hm⟩ := W.mem wd hwd
        have g2n := K2 _ _ gnr onr
        have g2l := K2 _ _ h12 o2
        have deed : ∀ (n : Addr) (kn : List Str) (G3 : Hp), StA G3 a lw lc (t + 50 * i + 1 + 1) → Kp [a, lw] G G3 → G3 n = some (.lst (kn.map V.str)) → n ∉ [a, lw] → 0 < kn.length → kn.length ≤ 20 → (∀ z ∈ kn, z ∈ SHEET ++ ds.map (·.1)) → spLDeed [.ref a, .str wd, .ref n] G3 Q0 E0 := fun n kn G3 S3 K3 gn on l0 l20' hk => by
          refine ⟨a, lw, lc, _, wd, m, kk, n, kn, rfl, S3, by omega, hm, gn, on, l0, l20', fun z hz => okK z (hk z hz), fun p d G4 dw okd dn S4 K4 np hp => ?_⟩
          exact q0 _ _ ⟨p, d, rfl, okd, fun z hz => hk z (dn z hz), hp, S4.more (by omega), K3.trans K4⟩
        refine ⟨_, rfl, nr, _, rfl, .inl (SqL.of g2n), _, _, rfl, rfl, _, rfl, ?_⟩
        rw [List.length_map]
        refine ite2 (fun c => ?_) fun c => ?_
        · have c4 : 4 < ms.length := by
            have := of_decide_eq_true c
            omega
          exact ⟨_, rfl, deed nr ms G2 S2 (K1.trans K2) g2n onr (by omega) (by omega) hms⟩
        · have c4 : ms.length ≤ 4 := by
            have q : ¬ ((ms.length : Nat) : Int) > (4 : Int) := fun q => c (decide_eq_true q)
            omega
          refine ⟨_, rfl, _, rfl, l2, nr, _, _, rfl, rfl, g2l, g2n, by rw [List.length_map, List.length_map, lk]; exact Nat.le_trans (show 5 + i + ms.length ≤ 100 by omega) (by decide), fun u1 nu1 => ?_⟩
          have u2 := same_upd (o := .lst ((SHEET ++ ds.map (·.1)).map V.str ++ ms.map V.str)) nu1
          have hu1 := upd_same (H := G2) (a := u1) (o := .lst ((SHEET ++ ds.map (·.1)).map V.str ++ ms.map V.str))
          have S3 := S2.same u2
          have g3n := u2 _ _ g2n
          have K3 := K2.trans (Kp.of u2)
          generalize L2.upd G2 u1 (.lst ((SHEET ++ ds.map (·.1)).map V.str ++ ms.map V.str)) = G3 at hu1 S3 g3n K3
          refine ⟨_, rfl, u1, nr, _, _, rfl, rfl, hu1, g3n, by rw [List.length_append, List.length_map, List.length_map, lk]; exact Nat.le_trans (show 5 + i + ms.length + ms.length ≤ 100 by omega) (by decide), fun u4 nu4 => ?_⟩
          have u5 := same_upd (o := .lst ((SHEET ++ ds.map (·.1)).map V.str ++ ms.map V.str ++ ms.map V.str)) nu4
          have e4 : (SHEET ++ ds.map (·.1)).map V.str ++ ms.map V.str ++ ms.map V.str = ((SHEET ++ ds.map (·.1)) ++ ms ++ ms).map V.str := by simp only [List.map_append]
          refine deed u4 ((SHEET ++ ds.map (·.1)) ++ ms ++ ms) _ (S3.same u5) ((K1.trans K3).trans (Kp.of u5)) (by rw [upd_same, e4]) (S3.new nu4).1 ?_ ?_ fun z hz => ?_
          · rw [List.length_append, List.length_append, lk]
            omega
          · rw [List.length_append, List.length_append, lk]
            omega
          · rcases List.mem_append.mp hz with hz | hz
            · rcases List.mem_append.mp hz with hz | hz
              · exact hz
              · exact hms z hz
            · exact hms z hz
      rintro x G2 ⟨p, d, rfl, okd, dn, hp, S2, K2⟩
      have h21 := K2 _ _ gl1 o1
      have h22 := K2 _ _ gl2 o2
      refine ⟨_, rfl, _, rfl, a, lw, lc, _, l2, _, rfl, S2, by omega, h22, o2, by omega, fun n G3 okn mn frn S4 K4 => ?_⟩
      have h31 := K4 _ _ h21 o1
      have h32 := K4 _ _ h22 o2
      have hp3 := S2.tupK K4 hp
      refine ⟨_, rfl, .inl ⟨rfl, _, .inl (.inl h31)⟩, _, rfl, _, rfl, (by show 2 ≤ sizeLine; decide), fun tt ntt => ?_⟩
      have s6 := same_upd (o := .tup [.str n, .ref p]) ntt
      have h41 := s6 _ _ h31
      have h42 := s6 _ _ h32
      have lw5 : ws.length = i := by rw [f2.len, List.length_map, ld]
      have htt := upd_same (H := G3) (a := tt) (o := .tup [V.str n, .ref p])
      have hp6 := s6 _ _ hp3
      have S6 := S4.same s6
      have kk6 : Kp [a, lw] G (L2.upd G3 tt (.tup [V.str n, .ref p])) := (K2.trans K4).trans (Kp.of s6)
      generalize L2.upd G3 tt (.tup [V.str n, .ref p]) = G5 at h41 h42 htt hp6 S6 kk6
      refine ⟨l1, _, _, rfl, rfl, h41, by rw [lw5]; exact Nat.lt_of_lt_of_le (show i < 10 by omega) (by decide), ?_⟩
      have h52 : (L2.upd G5 l1 (.lst (ws ++ [V.ref tt]))) l2 = some (.lst ((SHEET ++ ds.map (·.1)).map V.str)) := by
        rw [upd_ne n12.symm]
        exact h42
      refine ⟨_, rfl, .inl ⟨rfl, _, .inl (.inl h52)⟩, _, rfl, l2, _, _, rfl, rfl, h52, by rw [List.length_map, lk]; exact Nat.lt_of_lt_of_le (show 5 + i < 20 by omega) (by decide), ?_⟩
      have tl1 : tt ≠ l1 := ne_of htt h41 (by intro z; cases z)
      have tl2 : tt ≠ l2 := ne_of htt h42 (by intro z; cases z)
      have pl1 : p ≠ l1 := ne_of hp6 h41 (by intro z; cases z)
      have pl2 : p ≠ l2 := ne_of hp6 h42 (by intro z; cases z)
      have offA : ∀ {b : Addr} {xs : List V}, G5 b = some (.tup xs) → b ≠ l1 → b ≠ l2 → b ∉ [a, lw, l1, l2] := fun {b xs} hb q1 q2 => by
        have q := S6.off hb (fun _ z => by cases z) fun _ z => by cases z
        simp only [List.mem_cons, List.not_mem_nil, or_false, not_or] at q ⊢
        exact ⟨q.1, q.2, q1, q2⟩
      have kE : KpE [a, lw, l1, l2] G (L2.upd (L2.upd G5 l1 (.lst (ws ++ [V.ref tt]))) l2 (.lst ((SHEET ++ ds.map (·.1)).map V.str ++ [V.str n]))) := fun b o e nb _ => by
        simp only [List.mem_cons, List.not_mem_nil, or_false, not_or] at nb
        rw [upd_ne nb.2.2.2, upd_ne nb.2.2.1]
        exact kk6 b o e (by simp [nb.1, nb.2.1])
      have ttF : (L2.upd (L2.upd G5 l1 (.lst (ws ++ [V.ref tt]))) l2 (.lst ((SHEET ++ ds.map (·.1)).map V.str ++ [V.str n]))) tt = some (.tup [V.str n, .ref p]) := by
        rw [upd_ne tl2, upd_ne tl1]
        exact htt
      have pF : (L2.upd (L2.upd G5 l1 (.lst (ws ++ [V.ref tt]))) l2 (.lst ((SHEET ++ ds.map (·.1)).map V.str ++ [V.str n]))) p = some (.tup d.vs) := by
        rw [upd_ne pl2, upd_ne pl1]
        exact hp6
      refine ⟨_, _, _, _, ws ++ [V.ref tt], ds ++ [(n, d)], rfl, by rw [List.length_append, ld]; rfl, ?_, ?_, ?_, ?_, ?_, ?_, ?_, ?_⟩
      · rw [upd_ne n12, upd_same]
      · rw [upd_same]
        simp
      · have em : (ds ++ [(n, d)]).map stepPy = ds.map stepPy ++ [.tuple [.str n, d.py]] := List.map_append
        rw [em]
        refine (f2.mono fun _ _ q => Dq.keep kE _ _ q).snoc ?_
        exact .tup (offA htt tl1 tl2) ttF (.cons (.str n) (.cons (Dq.of_deed (offA hp6 pl1 pl2) pF) .nil))
      · refine goes_snoc ds SHEET n d dB ⟨okn, frn, deedB_of okd, fun z hz => ?_⟩
        rw [dnames_py okd] at hz
        exact dn z hz
      · intro y hy
        rcases List.mem_append.mp hy with hy | hy
        · exact okN y hy
        · rw [List.mem_singleton.mp hy]
          exact law_nms n mn
      · intro y hy
        rcases List.mem_append.mp hy with hy | hy
        · exact okD y hy
        · rw [List.mem_singleton.mp hy]
          exact ⟨okd, fun z hz => inN z (dn z hz)⟩
      · exact ((S6.put o1 o1c _).put o2 o2c _).more (by omega)
      · exact fun b o e nb => by
          rw [upd_ne (ne_of_none e n2), upd_ne (ne_of_none e n1H)]
          exact (KG.trans kk6) b o e nb
    · rintro σ G ⟨v6, v7, v8, v9, ws, ds, rfl, ld, gl1, gl2, f2, dB, okN, okD, SG, KG⟩
      refine ⟨_, rfl, k l1 ws ds G ⟨by omega, dB, okN, okD⟩ ld (f2.mono fun e d q => Dq.weak (fun b hb => ?_) _ _ q) o1 o1c n1H gl1 (SG.more (by omega)) KG⟩
      simp only [List.mem_cons, List.not_mem_nil, or_false] at hb ⊢
      rcases hb with h | h | h
      · exact .inl h
      · exact .inr (.inl h)
      · exact .inr (.inr (.inl h))
end
end Own
set_option Elab.async false
set_option linter.all false
set_option maxRecDepth 100000
set_option maxHeartbeats 400000
namespace Own
open PySem PySem.Spec PyProof.Rows L2
/-! ### what names hang on, in plain words -/
/-- steps, the last one first: each looks back at the sheet and at those behind it here -/
def BackOk : List (Str × Deed) → Prop
  | [] => True
  | s :: q => (∀ z ∈ s.2.names, z ∈ SHEET ∨ z ∈ q.map (·.1)) ∧ s.1 ∉ SHEET ∧ s.1 ∉ q.map (·.1) ∧ BackOk q
def stepN : PyData → Str
  | .tuple [.str n, _] => n
  | _ => ""
theorem stepN_of {kn : List Str} {d : PyData} {n : Str} (q : stepB kn d = some n) : stepN d = n := by
  unfold stepB at q
  split at q
  · by_cases c : StepOk kn ‹Str› ‹PyData›
    · rw [if_pos c] at q
      exact Option.some.inj q
    · rw [if_neg c] at q
      cases q
  · cases q
theorem goes_split : ∀ {ds : List PyData} {kn : List Str} {e : PyData}, goesB kn (ds ++ [e]) = true → goesB kn ds = true ∧ ∃ n, stepB (kn ++ ds.map stepN) e = some n
  | [], kn, e, h => by
    refine ⟨rfl, ?_⟩
    rw [List.map_nil, List.append_nil]
    cases q : stepB kn e with
    | none =>
      have h' : goesB kn (e :: []) = true := h
      rw [goes_bad q] at h'
      cases h'
    | some n => exact ⟨n, rfl⟩
  | d :: ds, kn, e, h => by
    have h' : goesB kn (d :: (ds ++ [e])) = true := h
    cases q : stepB kn d with
    | none =>
      rw [goes_bad q] at h'
      cases h'
    | some n =>
      have e1 : ∀ r, goesB kn (d :: r) = goesB (kn ++ [n]) r := fun r => by
        show (match stepB kn d with
          | some n => goesB (kn ++ [n]) r
          | none => false) = _
        rw [q]
      rw [e1] at h'
      obtain ⟨a, m, b⟩ := goes_split h'
      refine ⟨(e1 ds).trans a, m, ?_⟩
      have en : stepN d = n := stepN_of q
      rw [List.map_cons, en]
      simpa using b
theorem back_of : ∀ (r : List (Str × Deed)), goesB SHEET (r.reverse.map stepPy) = true → (∀ s ∈ r, DeedOk s.2) → BackOk r
  | [], _, _ => trivial
  | s :: q, h, ok => by
    rw [List.reverse_cons, List.map_append] at h
    obtain ⟨a, n, b⟩ := goes_split h
    have em : (q.reverse.map stepPy).map stepN = q.reverse.map (·.1) := by
      rw [List.map_map]
      rfl
    rw [em] at b
    have b' : (if StepOk (SHEET ++ q.reverse.map (·.1)) s.1 s.2.py then some s.1 else none : Option Str) = some n := b
    have so : StepOk (SHEET ++ q.reverse.map (·.1)) s.1 s.2.py := Classical.byContradiction fun z => by
      rw [if_neg z] at b'
      cases b'
    have mr : ∀ z, z ∈ q.reverse.map (·.1) ↔ z ∈ q.map (·.1) := fun z => by simp
    refine ⟨fun z hz => ?_, fun z => so.2.1 (List.mem_append_left _ z), fun z => so.2.1 (List.mem_append_right _ ((mr _).mpr z)), back_of q a fun s hs => ok s (List.mem_cons_of_mem _ hs)⟩
    have := so.2.2.2 z (by rw [dnames_py (ok s List.mem_cons_self)]; exact hz)
    rcases List.mem_append.mp this with m | m
    · exact .inl m
    · exact .inr ((mr _).mp m)
theorem back_all : ∀ {r : List (Str × Deed)}, BackOk r → ∀ s ∈ r, (∀ z ∈ s.2.names, z ∈ SHEET ∨ z ∈ r.map (·.1)) ∧ s.1 ∉ SHEET
  | [], _, _, h => by cases h
  | t :: q, b, s, h => by
    obtain ⟨b1, b2, b3, b4⟩ := b
    rcases List.mem_cons.mp h with rfl | h
    · exact ⟨fun z hz => (b1 z hz).imp id fun m => List.mem_cons_of_mem _ m, b2⟩
    · obtain ⟨c1, c2⟩ := back_all b4 s h
      exact ⟨fun z hz => (c1 z hz).imp id fun m => List.mem_cons_of_mem _ m, c2⟩
theorem back_uniq : ∀ {r : List (Str × Deed)}, BackOk r → ∀ s ∈ r, ∀ t ∈ r, s.1 = t.1 → s = t
  | [], _, _, h, _, _, _ => by cases h
  | u :: q, b, s, hs, t, ht, e => by
    obtain ⟨b1, b2, b3, b4⟩ := b
    have inq : ∀ x ∈ q, x.1 ∈ q.map (·.1) := fun x hx => List.mem_map.mpr ⟨x, hx, rfl⟩
    rcases List.mem_cons.mp hs with rfl | hs2
    · rcases List.mem_cons.mp ht with rfl | ht2
      · rfl
      · exact absurd (e ▸ inq t ht2) b3
    · rcases List.mem_cons.mp ht with rfl | ht2
      · exact absurd (e ▸ inq s hs2) b3
      · exact back_uniq b4 s hs2 t ht2 e
theorem pickR_sub : ∀ {r : List (Str × Deed)} {W : List Str}, ∀ s ∈ pickR r W, s ∈ r
  | [], _, _, h => h
  | t :: q, W, s, h => by
    by_cases c : t.1 ∈ W
    · rw [pickR_yes c] at h
      rcases List.mem_cons.mp h with rfl | h
      · exact List.mem_cons_self
      · exact List.mem_cons_of_mem _ (pickR_sub s h)
    · rw [pickR_no c] at h
      exact List.mem_cons_of_mem _ (pickR_sub s h)
theorem pickR_has : ∀ {r : List (Str × Deed)} {W : List Str}, ∀ s ∈ r, s.1 ∈ W → s ∈ pickR r W
  | t :: q, W, s, h, hs => by
    by_cases c : t.1 ∈ W
    · rw [pickR_yes c]
      rcases List.mem_cons.mp h with rfl | h
      · exact List.mem_cons_self
      · exact List.mem_cons_of_mem _ (pickR_has s h (List.mem_append_left _ hs))
    · rw [pickR_no c]
      rcases List.mem_cons.mp h with rfl | h
      · exact absurd hs c
      · exact pickR_has s h hs
theorem pickR_closed : ∀ {r : List (Str × Deed)} {W : List Str}, BackOk r → ∀ s ∈ pickR r W, ∀ z ∈ s.2.names, ∀ t ∈ r, t.1 = z → t ∈ pickR r W
  | u :: q, W, b, s, h, z, hz, t, ht, e => by
    obtain ⟨b1, b2, b3, b4⟩ := b
    by_cases c : u.1 ∈ W
    · rw [pickR_yes c] at h ⊢
      rcases List.mem_cons.mp ht with rfl | ht2
      · exact List.mem_cons_self
      rcases List.mem_cons.mp h with rfl | h2
      · exact List.mem_cons_of_mem _ (pickR_has t ht2 (List.mem_append_right _ (e ▸ hz)))
      · exact List.mem_cons_of_mem _ (pickR_closed b4 s h2 z hz t ht2 e)
    · rw [pickR_no c] at h ⊢
      rcases List.mem_cons.mp ht with rfl | ht
      · exfalso
        rcases (back_all b4 s (pickR_sub s h)).1 z hz with m | m
        · exact b2 (e ▸ m)
        · exact b3 (e ▸ m)
      · exact pickR_closed b4 s h z hz t ht e
theorem pickR_least : ∀ {r : List (Str × Deed)} {W C : List Str}, (∀ z ∈ W, z ∈ r.map (·.1) → z ∈ C) → (∀ s ∈ r, s.1 ∈ C → ∀ z ∈ s.2.names, z ∈ r.map (·.1) → z ∈ C) → ∀ s ∈ pickR r W, s.1 ∈ C
  | [], _, _, _, _, _, h => by cases h
  | t :: q, W, C, h1, h2, s, h => by
    have up : ∀ {z : Str}, z ∈ q.map (·.1) → z ∈ (t :: q).map (·.1) := fun m => List.mem_cons_of_mem _ m
    have q2 : ∀ s ∈ q, s.1 ∈ C → ∀ z ∈ s.2.names, z ∈ q.map (·.1) → z ∈ C := fun s hs hc z hz m => h2 s (List.mem_cons_of_mem _ hs) hc z hz (up m)
    by_cases c : t.1 ∈ W
    · rw [pickR_yes c] at h
      have ht : t.1 ∈ C := h1 _ c List.mem_cons_self
      rcases List.mem_cons.mp h with rfl | h
      · exact ht
      · refine pickR_least (fun z hz m => ?_) q2 s h
        rcases List.mem_append.mp hz with hz | hz
        · exact h1 z hz (up m)
        · exact h2 t List.mem_cons_self ht z hz (up m)
    · rw [pickR_no c] at h
      exact pickR_least (fun z hz m => h1 z hz (up m)) q2 s h
theorem pickR_filter : ∀ {r : List (Str × Deed)} {W : List Str}, BackOk r → pickR r W = r.filter fun s => decide (s.1 ∈ (pickR r W).map (·.1))
  | [], _, _ => rfl
  | t :: q, W, b => by
    obtain ⟨b1, b2, b3, b4⟩ := b
    have ih := pickR_filter (W := W) b4
    have ih2 := pickR_filter (W := W ++ t.2.names) b4
    by_cases c : t.1 ∈ W
    · rw [pickR_yes c, List.filter_cons, if_pos (by simp)]
      refine congrArg (t :: ·) ?_
      refine ih2.trans (List.filter_congr fun s hs => ?_)
      rw [Bool.eq_iff_iff, decide_eq_true_iff, decide_eq_true_iff, List.map_cons, List.mem_cons]
      have ne : s.1 ≠ t.1 := fun e => b3 (e ▸ List.mem_map.mpr ⟨s, hs, rfl⟩)
      simp [ne]
    · rw [pickR_no c, List.filter_cons, if_neg ?_]
      · exact ih
      · intro h
        obtain ⟨s, hs, e⟩ := List.mem_map.mp (of_decide_eq_true h)
        exact b3 (e ▸ List.mem_map.mpr ⟨s, pickR_sub s hs, rfl⟩)
/-- closed sets of names -/
structure Closed (sts : List (Str × Deed)) (ns C : List Str) : Prop where
  a : ∀ z ∈ ns, z ∈ sts.map (·.1) → z ∈ C
  b : ∀ s ∈ sts, s.1 ∈ C → ∀ z ∈ s.2.names, z ∈ sts.map (·.1) → z ∈ C
structure Least (sts : List (Str × Deed)) (ns F : List Str) : Prop where
  cl : Closed sts ns F
  le : ∀ C, Closed sts ns C → ∀ z ∈ F, z ∈ C
theorem need_mem {sts : List (Str × Deed)} {ns : List Str} {s : Str × Deed} : s ∈ needL sts ns ↔ s ∈ pickR sts.reverse ns := by
  unfold needL
  rw [List.mem_reverse]
theorem need_closed {sts : List (Str × Deed)} {ns : List Str} (b : BackOk sts.reverse) : Closed sts ns ((needL sts ns).map (·.1)) := by
  refine ⟨fun z hz m => ?_, fun s hs hc z hz m => ?_⟩
  · obtain ⟨t, ht, rfl⟩ := List.mem_map.mp m
    exact List.mem_map.mpr ⟨t, need_mem.mpr (pickR_has t (List.mem_reverse.mpr ht) hz), rfl⟩
  · obtain ⟨t, ht, rfl⟩ := List.mem_map.mp m
    obtain ⟨u, hu, e⟩ := List.mem_map.mp hc
    have hu' := need_mem.mp hu
    have : u = s := back_uniq b u (pickR_sub u hu') s (List.mem_reverse.mpr hs) e
    subst this
    exact List.mem_map.mpr ⟨t, need_mem.mpr (pickR_closed b u hu' _ hz t (List.mem_reverse.mpr ht) rfl), rfl⟩
theorem need_le {sts : List (Str × Deed)} {ns C : List Str} (h : Closed sts ns C) : ∀ s ∈ needL sts ns, s.1 ∈ C := fun s hs =>
  pickR_least (r := sts.reverse) (fun z hz m => h.a z hz (by simpa using m)) (fun s hs hc z hz m => h.b s (List.mem_reverse.mp hs) hc z hz (by simpa using m)) s (need_mem.mp hs)
theorem least_eq {sts : List (Str × Deed)} {ns F : List Str} (b : BackOk sts.reverse) (h : Least sts ns F) : (sts.filter fun s => decide (s.1 ∈ F)) = needL sts ns := by
  have e : needL sts ns = sts.filter fun s => decide (s.1 ∈ (needL sts ns).map (·.1)) := by
    have q := congrArg List.reverse (pickR_filter (W := ns) b)
    rw [← List.filter_reverse, List.reverse_reverse] at q
    refine q.trans (List.filter_congr fun s _ => ?_)
    rw [Bool.eq_iff_iff, decide_eq_true_iff, decide_eq_true_iff]
    unfold needL
    simp
  rw [e]
  refine List.filter_congr fun s hs => ?_
  rw [Bool.eq_iff_iff, decide_eq_true_iff, decide_eq_true_iff]
  constructor
  · exact h.le _ (need_closed b) _
  · intro m
    obtain ⟨t, ht, e⟩ := List.mem_map.mp m
    rw [← e]
    exact need_le h.cl t ht
/-- a part that has all the names has what they need -/
theorem need_part {sts part : List (Str × Deed)} {ns : List Str} (b : BackOk sts.reverse) (bp : BackOk part.reverse) (sub : ∀ s ∈ part, s ∈ sts) (has : ∀ z ∈ ns, z ∈ SHEET ∨ z ∈ part.map (·.1)) : ∀ s ∈ needL sts ns, s ∈ part := fun s hs => by
  have no : ∀ t ∈ sts, t.1 ∉ SHEET := fun t ht => (back_all b t (List.mem_reverse.mpr ht)).2
  have cl : Closed sts ns (part.map (·.1)) := by
    refine ⟨fun z hz m => ?_, fun t ht hc z hz m => ?_⟩
    · obtain ⟨t, ht, rfl⟩ := List.mem_map.mp m
      exact (has _ hz).resolve_left (no t ht)
    · obtain ⟨u, hu, e⟩ := List.mem_map.mp hc
      have : u = t := back_uniq b u (List.mem_reverse.mpr (sub u hu)) t (List.mem_reverse.mpr ht) e
      subst this
      obtain ⟨v, hv, rfl⟩ := List.mem_map.mp m
      have := (back_all bp u (List.mem_reverse.mpr hu)).1 _ hz
      refine (this.resolve_left (no v hv)) |> fun q => by simpa using q
  obtain ⟨u, hu, e⟩ := List.mem_map.mp (need_le cl s hs)
  have : u = s := back_uniq b u (List.mem_reverse.mpr (sub u hu)) s (List.mem_reverse.mpr (List.mem_reverse.mp (pickR_sub s (need_mem.mp hs)))) e
  exact this ▸ hu
/-- the walk back, step by step -/
structure Hang (sts : List (Str × Deed)) (ns fo td : List Str) : Prop where
  a : ∀ z ∈ ns, z ∈ sts.map (·.1) → z ∈ fo ∨ z ∈ td
  b : ∀ s ∈ sts, s.1 ∈ fo → ∀ z ∈ s.2.names, z ∈ sts.map (·.1) → z ∈ fo ∨ z ∈ td
  c : ∀ C, Closed sts ns C → (∀ z ∈ fo, z ∈ C) ∧ ∀ z ∈ td, z ∈ sts.map (·.1) → z ∈ C
  nd : fo.Nodup
  sub : ∀ z ∈ fo, z ∈ sts.map (·.1)
theorem Hang.start (sts : List (Str × Deed)) (ns : List Str) : Hang sts ns [] ns :=
  ⟨fun z hz _ => .inr hz, (fun s _ h => by cases h), fun C h => ⟨(fun z hz => by cases hz), h.a⟩, List.nodup_nil, (fun z hz => by cases hz)⟩
theorem Hang.done {sts : List (Str × Deed)} {ns fo : List Str} (h : Hang sts ns fo []) : Least sts ns fo :=
  ⟨⟨fun z hz m => (h.a z hz m).resolve_right (by simp), fun s hs hc z hz m => (h.b s hs hc z hz m).resolve_right (by simp)⟩, fun C hC => (h.c C hC).1⟩
theorem Hang.skip {sts : List (Str × Deed)} {ns fo td : List Str} {z : Str} (h : Hang sts ns fo (td ++ [z])) (q : z ∈ sts.map (·.1) → z ∈ fo) : Hang sts ns fo td := by
  have mv : ∀ y, y ∈ sts.map (·.1) → y ∈ fo ∨ y ∈ td ++ [z] → y ∈ fo ∨ y ∈ td := fun y m hy => by
    rcases hy with hy | hy
    · exact .inl hy
    rcases List.mem_append.mp hy with hy | hy
    · exact .inr hy
    · rw [List.mem_singleton.mp hy] at m ⊢
      exact .inl (q m)
  exact ⟨fun y hy m => mv y m (h.a y hy m), fun s hs hc y hy m => mv y m (h.b s hs hc y hy m), fun C hC => ⟨(h.c C hC).1, fun y hy => (h.c C hC).2 y (List.mem_append_left _ hy)⟩, h.nd, h.sub⟩
theorem Hang.take_ {sts : List (Str × Deed)} {ns fo td : List Str} {s : Str × Deed} (u : ∀ a ∈ sts, ∀ b ∈ sts, a.1 = b.1 → a = b) (h : Hang sts ns fo (td ++ [s.1])) (hs : s ∈ sts) (no : s.1 ∉ fo) : Hang sts ns (fo ++ [s.1]) (td ++ s.2.names) := by
  have mv : ∀ y, y ∈ fo ∨ y ∈ td ++ [s.1] → y ∈ fo ++ [s.1] ∨ y ∈ td ++ s.2.names := fun y hy => by
    rcases hy with hy | hy
    · exact .inl (List.mem_append_left _ hy)
    rcases List.mem_append.mp hy with hy | hy
    · exact .inr (List.mem_append_left _ hy)
    · exact .inl (List.mem_append_right _ hy)
  have ms : s.1 ∈ sts.map (·.1) := List.mem_map.mpr ⟨s, hs, rfl⟩
  refine ⟨fun y hy m => mv y (h.a y hy m), fun t ht hc y hy m => ?_, fun C hC => ⟨fun y hy => ?_, fun y hy m => ?_⟩, ?_, fun y hy => ?_⟩
  · rcases List.mem_append.mp hc with hc | hc
    · exact mv y (h.b t ht hc y hy m)
    · have : t = s := u t ht s hs (List.mem_singleton.mp hc)
      subst this
      exact .inr (List.mem_append_right _ hy)
  · rcases List.mem_append.mp hy with hy | hy
    · exact (h.c C hC).1 y hy
    · rw [List.mem_singleton.mp hy]
      exact (h.c C hC).2 _ (by simp) ms
  · rcases List.mem_append.mp hy with hy | hy
    · exact (h.c C hC).2 y (List.mem_append_left _ hy) m
    · exact hC.b s hs ((h.c C hC).2 _ (by simp) ms) y hy m
  · refine List.nodup_append.mpr ⟨h.nd, by simp, fun x hx y hy e => ?_⟩
    rw [List.mem_singleton.mp hy] at e
    exact no (e ▸ hx)
  · rcases List.mem_append.mp hy with hy | hy
    · exact h.sub y hy
    · rw [List.mem_singleton.mp hy]
      exact ms
theorem Hang.len {sts : List (Str × Deed)} {ns fo td : List Str} (h : Hang sts ns fo td) : fo.length ≤ sts.length := by
  have := nodup_le h.nd h.sub
  rw [List.length_map] at this
  exact this
end Own
set_option Elab.async false
set_option linter.all false
set_option maxRecDepth 100000
set_option maxHeartbeats 400000
namespace Own
open PySem PySem.Spec PyProof.Rows L2 LamX
/-! ### the law's walk back -/
def DeedV (H : Hp) (kv : Key × V) (s : Str × Deed) : Prop := kv.1 = Sum.inr s.1 ∧ ∃ p, kv.2 = .ref p ∧ H p = some (.tup s.2.vs)
theorem steps_pairs {K : PySem.W.Frag} {N : List Addr} {H : Hp} : ∀ {sts : List (Str × Deed)} {ws : List V}, F2 (Dq N H) ws (sts.map stepPy) → ∃ (ts : List Addr) (kvs : List (Key × V)), ws = ts.map V.ref ∧ Paired (fun p kv => SqT K H p [kV kv.1, kv.2]) ts kvs ∧ F2 (DeedV H) kvs sts
  | [], _, .nil => ⟨[], [], rfl, .nil, .nil⟩
  | s :: sts, _, .cons h t => by
    obtain ⟨ts, kvs, rfl, a, b⟩ := steps_pairs (sts := sts) t
    obtain ⟨q, p, rfl, _, hq, _, hp⟩ := dq_stepA h
    exact ⟨q :: ts, (Sum.inr s.1, .ref p) :: kvs, rfl, .cons (SqT.of hq) a, .cons ⟨rfl, p, rfl, hp⟩ b⟩
theorem deedv_look {H : Hp} {z : Str} : ∀ {kvs : List (Key × V)} {sts : List (Str × Deed)}, F2 (DeedV H) kvs sts → (z ∉ sts.map (·.1) → valV kvs (Sum.inr z) = none) ∧ (z ∈ sts.map (·.1) → ∃ s ∈ sts, s.1 = z ∧ ∃ p, valV kvs (Sum.inr z) = some (.ref p) ∧ H p = some (.tup s.2.vs))
  | _, _, .nil => ⟨fun _ => rfl, (fun h => by cases h)⟩
  | (k, v) :: kvs, s :: sts, .cons ⟨e, p, e2, hp⟩ t => by
    obtain ⟨a, b⟩ := deedv_look (z := z) t
    dsimp only at e e2
    subst e e2
    by_cases c : s.1 = z
    · subst c
      have ev : valV ((Sum.inr s.1, V.ref p) :: kvs) (Sum.inr s.1 : Key) = some (.ref p) := by
        unfold valV
        rw [List.find?_cons_of_pos (by simp)]
        rfl
      refine ⟨fun h => absurd (by simp) h, fun _ => ⟨s, List.mem_cons_self, rfl, p, ev, hp⟩⟩
    · have ev : valV ((Sum.inr s.1, V.ref p) :: kvs) (Sum.inr z : Key) = valV kvs (Sum.inr z) := by
        unfold valV
        rw [List.find?_cons_of_neg (by simpa using c)]
      rw [ev]
      refine ⟨fun h => a fun m => h (List.mem_cons_of_mem _ m), fun h => ?_⟩
      rcases List.mem_cons.mp h with e | h
      · exact absurd e.symm c
      · obtain ⟨u, hu, r⟩ := b h
        exact ⟨u, List.mem_cons_of_mem _ hu, r⟩
theorem merge_new {H : Hp} : ∀ {kvs : List (Key × V)} {sts : List (Str × Deed)} {acc : List (Key × V)} {pre : List (Str × Deed)}, F2 (DeedV H) acc pre → F2 (DeedV H) kvs sts → ((pre ++ sts).map (·.1)).Nodup → mergeK acc kvs = acc ++ kvs
  | _, _, acc, _, _, .nil, _ => (List.append_nil acc).symm
  | (k, v) :: kvs, s :: sts, acc, pre, fa, .cons ⟨e, p, e2, hp⟩ t, nd => by
    dsimp only at e e2
    subst e e2
    have no : s.1 ∉ pre.map (·.1) := fun m => by
      rw [List.map_append, List.nodup_append] at nd
      exact nd.2.2 _ m _ (List.mem_map.mpr ⟨s, List.mem_cons_self, rfl⟩) rfl
    show mergeK (putK acc (Sum.inr s.1) (.ref p)) kvs = _
    rw [putK_new _ ((deedv_look fa).1 no), merge_new (fa.snoc (b := s) ⟨rfl, p, rfl, hp⟩) t (by simpa using nd)]
    simp
theorem back_nodup : ∀ {r : List (Str × Deed)}, BackOk r → (r.map (·.1)).Nodup
  | [], _ => List.nodup_nil
  | _ :: _, b => List.nodup_cons.mpr ⟨b.2.2.1, back_nodup b.2.2.2⟩
theorem seq_cut {t u : TS} {D : Ends} {σ : L2.St} {H : Hp} (C : L2.St → Hp → Prop) (h : ∀ N : L2.St → Hp → Prop, (∀ σ' H', C σ' H' → N σ' H') → t { D with nx := N } σ H) (k : ∀ σ' H', C σ' H' → u D σ' H') : tSeq t u D σ H := h _ k
theorem nx_seq {a b : TS} {D : Ends} {r : VK} {c e : L2.St → Hp → Prop} {σ : L2.St} {H : Hp} (h : tSeq a b D σ H) : Ends.nx { nx := tSeq a b D, rt := r, bk := c, ct := e } σ H := h
def spHung : Sp := fun vs H Q _ => ∃ (a nl : Addr) (ws : List V) (sts : List (Str × Deed)) (ns : List Str), vs = [.ref a, .ref nl] ∧ H a = some (.lst ws) ∧ F2 (Dq [] H) ws (sts.map stepPy) ∧ sts.length ≤ 50 ∧ (∀ s ∈ sts, DeedOk s.2) ∧ BackOk sts.reverse ∧ H nl = some (.lst (ns.map V.str)) ∧ ns.length ≤ 50 ∧ (∀ z ∈ ns, NameOk z) ∧
  ∀ p us H', Same H H' → H p = none → H' p = some (.lst us) → F2 (Dq [] H') us ((needL sts ns).map stepPy) → Q (.ref p) H'
section
variable {P : Program} {w : World} {K : PySem.W.Frag} {mg : Str → Option Value} {base : Heap} {f : Addr} {fd2 dM : FuncData}
abbrev nsHung : List Str := ["_law_steps", "_law_names", "_law_own", "_law_found", "_law_todo", "_law_turn", "_law_name_here", "_law_deed_here"]
theorem scHung : FnScope nsHung ["_law_steps", "_law_names"] (defScope sHung) := ⟨rfl, rfl, rfl, by decide +kernel, rfl, by decide +kernel, by decide +kernel⟩
theorem ok_hung (F : FnP K "_law_hung" sHung f fd2) (KM : Fk P w K mg base CX0 2 "_law_deed_names" dM ["_law_deed_here"] spDNames) (T : Txt K mg) : FnOk P w K mg base CX0 3 f fd2 ["_law_steps", "_law_names"] spHung := by
  refine F.ok scHung (fun vs H Q E h => ?_) (fun cdv A outer s H vs Q E hr h => ?_)
  · obtain ⟨a, nl, ws, sts, ns, rfl, _⟩ := h
    rfl
  · obtain ⟨a, nl, ws, sts, ns, rfl, ha, f2, l50, okd, bk, hnl, n50, okn, k⟩ := h
    have hu := hu_of hr
    refine ⟨_, PSs.nox (pss_cons (ps_asg (pe_tup (pa_cons (pe_callTy (call_dictP rfl) (by rfl) T.dict (by decide +kernel) (pa_cons (pv 0) pa_nil)) (pa_cons (pe_lst pa_nil) (pa_cons (pe_callTy call_list_of (by rfl) T.list (by decide +kernel) (pa_cons (pv 1) pa_nil)) pa_nil)))) (pg_tup rfl (pgs_cons (pg_name (i := 2) scHung.nd rfl (.inl rfl)) (pgs_cons (pg_name (i := 3) scHung.nd rfl (.inr rfl)) (pgs_cons (pg_name (i := 4) scHung.nd rfl (.inl rfl)) pgs_nil)))))
      (pss_cons (ps_for PassesOwn.never rfl (pi_range1 (by rfl) T.range (pa_cons (pe_op op_add (pe_callB call_len_seq (by rfl) T.len PySem.boot_len (pa_cons (pv 1) pa_nil)) (pe_op op_mul pe_int (pe_callB call_len_seq (by rfl) T.len PySem.boot_len (pa_cons (pv 0) pa_nil)))) pa_nil)) (pg_name (i := 5) scHung.nd rfl (Or.inl rfl))
        (pss_cons (ps_if (pt_cmpR (op_eqD hr.units) (pv 4) (pe_lst pa_nil) (nomark _)) (pss_one ps_break) pss_nil)
        (pss_cons (ps_set (i := 6) scHung.nd rfl (.inl rfl) (pe_bm0 PySem.F.plainAttrs_list PySem.F.slot_list_pop PySem.F.type_list_pop mt_pop (pv 4)))
        (pss_one (ps_if (PW.pt (pw_and (pt_cmp (pc_din hu (pv 6) (pv 2))) (pw_and1 (pt_cmpR op_notIn_seq (pv 6) (pv 3) (by rfl))))) (pss_cons (ps_expr (pe_bm PySem.F.plainAttrs_list PySem.F.slot_list_append PySem.F.type_list_append mt_append (pv 3) (pa_cons (pv 6) pa_nil)))
          (pss_one (ps_expr (pe_bm PySem.F.plainAttrs_list PySem.F.slot_list_extend PySem.F.type_list_extend mt_extend (pv 4) (pa_cons (pe_call KM.ok hr (by rfl) KM.g KM.kp KM.b .nil pass0 (pa_cons (pe_dget hu (pv 2) (pv 6) (fun _ _ => rfl)) pa_nil)) pa_nil))))) pss_nil)))))
      (pss_one (ps_ret (pe_lc (own := [("_law_name_here", 6), ("_law_deed_here", 7)]) (g := gTup K 2 (gCons (gName 6) (gCons (gName 7) gNil))) (by rfl) scHung.nd (pi_list (pv 0)) (blkOk_by (own := [("_law_name_here", 6), ("_law_deed_here", 7)]) (N := nsHung) (sc := defScope sHung) (by decide +kernel))
          (fun _ _ _ _ _ => pg_tup rfl (pgs_cons (pg_name (i := 6) scHung.nd rfl (.inl rfl)) (pgs_cons (pg_name (i := 7) scHung.nd rfl (.inl rfl)) pgs_nil))) (fun _ _ _ _ _ => pts_one (pt_cmpR (op_inK (K := K) rfl) (pv 6) (pv 3) (by rfl))) (fun _ _ _ _ _ => pe_tup (pa_cons (pv 6) (pa_cons (pv 7) pa_nil)))))))), ?_⟩
    obtain ⟨ts, kvs, ets, pr, fkv⟩ := steps_pairs (K := K) f2
    have nd : ((sts.map (·.1))).Nodup := by
      have := back_nodup bk
      rw [List.map_reverse] at this
      exact (List.reverse_perm _).nodup_iff.mp this
    have em : mergeK [] kvs = kvs := merge_new (pre := []) .nil fkv nd
    refine ⟨_, rfl, a, ts, kvs, rfl, SqL.of (ets ▸ ha), pr, fun dO ndO => ⟨(by show 0 ≤ sizeLine; decide), fun lF nlF => ?_⟩⟩
    rw [em] at nlF
    rw [em]
    have s1 := same_upd (o := .dK kvs) ndO
    have g1 := upd_same (H := H) (a := dO) (o := .dK kvs)
    have s2 := same_upd (o := .lst []) nlF
    have g2 := upd_same (H := L2.upd H dO (.dK kvs)) (a := lF) (o := .lst [])
    have g12 := s2 _ _ g1
    have sA := s1.trans s2
    have zF : H lF = none := s1.free nlF
    generalize L2.upd (L2.upd H dO (.dK kvs)) lF (.lst []) = H2 at g2 g12 sA
    refine ⟨_, rfl, nl, _, rfl, .inl (SqL.of (sA _ _ hnl)), fun lT nlT => ⟨(by show 3 ≤ sizeLine; decide), fun t0 nt0 => ?_⟩⟩
    have s3 := same_upd (o := .lst (ns.map V.str)) nlT
    have g3 := upd_same (H := H2) (a := lT) (o := .lst (ns.map V.str))
    have s4 := same_upd (o := .tup [.ref dO, .ref lF, .ref lT]) nt0
    have h4 := upd_same (H := L2.upd H2 lT (.lst (ns.map V.str))) (a := t0) (o := .tup [.ref dO, .ref lF, .ref lT])
    have g34 := s4 _ _ g3
    have g24 := s4 _ _ (s3 _ _ g2)
    have g14 := s4 _ _ (s3 _ _ g12)
    have zT : H lT = none := sA.free nlT
    have nFT : lF ≠ lT := ne_of_none g2 nlT
    have s04 := (sA.trans s3).trans s4
    generalize L2.upd (L2.upd H2 lT (.lst (ns.map V.str))) t0 (.tup [.ref dO, .ref lF, .ref lT]) = H4 at h4 g34 g24 g14 s04
    have nFO : lF ≠ dO := ne_of g24 g14 (by intro z; cases z)
    have nTO : lT ≠ dO := ne_of g34 g14 (by intro z; cases z)
    refine ⟨t0, _, rfl, SqT.of h4, rfl, _, _, rfl, _, _, rfl, _, _, rfl, rfl, ?_⟩
    have ha4 := s04 _ _ ha
    have hn4 := s04 _ _ hnl
    have lws : ws.length = sts.length := by rw [f2.len, List.length_map]
    have uq : ∀ x ∈ sts, ∀ y ∈ sts, x.1 = y.1 → x = y := fun x hx y hy e => back_uniq bk x (List.mem_reverse.mpr hx) y (List.mem_reverse.mpr hy) e
    have base : ∀ {G : Hp}, Kp [lF, lT] H4 G → Same H G := fun {G} kg b o e => kg _ _ (s04 _ _ e) (by
      have q1 : b ≠ lF := fun z => by rw [z, zF] at e; cases e
      have q2 : b ≠ lT := fun z => by rw [z, zT] at e; cases e
      simp [q1, q2])
    refine nx_seq (seq_cut (fun σ G => ∃ v5 v6 fo, σ = [some (.ref a), some (.ref nl), some (.ref dO), some (.ref lF), some (.ref lT), v5, v6, none] ∧ Kp [lF, lT] H4 G ∧ G lF = some (.lst (fo.map V.str)) ∧ Least sts ns fo) (fun N hN => ?_) ?_)
    · refine ⟨_, rfl, nl, _, rfl, .inl (SqL.of hn4), _, rfl, a, _, rfl, .inl (SqL.of ha4), ?_⟩
      refine ⟨_, _, rfl, rfl, .inl ⟨by decide, by decide⟩, _, _, rfl, rfl, ((ns.length + 5 * sts.length : Nat) : Int), by rw [List.length_map, lws]; norm_cast, by omega, by omega, ?_⟩
      refine for_range (lo := 0) (n := ns.length + 5 * sts.length) (fun i σ G => ∃ v5 v6 fo td, σ = [some (.ref a), some (.ref nl), some (.ref dO), some (.ref lF), some (.ref lT), v5, v6, none] ∧ Kp [lF, lT] H4 G ∧ G lF = some (.lst (fo.map V.str)) ∧ G lT = some (.lst (td.map V.str)) ∧ Hang sts ns fo td ∧ (∀ z ∈ td, NameOk z) ∧ td.length + 5 * sts.length + i ≤ ns.length + 5 * sts.length + 5 * fo.length)
        ⟨none, none, [], ns, rfl, Kp.refl _ _, g24, g34, Hang.start sts ns, okn, by simp⟩ ?_ ?_
      · rintro i σ G hi ⟨v5, v6, fo, td, rfl, kG, gF, gT, hang, okt, meas⟩
        have lfo := hang.len
        refine ⟨_, rfl, (by show 0 ≤ sizeLine; decide), fun q nq => ?_⟩
        have t1 := same_upd (o := .lst []) nq
        have kG1 := kG.trans (Kp.of t1 (xs := [lF, lT]))
        refine eq_nil (SqL.of (t1 _ _ gT)) (SqL.of upd_same) (fok_names okt) ⟨_, rfl, ?_⟩
        have gF1 := t1 _ _ gF
        have gT1 := t1 _ _ gT
        generalize L2.upd G q (.lst []) = G1 at kG1 gF1 gT1
        rcases List.eq_nil_or_concat td with rfl | ⟨init, z, rfl⟩
        · refine iteT ?_
          exact hN _ _ ⟨_, _, fo, rfl, kG1, gF1, hang.done⟩
        have e0 : ((init.concat z).map V.str).isEmpty = false := by simp
        rw [e0]
        refine iteF ?_
        rw [List.concat_eq_append] at gT1 hang okt meas
        have elast : ((init ++ [z]).map V.str)[((init ++ [z]).map V.str).length - 1]? = some (.str z) := by simp
        have edrop : ((init ++ [z]).map V.str).dropLast = init.map V.str := by simp
        refine ⟨_, rfl, .inl ⟨rfl, _, .inl (.inl gT1)⟩, lT, _, .str z, rfl, rfl, gT1, elast, ?_⟩
        rw [edrop]
        have gF2 : (L2.upd G1 lT (.lst (init.map V.str))) lF = some (.lst (fo.map V.str)) := by
          rw [upd_ne nFT]
          exact gF1
        have gT2 := upd_same (H := G1) (a := lT) (o := .lst (init.map V.str))
        have kG2 : Kp [lF, lT] H4 (L2.upd G1 lT (.lst (init.map V.str))) := kG1.trans (Kp.upd (by simp))
        generalize L2.upd G1 lT (.lst (init.map V.str)) = G2 at gF2 gT2 kG2
        have oki : ∀ y ∈ init, NameOk y := fun y hy => okt y (List.mem_append_left _ hy)
        have ml : init.length + 1 + 5 * sts.length + i ≤ ns.length + 5 * sts.length + 5 * fo.length := by
          rw [List.length_append] at meas
          exact meas
        have gO2 := kG2 _ _ g14 (by simp [nFO.symm, nTO.symm])
        have fkv2 : F2 (DeedV G2) kvs sts := fkv.mono fun _ _ ⟨e, p, e2, hp⟩ => ⟨e, p, e2, base kG2 _ _ hp⟩
        refine ⟨_, rfl, _, rfl, dO, _, rfl, DGet.k (k := Sum.inr z) gO2, _, rfl, ?_⟩
        by_cases hz : z ∈ sts.map (·.1)
        rotate_left
        · rw [(deedv_look fkv2).1 hz]
          refine iteF ?_
          exact ⟨_, _, fo, init, rfl, kG2, gF2, gT2, hang.skip fun m => absurd m hz, oki, by omega⟩
        obtain ⟨st, hst, est, p, hv, hp⟩ := (deedv_look fkv2).2 hz
        rw [hv]
        refine iteT ?_
        refine ⟨_, rfl, _, rfl, lF, _, rfl, .inl (SqL.of gF2), rfl, flat_strs _, _, rfl, ?_⟩
        rw [inV_str]
        by_cases hf : z ∈ fo
        · rw [decide_eq_true hf]
          refine iteF ?_
          exact ⟨_, _, fo, init, rfl, kG2, gF2, gT2, hang.skip fun _ => hf, oki, by omega⟩
        rw [decide_eq_false hf]
        refine iteT ?_
        refine ⟨_, rfl, .inl ⟨rfl, _, .inl (.inl gF2)⟩, _, rfl, lF, _, _, rfl, rfl, gF2, by rw [List.length_map]; exact Nat.lt_of_le_of_lt (show fo.length ≤ 50 by omega) (by decide), ?_⟩
        have gF3 := upd_same (H := G2) (a := lF) (o := .lst (fo.map V.str ++ [V.str z]))
        have gT3 : (L2.upd G2 lF (.lst (fo.map V.str ++ [V.str z]))) lT = some (.lst (init.map V.str)) := by
          rw [upd_ne nFT.symm]
          exact gT2
        have gO3 : (L2.upd G2 lF (.lst (fo.map V.str ++ [V.str z]))) dO = some (.dK kvs) := by
          rw [upd_ne nFO.symm]
          exact gO2
        have hp3 : (L2.upd G2 lF (.lst (fo.map V.str ++ [V.str z]))) p = some (.tup st.2.vs) := by
          rw [upd_ne (ne_of hp gF2 (by intro z; cases z))]
          exact hp
        have kG3 : Kp [lF, lT] H4 (L2.upd G2 lF (.lst (fo.map V.str ++ [V.str z]))) := kG2.trans (Kp.upd (by simp))
        generalize L2.upd G2 lF (.lst (fo.map V.str ++ [V.str z])) = G3 at gF3 gT3 gO3 hp3 kG3
        have h5 := form_small (okd st hst)
        refine ⟨_, rfl, .inl ⟨rfl, _, .inl (.inl gT3)⟩, _, rfl, _, rfl, dO, _, rfl, dget_k (.inr z) gO3 hv, p, st.2, rfl, hp3, okd st hst, fun l G4 t4 nl4 hl4 => ?_⟩
        refine ⟨lT, l, _, _, rfl, rfl, t4 _ _ gT3, hl4, by rw [List.length_map, List.length_map]; exact Nat.le_trans (show init.length + st.2.names.length ≤ 1000 by omega) (by decide), ?_⟩
        subst est
        refine ⟨_, _, fo ++ [st.1], init ++ st.2.names, rfl, (kG3.trans (Kp.of t4)).trans (Kp.upd (by simp)), ?_, ?_, hang.take_ uq hst hf, fun y hy => ?_, ?_⟩
        · rw [upd_ne nFT, List.map_append]
          exact t4 _ _ gF3
        · rw [upd_same, List.map_append]
        · rcases List.mem_append.mp hy with hy | hy
          · exact oki y hy
          · exact deed_okN (okd st hst) y hy
        · rw [List.length_append, List.length_append, List.length_singleton]
          omega
      · rintro σ G ⟨v5, v6, fo, td, rfl, kG, gF, gT, hang, okt, meas⟩
        have lfo := hang.len
        have e0 : td = [] := List.length_eq_zero_iff.mp (by omega)
        subst e0
        exact hN _ _ ⟨_, _, fo, rfl, kG, gF, hang.done⟩
    · rintro σ G ⟨v5, v6, fo, rfl, kG, gF, least⟩
      have sG := base kG
      have f2G : F2 (Dq [] G) ws (sts.map stepPy) := f2.mono fun _ _ q => q.same sG
      have haG := sG _ _ ha
      refine ⟨_, rfl, a, rfl, ⟨_, SqL.of haG⟩, fun D nD => ?_⟩
      refine lc_it walk_list (fun i G1 => Same G G1 ∧ ∃ us, G1 D = some (.lst us) ∧ us.length ≤ i ∧ F2 (Dq [D] G1) us (((sts.take i).filter fun s => decide (s.1 ∈ fo)).map stepPy)) ⟨same_upd nD, [], upd_same, Nat.le_refl _, .nil⟩ (fun i G1 _ q => SqL.of (q.1 _ _ haG)) ?_ ?_
      · rintro i v G1 G2 hi ⟨s1, us, eD, lu, fu⟩ ⟨rfl, hv⟩
        obtain ⟨e, he, hq0⟩ := f2G.at_ hv
        rw [List.getElem?_map] at he
        cases ez : sts[i]? with
        | none => rw [ez] at he; cases he
        | some st =>
          rw [ez] at he
          cases he
          obtain ⟨b, p, rfl, _, hb, _, hp⟩ := dq_stepA (hq0.same s1)
          refine ⟨b, _, rfl, SqT.of hb, rfl, _, _, rfl, _, _, rfl, rfl, ?_, ?_⟩
          · rfl
          refine ⟨_, rfl, _, rfl, lF, _, rfl, .inl (SqL.of (s1 _ _ gF)), rfl, flat_strs _, _, rfl, ?_⟩
          rw [inV_str]
          have et := take_snoc ez
          by_cases hm : st.1 ∈ fo
          rotate_left
          · rw [decide_eq_false hm]
            refine iteF ?_
            refine ⟨s1, us, eD, by omega, ?_⟩
            rw [et, List.filter_append]
            simpa [hm] using fu
          rw [decide_eq_true hm]
          refine iteT ?_
          refine ⟨_, rfl, _, rfl, (by show 2 ≤ sizeLine; decide), fun tt ntt => ?_⟩
          have t1 := same_upd (o := .tup [.str st.1, .ref p]) ntt
          have htt := upd_same (H := G2) (a := tt) (o := .tup [V.str st.1, .ref p])
          have ttD : tt ≠ D := fun z => by rw [z, eD] at ntt; cases ntt
          have pD : p ≠ D := ne_of hp eD (by intro z; cases z)
          have hp1 := t1 _ _ hp
          have eD1 := t1 _ _ eD
          have fu1 := fu.mono fun _ _ q => q.same t1
          have sG1 := s1.trans t1
          generalize L2.upd G2 tt (.tup [V.str st.1, .ref p]) = G3 at htt hp1 eD1 fu1 sG1
          refine ⟨us, eD1, Nat.lt_of_le_of_lt (show us.length ≤ 1000 by omega) (by decide), ?_, us ++ [.ref tt], upd_same, by rw [List.length_append, List.length_singleton]; omega, ?_⟩
          · exact fun c o hc => by
              have nc : c ≠ D := fun q => by rw [q, nD] at hc; cases hc
              rw [upd_ne nc]
              exact sG1 _ _ hc
          · have kE : KpE [D] G3 (L2.upd G3 D (.lst (us ++ [.ref tt]))) := fun c o e nc _ => by
              rw [upd_ne (by simpa using nc)]
              exact e
            rw [et, List.filter_append, List.map_append]
            refine (fu1.mono fun _ _ q => Dq.keep kE _ _ q).app ?_
            have e1 : ([st].filter fun s => decide (s.1 ∈ fo)) = [st] := by simp [hm]
            rw [e1]
            refine .cons (.tup (by simpa using ttD) (by rw [upd_ne ttD]; exact htt) (.cons (.str _) (.cons (Dq.of_deed (by simpa using pD) (by rw [upd_ne pD]; exact hp1)) .nil))) .nil
      · rintro G1 ⟨s1, us, eD, lu, fu⟩
        rw [lws, List.take_length, least_eq bk least] at fu
        exact k D us G1 (sG.trans s1) (sG.free nD) eD (fu.mono fun _ _ q => q.none_N)
end
end Own
set_option Elab.async false
set_option linter.all false
set_option maxRecDepth 100000
set_option maxHeartbeats 400000
namespace Own
open PySem PySem.Spec PyProof.Rows L2 LamX
/-! ### all parts of a drawing -/
def PartAt (H : Hp) (zs : List V) (q : Addr) : Prop := ∃ ys, H q = some (.lst ys) ∧ ys.Sublist zs
theorem PartAt.same {H H' : Hp} {zs : List V} {q : Addr} (h : PartAt H zs q) (e : Same H H') : PartAt H' zs q := by
  obtain ⟨ys, h1, h2⟩ := h
  exact ⟨ys, e _ _ h1, h2⟩
def spParts : Sp := fun vs H Q _ => ∃ (a : Addr) (ws : List V), vs = [.ref a] ∧ H a = some (.lst ws) ∧ ws.length ≤ 50 ∧
  ∀ p (qs : List Addr) H', Same H H' → H' p = some (.lst (qs.map V.ref)) → (∀ q ∈ qs, PartAt H' ws q ∧ H q = none) → qs.length ≤ 1000 → Q (.ref p) H'
theorem cut_min {xs : List V} (k : Nat) : cutV xs none (some (k : Int)) = xs.take k := by
  show (xs.drop (HT.sIx xs.length 0 none)).take (HT.sIx xs.length xs.length (some (k : Int)) - HT.sIx xs.length 0 none) = _
  rw [HT.sIx_none, HT.sIx_nat]
  show xs.take (min k xs.length - 0) = _
  rw [Nat.sub_zero]
  rcases Nat.le_total k xs.length with h | h
  · rw [Nat.min_eq_left h]
  · rw [Nat.min_eq_right h, List.take_length, List.take_of_length_le h]
section
variable {P : Program} {w : World} {K : PySem.W.Frag} {mg : Str → Option Value} {base : Heap} {f : Addr} {fd2 dM : FuncData}
abbrev nsParts : List Str := ["_law_steps", "_law_found", "_law_step", "_law_part"]
theorem scParts : FnScope nsParts ["_law_steps"] (defScope sParts) := ⟨rfl, rfl, rfl, by decide +kernel, rfl, by decide +kernel, by decide +kernel⟩
theorem ok_parts (F : FnP K "_law_parts" sParts f fd2) (T : Txt K mg) : FnOk P w K mg base CX0 1 f fd2 ["_law_steps"] spParts := by
  refine F.ok scParts (fun vs H Q E h => ?_) (fun cdv A outer s H vs Q E hr h => ?_)
  · obtain ⟨a, ws, rfl, _⟩ := h
    rfl
  · obtain ⟨a, ws, rfl, ha, l50, k⟩ := h
    refine ⟨_, PSs.nox (pss_cons (ps_set (i := 1) scParts.nd rfl (.inl rfl) (pe_lst (pa_cons (pe_lst pa_nil) pa_nil)))
      (pss_cons (ps_for PassesOwn.never rfl (pi_list (pe_slice sl_list (pv 0) po_none (po_some pe_int))) (pg_name (i := 2) scParts.nd rfl (Or.inr rfl))
        (pss_one (ps_set (i := 1) scParts.nd rfl (.inl rfl) (pe_op op_cat (pv 1) (pe_lc (own := [("_law_part", 3)]) (g := gName 3) (tt := tYes) (by rfl) scParts.nd (pi_list (pv 1)) (blkOk_by (own := [("_law_part", 3)]) (N := nsParts) (sc := defScope sParts) (by decide +kernel))
          (fun _ _ _ _ _ => pg_name (i := 3) scParts.nd rfl (Or.inl rfl)) (fun _ _ _ _ _ => pts_nil) (fun _ _ _ _ _ => pe_op op_cat (pv 3) (pe_lst (pa_cons (pv 2) pa_nil))))))))
      (pss_one (ps_ret (pe_slice sl_list (pv 1) po_none (po_some pe_int)))))), ?_⟩
    refine ⟨(by show 0 ≤ sizeLine; decide), fun e0 ne0 => ⟨(by show 1 ≤ sizeLine; decide), fun p0 np0 => ?_⟩⟩
    have s1 := same_upd (o := .lst []) ne0
    have g1 := upd_same (H := H) (a := e0) (o := .lst [])
    have s2 := same_upd (o := .lst [.ref e0]) np0
    have g2 := upd_same (H := L2.upd H e0 (.lst [])) (a := p0) (o := .lst [V.ref e0])
    have g12 := s2 _ _ g1
    have sA := s1.trans s2
    generalize L2.upd (L2.upd H e0 (.lst [])) p0 (.lst [.ref e0]) = H2 at g2 g12 sA
    refine ⟨_, rfl, tNoPart_in ?_⟩
    refine ⟨_, rfl, a, ws, rfl, SqL.of (sA _ _ ha), fun sl nsl => ?_⟩
    have ec : cutV ws none (some 6) = ws.take 6 := cut_min 6
    rw [ec]
    have s3 := same_upd (o := .lst (ws.take 6)) nsl
    have hsl := upd_same (H := H2) (a := sl) (o := .lst (ws.take 6))
    have s03 := sA.trans s3
    have g23 := s3 _ _ g2
    have g13 := s3 _ _ g12
    generalize L2.upd H2 sl (.lst (ws.take 6)) = H3 at hsl s03 g23 g13
    have n0 : H e0 = none := ne0
    refine ⟨sl, rfl, ⟨_, SqL.of hsl⟩, ?_⟩
    have l6 : (ws.take 6).length ≤ 6 := List.length_take_le _ _
    refine for_it walk_list (fun i σ G => ∃ v2 fp qs, σ = [some (.ref a), some (.ref fp), v2, none] ∧ Same H3 G ∧ G fp = some (.lst (qs.map V.ref)) ∧ qs.length = 2 ^ i ∧ ∀ q ∈ qs, (∃ ys, G q = some (.lst ys) ∧ ys.Sublist (ws.take i) ∧ ys.length ≤ i) ∧ H q = none)
      ⟨none, p0, [e0], rfl, Same.refl _, g23, rfl, fun q hq => by
        rw [List.mem_singleton.mp hq]
        exact ⟨⟨[], g13, List.nil_sublist _, Nat.le_refl _⟩, n0⟩⟩ (fun i σ G _ q => by obtain ⟨_, _, _, _, sG, _⟩ := q; exact SqL.of (sG _ _ hsl)) ?_ ?_
    · rintro i v σ G0 G hi ⟨v2, fp, qs, rfl, sG, gfp, lq, hq⟩ ⟨rfl, hv⟩
      have i6 : i < 6 := by omega
      have p64 : 2 ^ i ≤ 2 ^ 6 := Nat.pow_le_pow_right (by decide) (by omega)
      have hv' : ws[i]? = some v := by
        rw [List.getElem?_take] at hv
        rw [if_pos i6] at hv
        exact hv
      have et := take_snoc hv'
      refine ⟨_, rfl, _, rfl, fp, rfl, ⟨_, SqL.of gfp⟩, fun D nD => ?_⟩
      have lqs : (qs.map V.ref).length = 2 ^ i := by rw [List.length_map, lq]
      refine lc_it walk_list (fun k G1 => Same G G1 ∧ ∃ rs : List Addr, G1 D = some (.lst (rs.map V.ref)) ∧ rs.length = k ∧ ∀ r ∈ rs, (∃ ys, G1 r = some (.lst ys) ∧ ys.Sublist (ws.take (i + 1)) ∧ ys.length ≤ i + 1) ∧ H r = none ∧ r ≠ D) ⟨same_upd nD, [], upd_same, rfl, (fun r hr => by cases hr)⟩ (fun k G1 _ q => SqL.of (q.1 _ _ gfp)) ?_ ?_
      · rintro k u G1 G2 hk ⟨t1, rs, eD, lr, hr2⟩ ⟨rfl, hu⟩
        rw [List.getElem?_map] at hu
        cases eq : qs[k]? with
        | none => rw [eq] at hu; cases hu
        | some q =>
          rw [eq] at hu
          cases hu
          obtain ⟨⟨ys, hys, sub, ly⟩, nq⟩ := hq q (List.mem_of_getElem? eq)
          have hys1 := t1 _ _ hys
          refine ⟨?_, yes_if ?_⟩
          · rfl
          refine ⟨_, rfl, _, rfl, (by show 1 ≤ sizeLine; decide), fun o1 no1 => ?_⟩
          have t2 := same_upd (o := .lst [v]) no1
          have ho1 := upd_same (H := G2) (a := o1) (o := .lst [v])
          have hys2 := t2 _ _ hys1
          have eD2 := t2 _ _ eD
          have hr3 : ∀ r ∈ rs, (∃ ys, (L2.upd G2 o1 (.lst [v])) r = some (.lst ys) ∧ ys.Sublist (ws.take (i + 1)) ∧ ys.length ≤ i + 1) ∧ H r = none ∧ r ≠ D := fun r hr => by
            obtain ⟨⟨zs, z1, z2⟩, z3⟩ := hr2 r hr
            exact ⟨⟨zs, t2 _ _ z1, z2⟩, z3⟩
          have t12 := t1.trans t2
          generalize L2.upd G2 o1 (.lst [v]) = G3 at ho1 hys2 eD2 hr3 t12
          refine ⟨q, o1, ys, [v], rfl, rfl, hys2, ho1, Nat.le_trans (show ys.length + 1 ≤ 1000 by omega) (by decide), fun r nr => ?_⟩
          have t3 := same_upd (o := .lst (ys ++ [v])) nr
          have hr := upd_same (H := G3) (a := r) (o := .lst (ys ++ [v]))
          have rD : r ≠ D := fun z => by rw [z, eD2] at nr; cases nr
          have nrH : H r = none := ((s03.trans sG).trans t12).free nr
          refine ⟨rs.map V.ref, t3 _ _ eD2, by rw [List.length_map, lr]; exact Nat.lt_of_lt_of_le (show k < 64 by rw [lqs] at hk; omega) (by decide), ?_, rs ++ [r], by rw [upd_same, List.map_append]; rfl, by rw [List.length_append, lr]; rfl, fun x hx => ?_⟩
          · exact fun c o hc => by
              have nc : c ≠ D := fun q => by rw [q, nD] at hc; cases hc
              rw [upd_ne nc]
              exact t3 _ _ (t12 _ _ hc)
          · rcases List.mem_append.mp hx with hx | hx
            · obtain ⟨⟨zs, z1, z2⟩, z3, xD⟩ := hr3 x hx
              exact ⟨⟨zs, by rw [upd_ne xD]; exact t3 _ _ z1, z2⟩, z3, xD⟩
            · rw [List.mem_singleton.mp hx]
              refine ⟨⟨ys ++ [v], by rw [upd_ne rD]; exact hr, ?_, by rw [List.length_append, List.length_singleton]; omega⟩, nrH, rD⟩
              rw [et]
              exact sub.append (List.Sublist.refl _)
      · rintro G1 ⟨t1, rs, eD, lr, hr2⟩
        rw [lqs] at lr
        refine ⟨fp, D, _, _, rfl, rfl, t1 _ _ gfp, eD, by rw [List.length_map, List.length_map, lq, lr]; exact Nat.le_trans (show 2 ^ i + 2 ^ i ≤ 1000 by omega) (by decide), fun r nr => ?_⟩
        have t2 := same_upd (o := .lst (qs.map V.ref ++ rs.map V.ref)) nr
        refine ⟨_, r, qs ++ rs, rfl, (sG.trans t1).trans t2, by rw [upd_same, List.map_append], by rw [List.length_append, lq, lr, Nat.pow_succ]; omega, fun x hx => ?_⟩
        rcases List.mem_append.mp hx with hx | hx
        · obtain ⟨⟨zs, z1, z2, z4⟩, z3⟩ := hq x hx
          exact ⟨⟨zs, t2 _ _ (t1 _ _ z1), by rw [et]; exact z2.trans (List.sublist_append_left _ _), by omega⟩, z3⟩
        · obtain ⟨⟨zs, z1, z2⟩, z3, _⟩ := hr2 x hx
          exact ⟨⟨zs, t2 _ _ z1, z2⟩, z3⟩
    · rintro σ G ⟨v2, fp, qs, rfl, sG, gfp, lq, hq⟩
      refine ⟨_, rfl, tNoPart_in ⟨_, rfl, fp, _, rfl, SqL.of gfp, fun r nr => ?_⟩⟩
      have ec2 : cutV (qs.map V.ref) none (some 64) = (qs.take 64).map V.ref := by
        rw [show ((64 : Int)) = ((64 : Nat) : Int) from rfl, cut_min 64, List.map_take]
      rw [ec2]
      have sF := s03.trans sG
      have t2 := same_upd (o := .lst ((qs.take 64).map V.ref)) nr
      refine k r (qs.take 64) _ (sF.trans t2) upd_same (fun x hx => ?_) (Nat.le_trans (List.length_take_le _ _) (by decide))
      obtain ⟨⟨zs, z1, z2, _⟩, z3⟩ := hq x (List.mem_of_mem_take hx)
      exact ⟨⟨zs, t2 _ _ z1, z2.trans (List.take_sublist _ _)⟩, z3⟩
end
end Own
set_option Elab.async false
set_option linter.all false
set_option maxRecDepth 100000
set_option maxHeartbeats 400000
namespace Own
open PySem PySem.Spec PyProof.Rows L2 LamX
/-! ### drawings with one place changed -/
theorem bent_head {d : Deed} {j : Nat} {es : List PyData} (hj : 0 < j) : ∀ w r, d.pys.take j ++ es = .str w :: r → w = d.word := fun w r h => by
  obtain ⟨m, rfl⟩ : ∃ m, j = m + 1 := ⟨j - 1, by omega⟩
  unfold Deed.pys at h
  rw [List.take_succ_cons, List.cons_append] at h
  injection h with h _
  injection h with h
  exact h.symm
theorem bent_of {d : Deed} (ok : DeedOk d) {j : Nat} {es : List PyData} (hj : 0 < j) (l : es.length ≤ 500) (i1 : ∀ e ∈ d.pys.take j, itemB e = true) (i2 : ∀ e ∈ es, itemB e = true) : BentD (.tuple (d.pys.take j ++ es)) := by
  refine BentD.tuple ?_ (fun w r h => ?_) fun e he => ?_
  · have := pys_len ok
    rw [List.length_append, List.length_take]
    omega
  · rw [bent_head hj w r h]
    exact deed_look ok
  · rcases List.mem_append.mp he with he | he
    · exact i1 e he
    · exact i2 e he
def ODV (nm : Str) : List V := .str "later" :: .str "A" :: .str "" :: .str "toolongname" :: .int 1 :: .int 2 :: .int 3 :: .int 0 :: .bl true :: .non :: .str "o" :: .str nm :: .str "1" :: .str "a-b" :: .str "vv" :: []
def spChanged : Sp := fun vs H Q _ => ∃ (a lw lc : Addr) (t : Nat) (l : Addr) (ws : List V) (ds : List (Str × Deed)), vs = [.ref a, .ref l] ∧ StA H a lw lc t ∧ t < 2 ^ 38 ∧ H l = some (.lst ws) ∧ l ∉ [a, lw] ∧ F2 (Dq [a, lw] H) ws (ds.map stepPy) ∧ StepsOk ds ∧
  ∀ x e H', Dq [a, lw] H' x e → DrawD e → StA H' a lw lc (t + 10) → Kp [a, lw] H H' → Q x H'
section
variable {P : Program} {w : World} {K : PySem.W.Frag} {mg : Str → Option Value} {base : Heap} {f : Addr} {fd2 dD dP : FuncData}
abbrev nsChanged : List Str := ["_law_state", "_law_steps", "_law_found", "_law_at", "_law_kind", "_law_name_here", "_law_deed_here", "_law_spot", "_law_odd", "_law_step"]
theorem scChanged : FnScope nsChanged ["_law_state", "_law_steps"] (defScope sChanged) := ⟨rfl, rfl, rfl, by decide +kernel, rfl, by decide +kernel, by decide +kernel⟩
theorem ok_changed (F : FnP K "_law_changed" sChanged f fd2) (KD : Fk P w K mg base CX0 2 "_law_draw" dD ["_law_state", "_law_room"] spDraw) (KP : Fk P w K mg base CX0 3 "_law_pick" dP ["_law_state", "_law_some"] (spPick K)) (T : Txt K mg) :
    FnOk P w K mg base CX0 4 f fd2 ["_law_state", "_law_steps"] spChanged := by
  refine F.ok scChanged (fun vs H Q E h => ?_) (fun cdv A outer s H vs Q E hr h => ?_)
  · obtain ⟨a, lw, lc, t, l, ws, ds, rfl, _⟩ := h
    rfl
  · obtain ⟨a, lw, lc, t, l, ws, ds, rfl, S, ht, hl, nl, f2, ok, k⟩ := h
    have hr2 := hr.mono (show 2 ≤ 3 by decide)
    refine ⟨_, PSs.nox (pss_cons (ps_par (i := 2) (j := 3) (by rfl) scChanged.nd rfl rfl (by decide) rfl rfl (pa_cons (pe_callTy call_list_of (by rfl) T.list (by decide +kernel) (pa_cons (pv 1) pa_nil)) (pa_cons (pe_call KD.ok hr2 (by rfl) KD.g KD.kp KD.b .nil pass0 (pa_cons (pv 0) (pa_cons (pe_op op_add (pe_callB call_len_seq (by rfl) T.len PySem.boot_len (pa_cons (pv 1) pa_nil)) pe_int) pa_nil))) pa_nil)) (by rfl))
      (pss_cons (ps_set (i := 4) scChanged.nd rfl (.inl rfl) (pe_call KD.ok hr2 (by rfl) KD.g KD.kp KD.b .nil pass0 (pa_cons (pv 0) (pa_cons pe_int pa_nil))))
      (pss_cons (ps_asg (pe_ifExp (pt_cmpR op_lt (pv 3) (pe_callB call_len_seq (by rfl) T.len PySem.boot_len (pa_cons (pv 2) pa_nil)) (nomark _)) (pe_ix ix_list (pv 2) (pv 3) (fun _ _ => rfl)) (pe_tup (pa_cons pe_str (pa_cons (pe_tup (pa_cons pe_str (pa_cons pe_str (pa_cons pe_str pa_nil)))) pa_nil)))) (pg_tup rfl (pgs_cons (pg_name (i := 5) scChanged.nd rfl (.inl rfl)) (pgs_cons (pg_name (i := 6) scChanged.nd rfl (.inl rfl)) pgs_nil))))
      (pss_cons (ps_set (i := 7) scChanged.nd rfl (.inl rfl) (pe_op op_add pe_int (pe_call KD.ok hr2 (by rfl) KD.g KD.kp KD.b .nil pass0 (pa_cons (pv 0) (pa_cons (pe_op op_sub (pe_callB call_len_seq (by rfl) T.len PySem.boot_len (pa_cons (pv 6) pa_nil)) pe_int) pa_nil)))))
      (pss_cons (ps_set (i := 8) scChanged.nd rfl (.inl rfl) (pe_call KP.ok hr (by rfl) KP.g KP.kp KP.b .nil pass0 (pa_cons (pv 0) (pa_cons (pe_lst (pa_cons pe_str (pa_cons pe_str (pa_cons pe_str (pa_cons pe_str (pa_cons pe_int (pa_cons pe_int (pa_cons pe_int (pa_cons pe_int (pa_cons pe_bl (pa_cons pe_non (pa_cons pe_str (pa_cons (pv 5) (pa_cons pe_str (pa_cons pe_str (pa_cons pe_str pa_nil)))))))))))))))) pa_nil))))
      (pss_cons (ps_if (pt_cmpR op_eq (pv 4) pe_int (nomark _)) (pss_one (ps_set (i := 9) scChanged.nd rfl (.inl rfl) (pe_tup (pa_cons (pv 8) (pa_cons (pv 6) pa_nil)))))
        (pss_one (ps_if (pt_cmpR op_eq (pv 4) pe_int (nomark _)) (pss_one (ps_set (i := 9) scChanged.nd rfl (.inl rfl) (pe_lst (pa_cons (pv 5) (pa_cons (pv 6) pa_nil)))))
        (pss_one (ps_if (pt_cmpR op_eq (pv 4) pe_int (nomark _)) (pss_one (ps_set (i := 9) scChanged.nd rfl (.inl rfl) (pe_tup (pa_cons (pv 5) (pa_cons (pe_callTy call_list_of (by rfl) T.list (by decide +kernel) (pa_cons (pv 6) pa_nil)) pa_nil)))))
        (pss_one (ps_if (pt_cmpR op_eq (pv 4) pe_int (nomark _)) (pss_one (ps_set (i := 9) scChanged.nd rfl (.inl rfl) (pe_tup (pa_cons (pv 5) (pa_cons (pe_slice sl_tupA (pv 6) po_none (po_some (pe_op op_sub (pe_callB call_len_seq (by rfl) T.len PySem.boot_len (pa_cons (pv 6) pa_nil)) pe_int))) pa_nil)))))
        (pss_one (ps_if (pt_cmpR op_eq (pv 4) pe_int (nomark _)) (pss_one (ps_set (i := 9) scChanged.nd rfl (.inl rfl) (pe_op op_catA (pe_tup (pa_cons (pe_call KP.ok hr (by rfl) KP.g KP.kp KP.b .nil pass0 (pa_cons (pv 0) (pa_cons (pe_lst (pa_cons pe_str (pa_cons pe_str (pa_cons pe_str (pa_cons pe_str pa_nil))))) pa_nil))) pa_nil)) (pe_tup (pa_cons (pv 6) pa_nil)))))
        (pss_one (ps_if (pt_cmpR op_eq (pv 4) pe_int (nomark _)) (pss_one (ps_set (i := 9) scChanged.nd rfl (.inl rfl) (pe_tup (pa_cons (pv 5) (pa_cons (pv 6) (pa_cons (pv 8) pa_nil))))))
        (pss_one (ps_set (i := 9) scChanged.nd rfl (.inl rfl) (pe_tup (pa_cons (pv 5) (pa_cons (pe_op op_catA (pe_op op_catA (pe_slice sl_tupA (pv 6) po_none (po_some (pv 7))) (pe_tup (pa_cons (pv 8) pa_nil))) (pe_slice sl_tupA (pv 6) (po_some (pe_op op_add (pv 7) pe_int)) po_none)) pa_nil))))))))))))))))
      (pss_one (ps_ret (pe_op op_cat (pe_op op_cat (pe_slice sl_list (pv 2) po_none (po_some (pv 3))) (pe_lst (pa_cons (pv 9) pa_nil))) (pe_slice sl_list (pv 2) (po_some (pe_op op_add (pv 3) pe_int)) po_none)))))))))), ?_⟩
    have len : ws.length = ds.length := by rw [f2.len, List.length_map]
    have l8 := ok.len
    have le : ∀ n : Nat, n ≤ 1000 → n ≤ sizeLine := fun n h => Nat.le_trans h (by decide)
    refine ⟨_, rfl, l, _, rfl, .inl (SqL.of hl), fun f0 nf0 => ?_⟩
    have s1 := same_upd (o := .lst ws) nf0
    have hf0 := upd_same (H := H) (a := f0) (o := .lst ws)
    have S1 := S.same s1
    have of0 := (S.new nf0).1
    have hl1 := s1 _ _ hl
    have f21 := f2.mono fun _ _ q => q.same s1
    generalize L2.upd H f0 (.lst ws) = H1 at s1 hf0 S1 hl1 f21
    refine ⟨_, rfl, _, rfl, l, _, rfl, .inl (SqL.of hl1), _, _, rfl, rfl, a, lw, lc, t, _, rfl, S1, by omega, by omega, by omega, fun z H2 z0 z1 S2 K2 => ⟨_, _, rfl, ?_⟩⟩
    obtain ⟨j, rfl⟩ : ∃ j : Nat, z = (j : Int) := ⟨z.toNat, by omega⟩
    have hj : j ≤ ds.length := by omega
    have hf2 := K2 _ _ hf0 of0
    have f22 := f21.mono fun _ _ q => Dq.keep (KpE.of K2) _ _ q
    refine ⟨_, rfl, a, lw, lc, _, _, rfl, S2, by omega, by decide, by decide, fun kd H3 y0 y9 S3 K3 => ?_⟩
    have hf3 := K3 _ _ hf2 of0
    have f23 := f22.mono fun _ _ q => Dq.keep (KpE.of K3) _ _ q
    have KA3 : Kp [a, lw] H H3 := ((Kp.of s1).trans K2).trans K3
    refine gname_seq ?_
    refine asg_gen (fun x G => ∃ (b p : Addr) (nm : Str) (dd : Deed), x = .ref b ∧ G b = some (.tup [.str nm, .ref p]) ∧ p ∉ [a, lw] ∧ G p = some (.tup dd.vs) ∧ nm ∈ NMS ∧ DeedOk dd ∧ (∀ z ∈ dd.names, z ∈ NMS) ∧ StA G a lw lc (t + 2) ∧ Same H3 G) (fun Q0 q0 => ?_) ?_
    · refine ⟨_, rfl, _, rfl, f0, _, rfl, .inl (SqL.of hf3), _, _, rfl, rfl, _, rfl, ?_⟩
      refine ite2 (fun c => ?_) fun _ => ?_
      · have hj2 : j < ds.length := by
          have := of_decide_eq_true c
          omega
        have hs : ds[j]? = some ds[j] := List.getElem?_eq_getElem hj2
        obtain ⟨x, hx, q⟩ := f23.at' (show (ds.map stepPy)[j]? = some (stepPy ds[j]) by rw [List.getElem?_map, hs]; rfl)
        obtain ⟨b, p, rfl, nb, hb, np, hp⟩ := dq_stepA q
        have ms := List.getElem_mem hj2
        exact ⟨_, rfl, _, rfl, f0, _, _, _, rfl, rfl, SqL.of hf3, at_nat hx, q0 _ _ ⟨b, p, _, _, rfl, hb, np, hp, ok.name _ ms, (ok.deed _ ms).1, (ok.deed _ ms).2, S3.more (by omega), Same.refl _⟩⟩
      · refine ⟨le 3 (by decide), fun p np => ⟨le 2 (by decide), fun b nb => ?_⟩⟩
        have u1 := same_upd (o := .tup [V.str "gauge", .str "o", .str "u"]) np
        have hp := upd_same (H := H3) (a := p) (o := .tup [V.str "gauge", .str "o", .str "u"])
        have u2 := same_upd (o := .tup [V.str "fresh", .ref p]) nb
        refine q0 _ _ ⟨b, p, "fresh", ⟨"gauge", "o" :: "u" :: [], []⟩, rfl, upd_same, (S3.new np).1, u2 _ _ hp, by decide +kernel, ⟨2, 0, by decide +kernel, rfl, by decide +kernel, rfl, (fun z hz => by cases hz)⟩, by decide +kernel, (S3.same (u1.trans u2)).more (by omega), u1.trans u2⟩
    rintro x G ⟨b, p, nm, dd, rfl, hb, np, hp, nmN, okd, ddN, SG, sG⟩
    obtain ⟨m1, m7⟩ := deed_max okd
    have m3 : 3 ≤ dd.vs.length := by
      rw [deed_len]
      obtain ⟨m, kk, hm, hnm, _⟩ := okd
      have h2 : 2 ≤ m := form_two _ hm
      omega
    refine ⟨b, _, rfl, SqT.of hb, rfl, _, _, rfl, _, _, rfl, rfl, ?_⟩
    refine ⟨_, rfl, _, rfl, p, _, rfl, .inr (SqT.of hp), _, _, rfl, rfl, a, lw, lc, _, _, rfl, SG, by omega, by omega, by omega, fun z2 H4 w0 w1 S4 K4 => ⟨_, _, rfl, rfl, ?_⟩⟩
    obtain ⟨jj, rfl⟩ : ∃ j : Nat, z2 = (j : Int) := ⟨z2.toNat, by omega⟩
    have hjj : jj + 1 < dd.vs.length := by omega
    have hp4 := SG.tupK K4 hp
    refine ⟨_, rfl, _, rfl, le 15 (by decide), fun L nL => ?_⟩
    have u1 := same_upd (o := .lst (ODV nm)) nL
    have nLw : L ≠ lw := fun z => (S4.new nL).1 (by simp [z])
    refine ⟨a, lw, lc, _, L, _, rfl, S4.same u1, by omega, upd_same, nLw, (by show 0 < 15; decide), (by show 15 ≤ 1000; decide), fun i xo H5 hxo S5 K5 => ?_⟩
    have K45 : Kp [a, lw] H4 H5 := (Kp.of u1).trans K5
    have hp5 := S4.tupK K45 hp4
    have KG5 : Kp [a, lw] H3 H5 := ((Kp.of sG).trans K4).trans K45
    obtain ⟨eo, hxe, ieo⟩ : ∃ eo, Dq [a, lw] H5 xo eo ∧ itemB eo = true := by
      have fo : F2 (Dq [a, lw] H5) (ODV nm) (.str "later" :: .str "A" :: .str "" :: .str "toolongname" :: .int 1 :: .int 2 :: .int 3 :: .int 0 :: .bool true :: .none :: .str "o" :: .str nm :: .str "1" :: .str "a-b" :: .str "vv" :: []) :=
        .cons (.str _) (.cons (.str _) (.cons (.str _) (.cons (.str _) (.cons (.int _) (.cons (.int _) (.cons (.int _) (.cons (.int _) (.cons (.bl _) (.cons .non (.cons (.str _) (.cons (.str _) (.cons (.str _) (.cons (.str _) (.cons (.str _) .nil))))))))))))))
      obtain ⟨e, he, hq⟩ := fo.at_ hxo
      have me := List.mem_of_getElem? he
      refine ⟨e, hq, ?_⟩
      by_cases c : e = .str nm
      · subst c
        exact (nms_item nm nmN).1
      · refine odd_ok e ?_
        simp only [List.mem_cons, List.not_mem_nil, or_false, c, false_or] at me
        simp only [ODD, List.mem_cons, List.not_mem_nil, or_false]
        exact me
    obtain ⟨geo, deo, _⟩ := itemB_iff ieo
    have its := deed_items okd ddN
    have bd := BentD.deed okd ddN
    have nsn := nms_g nmN
    have dd5 : Dq [a, lw] H5 (.ref p) dd.py := Dq.of_deed np hp5
    have deq := Deed.f2 (N := [a, lw]) (H := H5) dd
    have lpy : dd.pys.length = dd.vs.length := deq.len.symm
    have hf5 := KG5 _ _ hf3 of0
    have f25 := f23.mono fun _ _ q => Dq.keep (KpE.of KG5) _ _ q
    refine gname_seq ?_
    refine seq_cut (fun σ G6 => ∃ v e, σ = [some (.ref a), some (.ref l), some (.ref f0), some (.int j), some (.int kd), some (.str nm), some (.ref p), some (.int (1 + (jj : Int))), some xo, some v] ∧ Dq [a, lw] G6 v e ∧ StepG e ∧ StA G6 a lw lc (t + 9) ∧ Kp [a, lw] H5 G6) (fun N hN => ?_) ?_
    · have offT : ∀ {G : Hp}, Same H5 G → ∀ {c : Addr}, G c = none → c ∉ [a, lw] := fun {G} sG c n => ((S5.same sG).new n).1
      have fin : ∀ (v : V) (e : PyData) (G : Hp), Same H5 G → Dq [a, lw] G v e → StepG e → N [some (.ref a), some (.ref l), some (.ref f0), some (.int j), some (.int kd), some (.str nm), some (.ref p), some (.int (1 + (jj : Int))), some xo, some v] G := fun v e G sG q g => hN _ _ ⟨v, e, rfl, q, g, (S5.same sG).more (by omega), Kp.of sG⟩
      -- a pair of the name and a bent deed
      have pair : ∀ (r : Addr) (G : Hp) (ys : List V) (es : List PyData), Same H5 G → G r = some (.tup ys) → F2 (Dq [a, lw] H5) ys es → BentD (.tuple es) → ∀ b, G b = none → N [some (.ref a), some (.ref l), some (.ref f0), some (.int j), some (.int kd), some (.str nm), some (.ref p), some (.int (1 + (jj : Int))), some xo, some (.ref b)] (L2.upd G b (.tup [.str nm, .ref r])) := fun r G ys es sG hr f b2 b nb => by
        have u := same_upd (o := .tup [V.str nm, .ref r]) nb
        have SG := S5.same sG
        refine fin _ (.tuple [.str nm, .tuple es]) _ (sG.trans u) (.tup (offT sG nb) upd_same (.cons (.str _) (.cons (Dq.tup_of (SG.off hr (fun _ z => by cases z) fun _ z => by cases z) (u _ _ hr) (f.mono fun _ _ q => q.same (sG.trans u))) .nil))) (StepG.pair nsn.1 nsn.2 b2)
      refine ⟨_, rfl, rfl, _, rfl, ?_⟩
      refine ite2 (fun _ => ?_) fun _ => ?_
      · refine ⟨_, rfl, _, rfl, le 2 (by decide), fun b nb => ?_⟩
        have u := same_upd (o := .tup [xo, .ref p]) nb
        exact fin _ (.tuple [eo, dd.py]) _ u (.tup (offT (Same.refl _) nb) upd_same (.cons (hxe.same u) (.cons (dd5.same u) .nil))) (StepG.pair geo (by omega) bd)
      refine ⟨_, rfl, rfl, _, rfl, ?_⟩
      refine ite2 (fun _ => ?_) fun _ => ?_
      · refine ⟨_, rfl, _, rfl, le 2 (by decide), fun b nb => ?_⟩
        have u := same_upd (o := .lst [V.str nm, .ref p]) nb
        exact fin _ (.list [.str nm, dd.py]) _ u (.lst (offT (Same.refl _) nb) upd_same (.cons (.str _) (.cons (dd5.same u) .nil))) (StepG.lst2 nsn.1 nsn.2 bd)
      refine ⟨_, rfl, rfl, _, rfl, ?_⟩
      refine ite2 (fun _ => ?_) fun _ => ?_
      · refine ⟨_, rfl, _, rfl, p, _, rfl, .inr (SqT.of hp5), fun r nr => ⟨le 2 (by decide), fun b nb => ?_⟩⟩
        have u1 := same_upd (o := .lst dd.vs) nr
        have hr := upd_same (H := H5) (a := r) (o := .lst dd.vs)
        have u2 := same_upd (o := .tup [V.str nm, .ref r]) nb
        refine fin _ (.tuple [.str nm, .list dd.pys]) _ (u1.trans u2) (.tup (offT u1 nb) upd_same (.cons (.str _) (.cons (.lst (offT (Same.refl _) nr) (u2 _ _ hr) (DqAll.of (deq.mono fun _ _ q => q.same (u1.trans u2)))) .nil))) (StepG.pair nsn.1 nsn.2 (BentD.list (Nat.le_trans (pys_len okd) (by decide)) its))
      refine ⟨_, rfl, rfl, _, rfl, ?_⟩
      refine ite2 (fun _ => ?_) fun _ => ?_
      · have c1 : cutV dd.vs none (some (((dd.vs.length : Nat) : Int) - 1)) = dd.vs.take (dd.vs.length - 1) := by
          rw [show (((dd.vs.length : Nat) : Int) - 1) = ((dd.vs.length - 1 : Nat) : Int) by omega]
          exact cut_to (by omega)
        refine ⟨_, rfl, _, rfl, tNoPart_in ⟨_, rfl, p, _, rfl, .inr (SqT.of hp5), _, _, rfl, rfl, _, rfl, slA_read hp5 fun r G1 t1 h1 => ⟨le 2 (by decide), fun b nb => ?_⟩⟩⟩
        rw [c1] at h1
        refine pair r G1 _ (dd.pys.take (dd.vs.length - 1) ++ []) t1 h1 (by rw [List.append_nil]; exact F2.take _ deq) (bent_of okd (by omega) (by decide) (fun e he => its e (List.mem_of_mem_take he)) fun e he => by cases he) b nb
      refine ⟨_, rfl, rfl, _, rfl, ?_⟩
      refine ite2 (fun _ => ?_) fun _ => ?_
      · refine ⟨_, rfl, le 4 (by decide), fun L2' nL2 => ?_⟩
        have u1 := same_upd (o := .lst (("meet" :: "lay" :: "disc" :: "circles" :: [] : List Str).map V.str)) nL2
        have nLw2 : L2' ≠ lw := fun z => (S5.new nL2).1 (by simp [z])
        refine ⟨a, lw, lc, _, L2', _, rfl, S5.same u1, by omega, upd_same, nLw2, (by show 0 < 4; decide), (by show 4 ≤ 1000; decide), fun i2 xw H6 hxw S6 K6 => ?_⟩
        obtain ⟨wd, hwd, rfl⟩ := List.mem_map.mp (List.mem_of_getElem? (l := ("meet" :: "lay" :: "disc" :: "circles" :: [] : List Str).map V.str) hxw)
        have wN : wd ∈ NMS := (by decide +kernel : ∀ z ∈ ("meet" :: "lay" :: "disc" :: "circles" :: [] : List Str), z ∈ NMS) wd hwd
        have K56 : Kp [a, lw] H5 H6 := (Kp.of u1).trans K6
        have hp6 := S5.tupK K56 hp5
        refine ⟨le 1 (by decide), fun t1 n1 => ⟨_, rfl, le 1 (by decide), fun t2 n2 => ?_⟩⟩
        have v1 := same_upd (o := .tup [V.str wd]) n1
        have h1 := upd_same (H := H6) (a := t1) (o := .tup [V.str wd])
        have v2 := same_upd (o := .tup [V.ref p]) n2
        refine cat_readV (v2 _ _ h1) upd_same (le 2 (by decide)) fun r G1 v3 h3 => ?_
        have vA := (v1.trans v2).trans v3
        have SG1 := S6.same vA
        refine hN _ _ ⟨_, .tuple [.str wd, dd.py], rfl, .tup (SG1.off h3 (fun _ z => by cases z) fun _ z => by cases z) h3 (.cons (.str _) (.cons (Dq.of_deed np (vA _ _ hp6)) .nil)), StepG.pair (nms_g wN).1 (nms_g wN).2 bd, SG1.more (by omega), K56.trans (Kp.of vA)⟩
      refine ⟨_, rfl, rfl, _, rfl, ?_⟩
      refine ite2 (fun _ => ?_) fun _ => ?_
      · refine ⟨_, rfl, _, rfl, _, rfl, le 3 (by decide), fun b nb => ?_⟩
        have u := same_upd (o := .tup [V.str nm, .ref p, xo]) nb
        refine fin _ (.tuple [.str nm, dd.py, eo]) _ u (.tup (offT (Same.refl _) nb) upd_same (.cons (.str _) (.cons (dd5.same u) (.cons (hxe.same u) .nil)))) ?_
        obtain ⟨g, _⟩ := gdb_of_items (ds := [.str nm, dd.py, eo]) (by show 3 ≤ 1000; decide) 11 (by decide) fun e he => by
          simp only [List.mem_cons, List.not_mem_nil, or_false] at he
          rcases he with rfl | rfl | rfl
          · exact ⟨nsn.1, nsn.2⟩
          · exact ⟨bd.g, bd.dp⟩
          · exact ⟨geo, by omega⟩
        refine ⟨vdb_of g, fun x y e => ?_, fun x y e => ?_⟩
        · injection e with e
          injection e with _ e
          injection e with _ e
          cases e
        · injection e with e
          injection e with _ e
          injection e with _ e
          cases e
      · have e1 : (1 + (jj : Int)) = ((jj + 1 : Nat) : Int) := by omega
        have e2 : (1 + (jj : Int) + 1) = ((jj + 2 : Nat) : Int) := by omega
        have c1 : cutV dd.vs none (some (1 + (jj : Int))) = dd.vs.take (jj + 1) := by
          rw [e1]
          exact cut_to (by omega)
        have c2 : cutV dd.vs (some (1 + (jj : Int) + 1)) none = dd.vs.drop (jj + 2) := by
          rw [e2]
          exact cut_drop (by omega)
        refine ⟨_, rfl, _, rfl, tNoPart_in ⟨_, rfl, _, rfl, slA_read hp5 fun r1 G1 t1 h1 => ?_⟩⟩
        rw [c1] at h1
        refine ⟨_, rfl, le 1 (by decide), fun o1 no1 => ?_⟩
        have t2 := same_upd (o := .tup [xo]) no1
        have ho1 := upd_same (H := G1) (a := o1) (o := .tup [xo])
        generalize L2.upd G1 o1 (.tup [xo]) = G2 at t2 ho1
        refine cat_readV (t2 _ _ h1) ho1 (le _ (by rw [List.length_take]; show _ + 1 ≤ 1000; omega)) fun r2 G3 t3 h3 => ?_
        have t13 := (t1.trans t2).trans t3
        refine ⟨_, rfl, _, rfl, _, _, rfl, rfl, _, rfl, tNoPart_in (slA_read (t13 _ _ hp5) fun r4 G4 t4 h4 => ?_)⟩
        rw [c2] at h4
        refine cat_readV (t4 _ _ h3) h4 (le _ (by rw [List.length_append, List.length_take, List.length_drop]; show _ + 1 + _ ≤ 1000; omega)) fun r5 G5 t5 h5 => ⟨le 2 (by decide), fun b nb => ?_⟩
        rw [List.append_assoc] at h5
        refine pair r5 G5 _ (dd.pys.take (jj + 1) ++ ([eo] ++ dd.pys.drop (jj + 2))) ((t13.trans t4).trans t5) h5 ((F2.take _ deq).app (.cons hxe (F2.drop _ deq))) (bent_of okd (by omega) ?_ (fun e he => its e (List.mem_of_mem_take he)) fun e he => ?_) b nb
        · rw [List.length_append, List.length_drop]
          have := pys_len okd
          show 1 + _ ≤ 500
          omega
        · rcases List.mem_append.mp he with he | he
          · rw [List.mem_singleton.mp he]
            exact ieo
          · exact its e (List.mem_of_mem_drop he)
    rintro σ G6 ⟨v, e, rfl, hv, eG, S6, K6⟩
    have hf6 := K6 _ _ hf5 of0
    have f26 := f25.mono fun _ _ q => Dq.keep (KpE.of K6) _ _ q
    have c1 : cutV ws none (some (j : Int)) = ws.take j := cut_to (by omega)
    have e1 : ((j : Int) + 1) = ((j + 1 : Nat) : Int) := by omega
    have c2 : cutV ws (some ((j : Int) + 1)) none = ws.drop (j + 1) := by
      rw [e1]
      show (ws.drop (HT.sIx ws.length 0 (some ((j + 1 : Nat) : Int)))).take (HT.sIx ws.length ws.length none - HT.sIx ws.length 0 (some ((j + 1 : Nat) : Int))) = _
      rw [HT.sIx_nat, HT.sIx_none]
      rcases Nat.lt_or_ge j ws.length with h | h
      · rw [Nat.min_eq_left h]
        exact List.take_of_length_le (by rw [List.length_drop]; exact Nat.le_refl _)
      · rw [Nat.min_eq_right (by omega), List.drop_length, List.drop_eq_nil_of_le (by omega), List.take_nil]
    refine ⟨_, rfl, tNoPart_in ⟨_, rfl, _, rfl, f0, _, rfl, SqL.of hf6, fun p1 np1 => ?_⟩⟩
    rw [c1]
    have x1 := same_upd (o := .lst (ws.take j)) np1
    have hp1 := upd_same (H := G6) (a := p1) (o := .lst (ws.take j))
    generalize L2.upd G6 p1 (.lst (ws.take j)) = G7 at x1 hp1
    refine ⟨_, rfl, le 1 (by decide), fun p2 np2 => ?_⟩
    have x2 := same_upd (o := .lst [v]) np2
    have hp2 := upd_same (H := G7) (a := p2) (o := .lst [v])
    refine ⟨p1, p2, _, _, rfl, rfl, x2 _ _ hp1, hp2, le _ (by rw [List.length_take]; show _ + 1 ≤ 1000; omega), fun p3 np3 => ?_⟩
    have x3 := same_upd (o := .lst (ws.take j ++ [v])) np3
    have hp3' := upd_same (H := L2.upd G7 p2 (.lst [v])) (a := p3) (o := .lst (ws.take j ++ [v]))
    have x123 := (x1.trans x2).trans x3
    generalize L2.upd (L2.upd G7 p2 (.lst [v])) p3 (.lst (ws.take j ++ [v])) = G8 at x3 x123 hp3'
    refine ⟨_, rfl, _, rfl, _, _, rfl, rfl, _, rfl, tNoPart_in ⟨f0, _, rfl, SqL.of (x123 _ _ hf6), fun p4 np4 => ?_⟩⟩
    rw [c2]
    have x4 := same_upd (o := .lst (ws.drop (j + 1))) np4
    refine ⟨p3, p4, _, _, rfl, rfl, x4 _ _ hp3', upd_same, le _ (by rw [List.length_append, List.length_take, List.length_drop]; show _ + 1 + _ ≤ 1000; omega), fun p5 np5 => ?_⟩
    have x5 := same_upd (o := .lst (ws.take j ++ [v] ++ ws.drop (j + 1))) np5
    have xA := (x123.trans x4).trans x5
    have np5N := (S6.new ((x123.trans x4).free np5)).1
    refine k _ (.list ((ds.map stepPy).take j ++ [e] ++ (ds.map stepPy).drop (j + 1))) _ (.lst np5N upd_same (DqAll.of ?_)) (DrawD.list ?_ fun e' he' => ?_) ((S6.same xA).more (by omega)) ((((KA3.trans KG5).trans K6)).trans (Kp.of xA))
    · exact ((F2.take j (f26.mono fun _ _ q => q.same xA)).app (.cons (hv.same xA) .nil)).app (F2.drop (j + 1) (f26.mono fun _ _ q => q.same xA))
    · rw [List.length_append, List.length_append, List.length_take, List.length_drop, List.length_map]
      show _ + 1 + _ ≤ 1000
      omega
    · rcases List.mem_append.mp he' with he' | he'
      · rcases List.mem_append.mp he' with he' | he'
        · exact ok.g e' (List.mem_of_mem_take he')
        · rw [List.mem_singleton.mp he']
          exact eG
      · exact ok.g e' (List.mem_of_mem_drop he')
end
end Own
set_option Elab.async false
set_option linter.all false
set_option maxRecDepth 100000
set_option maxHeartbeats 400000
namespace Own
open PySem PySem.Spec PyProof.Rows L2 LamX
/-! ### lambdas handed to _law_caught -/
theorem kit_self {K : PySem.W.Frag} (t : Value) : PySem.W.kitOne K t t = some true := by
  unfold PySem.W.kitOne
  rw [if_pos (beq_self_eq_true t)]
theorem scCaught : FnScope ["_law_action", "_law_found", "_law_error"] ["_law_action"] (defScope sCaught) := ⟨rfl, rfl, rfl, by decide +kernel, rfl, by decide +kernel, by decide +kernel⟩
theorem pe_caught {X : Cx} {k : Nat} {c : Addr} {tb fC CR : Addr} {dC : FuncData} {TT : List (Addr × Str)} {params : Arguments} {body : Expr} {scope : Scope} {t : XK → TE} {p lpos pos : Pos} (FC : FnP X.K "_law_caught" sCaught fC dC) (gC : X.mg "_law_caught" = some (.ref fC)) (hg : Gl X "_law_caught") (gR : X.mg "RulerError" = some (.ref CR))
    (TB : TabB X.base X.mg c tb) (hcode : X.env.code = .ref c) (hm : (tb, X.env.qual ++ "<lambda>") ∈ TT) (hun : ∀ p ∈ TT, p.1 = tb → p.2 = X.env.qual ++ "<lambda>") (hr : Room (k + 2) X.A) {sc : Scope} (hsc : X.env.scope = sc) (L : LamS sc scope) (hdef : defaultsOf params X.env = ([], []))
    (hbind : ∀ (q : Str) (cl : List (Str × Addr)) (pm cv ctv : Value), bindArgs (PySem.W.kla_fn "<lambda>" q params body scope cl pm cv ctv) ⟨[], []⟩ = pure [])
    (hbody : ∀ (A : Around) (outer : List Env) (s : Shared) (H : Hp) (E : XK) (f c' : Addr), Room k (A.deeper (lamEnv X scope s.heap.objs.size f c')) → PE (lamCx X A outer s H E scope f c') body (t E)) :
    PE X (.Call (.Name "_law_caught" p) [.Lambda params body scope lpos] [] pos) (tLam TT (TKeep X.K CR) t) := by
  have bC : Binds X.K dC ["_law_action"] [] := FC.bindsN fun _ _ _ _ _ _ us hl => match us, hl with | [_], _ => rfl
  have kp := FC.kp
  obtain ⟨oc, od, dV, kV, doc, pm, an, cdv, ct, osl, rfl, lk, hcd, hdf, _⟩ := FC.ex
  exact pe_lamcall hg gC kp lk hcd bC scCaught rfl (Or.inl rfl) (keep_gives rfl scCaught.nd rfl rfl rfl gR (by decide) (by decide) (by decide) (by decide) (by decide)) TB hcode hm hun hr (hsc ▸ L) hdef hbind hbody
theorem code_is {K : PySem.W.Frag} {x qual : Str} {params : Arguments} {body : List Stmt} {scope : Scope} {f : Addr} {cdv : Value} {d : Str × Option Str} (hf : f = He.fAd K d)
    (h : ∃ (oc : Value) (od : Option Addr) (dV kV doc pm : Value) (an : Option Addr) (ct : Value) (osl : Array (Option Value)), K.lookup f = some ⟨oc, od, .func (PySem.W.fnOf x qual params body scope dV kV doc pm an cdv ct), osl⟩) (hc : PySem.W.codeIn K cdv qual = true) : cdv = .ref (He.codeOf K d) := by
  obtain ⟨oc, od, dV, kV, doc, pm, an, ct, osl, lk⟩ := h
  obtain ⟨c, rfl⟩ := He.codeIn_ref hc
  have e : He.codeOf K d = c := He.codeOf_eq (by rw [← hf]; exact lk) rfl
  rw [e]
theorem StA.extN {H H' : Hp} {a lw lc : Addr} {t : Nat} (S : StA H a lw lc t) (e : ExtN H H') : StA H' a lw lc t := by
  obtain ⟨⟨ws, cs, r, u, h1, h2, h3, h4⟩, ne⟩ := S
  exact ⟨⟨ws, cs, r, u, e _ _ h1 (fun _ q => by cases q), e _ _ h2 (fun _ q => by cases q), e _ _ h3 (fun _ q => by cases q), h4⟩, ne⟩
theorem Tabs.kp {TT : List (Addr × Str)} {H H' : Hp} {a lw lc : Addr} {t : Nat} (T : Tabs TT H) (S : StA H a lw lc t) (k : Kp [a, lw] H H') : Tabs TT H' := by
  obtain ⟨⟨ws, cs, r, u, g1, g2, _⟩, _⟩ := S
  intro p hp
  obtain ⟨ps, h1, h2, h3⟩ := T p hp
  have off : ∀ {b : Addr} {o : HO}, H b = some o → (∀ kvs, o ≠ .dK kvs) → (∀ xs, o ≠ .lst xs) → b ∉ [a, lw] := fun {b o} hb n1 n2 => by
    have q1 : b ≠ a := ne_of hb g1 (n1 _)
    have q2 : b ≠ lw := ne_of hb g2 (n2 _)
    simp [q1, q2]
  refine ⟨ps, k _ _ h1 (off h1 (fun _ z => by cases z) (fun _ z => by cases z)), h2, fun pos cv hc => ?_⟩
  obtain ⟨c, e1, e2⟩ := h3 pos cv hc
  exact ⟨c, e1, k _ _ e2 (off e2 (fun _ z => by cases z) (fun _ z => by cases z))⟩
def TupK (H H' : Hp) : Prop := ∀ b ys, H b = some (.tup ys) → H' b = some (.tup ys)
theorem TupK.refl (H : Hp) : TupK H H := fun _ _ h => h
theorem TupK.trans {H H1 H2 : Hp} (a : TupK H H1) (b : TupK H1 H2) : TupK H H2 := fun c ys h => b c ys (a c ys h)
theorem TupK.of {H H' : Hp} (e : Same H H') : TupK H H' := fun b ys h => e b _ h
theorem TupK.kp {H H' : Hp} {a lw lc : Addr} {t : Nat} (S : StA H a lw lc t) (k : Kp [a, lw] H H') : TupK H H' := fun _ _ h => S.tupK k h
theorem TupK.put {H : Hp} {b : Addr} {l : List V} (e : H b = some (.lst l)) (o : HO) : TupK H (L2.upd H b o) := fun c ys h => by
  rw [upd_ne (ne_of h e (by intro z; cases z))]
  exact h
theorem TupK.ext {H H' : Hp} (e : ExtN H H') : TupK H H' := fun b ys h => e b _ h fun _ z => by cases z
theorem kb_two {K : PySem.W.Frag} {x qual : Str} {params : Arguments} {body : List Stmt} {scope : Scope} {kws : List (Str × V)} {f : Addr} {fd : FuncData} {p q : Str} (F : FunD K x qual params body scope [] kws f fd)
    (h : ∀ (kV doc pm : Value) (an : Option Addr) (cdv ct u v : Value), bindArgs (PySem.W.fnOf x qual params body scope .none kV doc pm an cdv ct) ⟨[], [(p, u), (q, v)]⟩ = pure [(p, u), (q, v)]) : KBn K fd [p, q] 0 [p, q] (fun _ ws => ws) (fun _ zs => zs) := by
  obtain ⟨oc, od, dV, kV, doc, pm, an, cdv, ct, osl, rfl, lk, hcd, hD, hK⟩ := F.ex
  refine ⟨fun s us ws X l1 l2 => ?_, fun _ r => r⟩
  match us, ws, l1, l2 with
  | [], [u, v], _, _ =>
    rcases hD with ⟨_, rfl⟩ | ⟨e, _⟩
    · exact .of_eq (h kV doc pm an cdv ct u v)
    · exact absurd rfl e
theorem call_isXK {X : Cx} {K : PySem.W.Frag} (h : X.K = K) : CallR X (.builtin "isinstance") (rIsX K) := h ▸ call_isX
abbrev qTR : Str := ("_law_needed_right" : Str) ++ ".<locals>." ++ "<lambda>"
abbrev qER : Str := ("law" : Str) ++ ".<locals>." ++ "<lambda>"
/-- the two tables -/
abbrev TTs (tt te : Addr) : List (Addr × Str) := [(tt, qTR), (te, qER)]
theorem TTs.cases {tt te : Addr} {p : Addr × Str} (h : p ∈ TTs tt te) : p = (tt, qTR) ∨ p = (te, qER) := by simpa using h
theorem TTs.t {tt te : Addr} (A : tt ≠ te) : ∀ p ∈ TTs tt te, p.1 = tt → p.2 = qTR := fun p hp e => by
  rcases TTs.cases hp with rfl | rfl
  · rfl
  · exact absurd e.symm A
theorem TTs.e {tt te : Addr} (A : tt ≠ te) : ∀ p ∈ TTs tt te, p.1 = te → p.2 = qER := fun p hp e => by
  rcases TTs.cases hp with rfl | rfl
  · exact absurd e A
  · rfl
theorem KpE.ext {xs : List Addr} {H H' : Hp} (k : ExtN H H') : KpE xs H H' := fun b o e _ n => k b o e n
/-- all but the state and the tables is as it was -/
structure Stay (a lw lc : Addr) (t : Nat) (TT : List (Addr × Str)) (H H' : Hp) : Prop where
  s : StA H' a lw lc t
  t : Tabs TT H'
  k : KpE [a, lw] H H'
theorem Stay.same {a lw lc : Addr} {t : Nat} {TT : List (Addr × Str)} {H H1 H2 : Hp} (h : Stay a lw lc t TT H H1) (e : Same H1 H2) : Stay a lw lc t TT H H2 := ⟨h.s.same e, h.t.ext e, h.k.trans (KpE.same e _)⟩
theorem Stay.ext {a lw lc : Addr} {t : Nat} {TT : List (Addr × Str)} {H H1 H2 : Hp} (h : Stay a lw lc t TT H H1) (e : ExtN H1 H2) (T : Tabs TT H2) : Stay a lw lc t TT H H2 := ⟨h.s.extN e, T, h.k.trans (KpE.ext e)⟩
theorem Stay.kp {a lw lc : Addr} {t t' : Nat} {TT : List (Addr × Str)} {H H1 H2 : Hp} (h : Stay a lw lc t TT H H1) (S : StA H2 a lw lc t') (k : Kp [a, lw] H1 H2) : Stay a lw lc t' TT H H2 := ⟨S, Tabs.kp h.t h.s k, h.k.trans (KpE.of k)⟩
theorem Stay.more {a lw lc : Addr} {t t' : Nat} {TT : List (Addr × Str)} {H H1 : Hp} (h : Stay a lw lc t TT H H1) (l : t ≤ t') : Stay a lw lc t' TT H H1 := ⟨h.s.more l, h.t, h.k⟩
theorem Stay.dq {a lw lc : Addr} {t : Nat} {TT : List (Addr × Str)} {H H1 : Hp} (h : Stay a lw lc t TT H H1) {x : V} {d : PyData} (q : Dq [a, lw] H x d) : Dq [a, lw] H1 x d := Dq.keep h.k _ _ q
theorem Stay.tup {a lw lc : Addr} {t : Nat} {TT : List (Addr × Str)} {H H1 : Hp} (h : Stay a lw lc t TT H H1) {b : Addr} {xs : List V} (n : b ∉ [a, lw]) (q : H b = some (.tup xs)) : H1 b = some (.tup xs) := h.k _ _ q n fun _ z => by cases z
theorem Stay.lst {a lw lc : Addr} {t : Nat} {TT : List (Addr × Str)} {H H1 : Hp} (h : Stay a lw lc t TT H H1) {b : Addr} {xs : List V} (n : b ∉ [a, lw]) (q : H b = some (.lst xs)) : H1 b = some (.lst xs) := h.k _ _ q n fun _ z => by cases z
structure ErrK (K : PySem.W.Frag) (mg : Str → Option Value) (CR : Addr) (x : Str) (C : Addr) : Prop where
  e : ExcT K mg x C
  c : ExcC K C
  x : PySem.W.exmOne K (.ref C) (.ref CR) = some true
theorem FunD.okC {P : Program} {w : World} {K : PySem.W.Frag} {mg : Str → Option Value} {base : Heap} {x qual : Str} {params : Arguments} {body : List Stmt} {scope : Scope} {dvs : List V} {kws : List (Str × V)} {f : Addr} {fd : FuncData} {CX : CXT} {N ps : List Str} {k : Nat} {sp : Sp} {d : Str × Option Str}
    (F : FunD K x qual params body scope dvs kws f fd) (hf : f = He.fAd K d) (S : FnScope N ps scope) (len : ∀ vs H Q E, sp vs H Q E → vs.length = ps.length)
    (hbody : ∀ (A : Around) (outer : List Env) (s : Shared) (H : Hp) (vs : List V) (Q : VK) (E : XK), Room k (A.deeper (envOfC qual scope s.heap.objs.size f (.ref (He.codeOf K d)))) → sp vs H Q E →
      ∃ t, PSs (cxOf CX P w K mg base N qual scope f (.ref (He.codeOf K d)) A outer s H E) body t ∧ t { nx := fun _ H' => Q .non H', rt := Q } (L2.start N vs) H) : FnOk P w K mg base CX (k + 1) f fd ps sp := by
  obtain ⟨oc, od, dV, kV, doc, pm, an, cdv, ct, osl, rfl, lk, hcd, _, _⟩ := F.ex
  obtain ⟨c, rfl⟩ := He.codeIn_ref hcd
  have e : He.codeOf K d = c := He.codeOf_eq (by rw [← hf]; exact lk) rfl
  refine fn_of lk hcd S len fun A outer s H vs Q E hr hsp => ?_
  have := hbody A outer s H vs Q E (by rw [e]; exact hr) hsp
  rw [e] at this
  exact this
theorem sl_tupK {X : Cx} {K : PySem.W.Frag} (h : X.K = K) : SlR X (rSlT K) := h ▸ sl_tup
end Own
set_option Elab.async false
set_option linter.all false
set_option maxRecDepth 100000
set_option maxHeartbeats 400000
namespace Own
open PySem PySem.Spec PyProof.Rows L2 LamX
/-! ### data whose repr is short -/
structure Rp (n m : Nat) (d : PyData) : Prop where
  lay : d.canLay0 = true
  sh : d.showable = true
  is : d.intsShort 13 = true
  w : d.weight ≤ n
  dp : d.depth ≤ m
theorem rp_all {n : Nat} : ∀ {ds : List PyData}, (∀ d ∈ ds, ∃ m, Rp n m d) → PyData.canLayAll0 ds = true ∧ PyData.showableAll ds = true ∧ PyData.intsShortAll 13 ds = true ∧ PyData.weightAll ds ≤ ds.length * (n + 1)
  | [], _ => ⟨rfl, rfl, rfl, Nat.zero_le _⟩
  | d :: ds, h => by
    obtain ⟨m, r⟩ := h d List.mem_cons_self
    obtain ⟨a1, a2, a3, a4⟩ := rp_all (ds := ds) fun e he => h e (List.mem_cons_of_mem _ he)
    refine ⟨?_, ?_, ?_, ?_⟩
    · show (d.canLay0 && PyData.canLayAll0 ds) = true
      rw [r.lay, a1]
      rfl
    · show (d.showable && PyData.showableAll ds) = true
      rw [r.sh, a2]
      rfl
    · show (d.intsShort 13 && PyData.intsShortAll 13 ds) = true
      rw [r.is, a3]
      rfl
    · show d.weight + 1 + PyData.weightAll ds ≤ (ds.length + 1) * (n + 1)
      have := r.w
      rw [Nat.add_mul, Nat.one_mul]
      omega
theorem Rp.seq {n m k : Nat} {ds : List PyData} (h : ∀ d ∈ ds, Rp n m d) (hk : ds.length ≤ k) : Rp (k * (n + 1)) (m + 1) (.list ds) ∧ Rp (k * (n + 1)) (m + 1) (.tuple ds) := by
  obtain ⟨a1, a2, a3, a4⟩ := rp_all (n := n) fun d hd => ⟨m, h d hd⟩
  have a5 := depth_all fun d hd => (h d hd).dp
  have a6 : PyData.weightAll ds ≤ k * (n + 1) := Nat.le_trans a4 (Nat.mul_le_mul_right _ hk)
  exact ⟨⟨a1, a2, a3, a6, by show PyData.depthAll ds + 1 ≤ m + 1; omega⟩, ⟨a1, a2, a3, a6, by show PyData.depthAll ds + 1 ≤ m + 1; omega⟩⟩
theorem Rp.more {n m n' m' : Nat} {d : PyData} (h : Rp n m d) (hn : n ≤ n') (hm : m ≤ m') : Rp n' m' d := ⟨h.lay, h.sh, h.is, Nat.le_trans h.w hn, Nat.le_trans h.dp hm⟩
theorem Rp.fits {n m : Nat} {d : PyData} (h : Rp n m d) (hn : n ≤ 2 ^ 20) : d.shown.length ≤ sizeLine ∧ d.hasDict = false :=
  ⟨PyData.shown_fits (B := 13) (by decide) (by decide) (PyData.leavesShort_of_canLay0 13 d h.lay h.is) (Nat.le_trans h.w hn), PyData.hasDict_of_canLay d h.lay⟩
theorem Rp.str {z : Str} (h : fok (.str z) = true) (l : z.length ≤ 100) : Rp 100 0 (.str z) := ⟨h, rfl, rfl, l, Nat.le_refl _⟩
theorem Rp.way {i : Int} (h1 : 1 ≤ i) (h2 : i ≤ 2) : Rp 100 0 (.int i) := by
  have e : i = 1 ∨ i = 2 := by omega
  rcases e with rfl | rfl
  · exact ⟨rfl, by decide +kernel, by decide +kernel, by decide +kernel, Nat.le_refl _⟩
  · exact ⟨rfl, by decide +kernel, by decide +kernel, by decide +kernel, Nat.le_refl _⟩
theorem Rp.bool (b : Bool) : Rp 100 0 (.bool b) := ⟨rfl, rfl, rfl, Nat.zero_le _, Nat.le_refl _⟩
theorem Rp.name {z : Str} (h : NameOk z) : Rp 100 0 (.str z) := Rp.str (fok_name h) (Nat.le_trans h.1 (by decide))
theorem form_len : ∀ t ∈ FORM, t.1.length ≤ 100 := by decide +kernel
theorem Rp.deed {d : Deed} (ok : DeedOk d) : Rp 707 1 d.py := by
  refine (Rp.seq (n := 100) (m := 0) (k := 7) (fun e he => ?_) (pys_len ok)).2
  obtain ⟨m, k, hm, nm, okN, nk, okW⟩ := ok
  unfold Deed.pys at he
  rcases List.mem_cons.mp he with rfl | he
  · exact Rp.str (form_facts _ hm).2.1 (form_len _ hm)
  rcases List.mem_append.mp he with he | he
  · obtain ⟨z, hz, rfl⟩ := List.mem_map.mp he
    exact Rp.name (okN z hz)
  · obtain ⟨z, hz, rfl⟩ := List.mem_map.mp he
    exact Rp.way (okW z hz).1 (okW z hz).2
theorem Rp.step {s : Str × Deed} (hn : NameOk s.1) (ok : DeedOk s.2) : Rp 1416 2 (stepPy s) := (Rp.seq (n := 707) (m := 1) (k := 2) (ds := [.str s.1, s.2.py]) (fun e he => by
  simp only [List.mem_cons, List.not_mem_nil, or_false] at he
  rcases he with rfl | rfl
  · exact (Rp.name hn).more (by decide) (by decide)
  · exact Rp.deed ok) (Nat.le_refl _)).2
theorem Rp.steps {sts : List (Str × Deed)} (h : ∀ s ∈ sts, NameOk s.1 ∧ DeedOk s.2) (l : sts.length ≤ 50) : Rp 70850 3 (.list (sts.map stepPy)) := (Rp.seq (n := 1416) (m := 2) (k := 50) (fun e he => by
  obtain ⟨s, hs, rfl⟩ := List.mem_map.mp he
  exact Rp.step (h s hs).1 (h s hs).2) (by rw [List.length_map]; exact l)).1
theorem Rp.names {ns : List Str} (h : ∀ z ∈ ns, NameOk z) (l : ns.length ≤ 50) : Rp 5050 1 (.list (ns.map PyData.str)) := (Rp.seq (n := 100) (m := 0) (k := 50) (fun e he => by
  obtain ⟨z, hz, rfl⟩ := List.mem_map.mp he
  exact Rp.name (h z hz)) (by rw [List.length_map]; exact l)).1
theorem Rp.pair {sts : List (Str × Deed)} {ns : List Str} (h : ∀ s ∈ sts, NameOk s.1 ∧ DeedOk s.2) (l : sts.length ≤ 50) (hn : ∀ z ∈ ns, NameOk z) (ln : ns.length ≤ 50) : Rp 141702 4 (.tuple [.list (sts.map stepPy), .list (ns.map PyData.str)]) := (Rp.seq (n := 70850) (m := 3) (k := 2) (fun e he => by
  simp only [List.mem_cons, List.not_mem_nil, or_false] at he
  rcases he with rfl | rfl
  · exact Rp.steps h l
  · exact (Rp.names hn ln).more (by decide) (by decide)) (Nat.le_refl _)).2
/-- repr of such -/
theorem rp_read {K : PySem.W.Frag} {H : Hp} {x : V} {d : PyData} {n m : Nat} {Q : VK} (hx : Dq [] H x d) (h : Rp n m d) (hn : n ≤ 2 ^ 20) (hm : m ≤ 64) (k : Q (.str d.shown) H) : rReprA K [x] H Q :=
  ⟨x, d, rfl, Dq.dp _ _ hx h.lay, h.sh, (h.fits hn).2, Nat.le_trans h.dp hm, (h.fits hn).1, k⟩
theorem Dq.names {N : List Addr} {H : Hp} {a : Addr} {ns : List Str} (n : a ∉ N) (h : H a = some (.lst (ns.map V.str))) : Dq N H (.ref a) (.list (ns.map PyData.str)) := .lst n h (by
  have := dq_str_of (N := N) (H := H) ns (xs := []) (ds := []) .nil
  rw [List.append_nil, List.append_nil] at this
  exact this)
theorem Dq.namesT {N : List Addr} {H : Hp} {a : Addr} {ns : List Str} (n : a ∉ N) (h : H a = some (.tup (ns.map V.str))) : Dq N H (.ref a) (.tuple (ns.map PyData.str)) := .tup n h (by
  have := dq_str_of (N := N) (H := H) ns (xs := []) (ds := []) .nil
  rw [List.append_nil, List.append_nil] at this
  exact this)
theorem wdb_names {ns : List Str} (h : ∀ z ∈ ns, NameOk z) (l : ns.length ≤ 1000) : wdb (.list (ns.map PyData.str)) = true ∧ wdb (.tuple (ns.map PyData.str)) = true := by
  have q : (decide ((ns.map PyData.str).length ≤ 1000) && (ns.map PyData.str).all vdb) = true := by
    rw [List.length_map, decide_eq_true l, Bool.true_and, List.all_eq_true]
    intro e he
    obtain ⟨z, hz, rfl⟩ := List.mem_map.mp he
    have f := fok_name (h z hz)
    have l8 := (h z hz).1
    refine vdb_of ?_
    show (_ && (decide ((0 : Nat) ≤ 50) && decide (z.length ≤ 1000))) = true
    rw [decide_eq_true (by omega : z.length ≤ 1000), Bool.and_true, Bool.and_eq_true]
    exact ⟨f, rfl⟩
  exact ⟨q, q⟩
theorem need_sub {sts : List (Str × Deed)} {ns : List Str} : ∀ s ∈ needL sts ns, s ∈ sts := fun s hs => List.mem_reverse.mp (pickR_sub s (need_mem.mp hs))
theorem pickR_len : ∀ (r : List (Str × Deed)) (W : List Str), (pickR r W).length ≤ r.length
  | [], _ => Nat.le_refl _
  | s :: q, W => by
    by_cases c : s.1 ∈ W
    · rw [pickR_yes c, List.length_cons, List.length_cons]
      have := pickR_len q (W ++ s.2.names)
      omega
    · rw [pickR_no c, List.length_cons]
      have := pickR_len q W
      omega
theorem need_len (sts : List (Str × Deed)) (ns : List Str) : (needL sts ns).length ≤ sts.length := by
  unfold needL
  rw [List.length_reverse]
  have := pickR_len sts.reverse ns
  rw [List.length_reverse] at this
  exact this
end Own
set_option Elab.async false
set_option linter.all false
set_option maxRecDepth 100000
set_option maxHeartbeats 1000000
namespace Own
open PySem PySem.Spec PyProof.Rows L2 LamX
/-! ### the drawing's names need what they hang on -/
def swp {α : Type} : List α → List α
  | [u, v] => [v, u]
  | w => w
theorem kb_swap {K : PySem.W.Frag} {x qual : Str} {params : Arguments} {body : List Stmt} {scope : Scope} {kws : List (Str × V)} {f : Addr} {fd : FuncData} {p q : Str} (F : FunD K x qual params body scope [] kws f fd)
    (h : ∀ (kV doc pm : Value) (an : Option Addr) (cdv ct u v : Value), bindArgs (PySem.W.fnOf x qual params body scope .none kV doc pm an cdv ct) ⟨[], [(q, u), (p, v)]⟩ = pure [(p, v), (q, u)]) : KBn K fd [p, q] 0 [q, p] (fun _ ws => swp ws) (fun _ zs => swp zs) := by
  obtain ⟨oc, od, dV, kV, doc, pm, an, cdv, ct, osl, rfl, lk, hcd, hD, hK⟩ := F.ex
  refine ⟨fun s us ws X l1 l2 => ?_, fun {vs us zs ws} _ r => ?_⟩
  · match us, ws, l1, l2 with
    | [], [u, v], _, _ =>
      rcases hD with ⟨_, rfl⟩ | ⟨e, _⟩
      · exact .of_eq (h kV doc pm an cdv ct u v)
      · exact absurd rfl e
  · cases r with
    | nil => exact .nil
    | cons r1 r =>
      cases r with
      | nil => exact .cons r1 .nil
      | cons r2 r =>
        cases r with
        | nil => exact .cons r2 (.cons r1 .nil)
        | cons r3 r => exact .cons r1 (.cons r2 (.cons r3 r))
def forBody : Stmt → List Stmt
  | .For _ _ b _ _ => b
  | _ => []
abbrev nrTurn : List Stmt := forBody ((defBody sNeedR).getD 2 (.Pass ⟨0, 0, 0, 0⟩))
abbrev nrPart : List Stmt := forBody (nrTurn.getD 10 (.Pass ⟨0, 0, 0, 0⟩))
/-- what it calls -/
structure NRK (P : Program) (w : World) (K : PySem.W.Frag) (mg : Str → Option Value) (base : Heap) (CB CN CS CR fC fI : Addr) (dSh dD dH dN dC dP dG dS : FuncData) : Prop where
  sh : Fk P w K mg base CX0 3 "_law_shuffled" dSh ["_law_state", "_law_some"] spShuf
  d : Fk P w K mg base CX0 2 "_law_draw" dD ["_law_state", "_law_room"] spDraw
  h : Fk P w K mg base CX0 3 "_law_hung" dH ["_law_steps", "_law_names"] spHung
  fn : FnP K "needed" sNeeded (He.ga K "needed") dN
  n : Fk P w K mg base (L2.CX P w) 8 "needed" dN ["steps", "names"] (spNeeded NOW CB CN CS)
  p : Fk P w K mg base CX0 1 "_law_parts" dP ["_law_steps"] spParts
  q : Fk P w K mg base (L2.CX P w) 6 "is_sequel" dS ["value", "names"] (spSeq NOW CN)
  gg : FnOkG P w K mg base CX0 3 (He.ga K "_law_goes_on") dG ["_law_value", "_law_names"] spLGoes
  bg : Binds K dG ["_law_value", "_law_names"] []
  kpg : PySem.W.keepIn K (.ref (He.ga K "_law_goes_on")) = true
  glg : mg "_law_goes_on" = some (.ref (He.ga K "_law_goes_on"))
  fc : FnP K "_law_caught" sCaught fC dC
  gc : mg "_law_caught" = some (.ref fC)
  gr : mg "RulerError" = some (.ref CR)
  sn : SupX.Has P K mg tNN CS fI
  cs : ExcC K CS
  xfs : XfC K CS
  xs : PySem.W.exmOne K (.ref CS) (.ref CR) = some true
  t : Txt K mg
abbrev nsNR : List Str := ["_law_state", "_law_steps", "_law_sheet", "_law_own", "_law_name_here", "_law_deed_here", "_law_turn", "_law_names", "_law_due", "_law_kept", "_law_found", "_law_spot", "_law_strange", "_law_error", "_law_part", "_law_right", "_law_has", "_law_step"]
abbrev envNR (K : PySem.W.Frag) (s : Shared) : Env := envOfC "_law_needed_right" (defScope sNeedR) s.heap.objs.size (He.ga K "_law_needed_right") (.ref (He.codeOf K ("_law_needed_right", none)))
section
variable {P : Program} {w : World} {K : PySem.W.Frag} {mg : Str → Option Value} {base : Heap} {CB CN CS CR fC fI tn tl : Addr} {dSh dD dH dN dC dP dG dS : FuncData}
theorem pi_listK {X : Cx} {tg l : Expr} {te : TE} (h : X.K = K) (hl : PE X l te) : PI X tg l (iList K te) := h ▸ pi_list hl
theorem rp_ok {H : Hp} {x : V} {d : PyData} {n m : Nat} (hx : Dq [] H x d) (h : Rp n m d) (hn : n ≤ 2 ^ 20) (hm : m ≤ 64) : Dp K H x d ∧ d.showable = true ∧ d.hasDict = false ∧ d.depth ≤ 64 ∧ d.shown.length ≤ sizeLine :=
  ⟨Dq.dp _ _ hx h.lay, h.sh, (h.fits hn).2, Nat.le_trans h.dp hm, (h.fits hn).1⟩
theorem op_notInDK {X : Cx} (h : X.K = K) (hu : X.A.units + 65 < cLine) : OpR X (compareOp .NotIn) (rNotInD K) := h ▸ op_notInD hu
theorem scNR : FnScope nsNR ["_law_state", "_law_steps"] (defScope sNeedR) := ⟨rfl, rfl, rfl, by decide +kernel, rfl, by decide +kernel, by decide +kernel⟩
theorem nr_part (Z : NRK P w K mg base CB CN CS CR fC fI dSh dD dH dN dC dP dG dS) (A : Around) (outer : List Env) (s : Shared) (H : Hp) (E : XK) (hg : (A.deeper (envNR K s)).guards = some []) (hr : Room 10 (A.deeper (envNR K s))) :
    ∃ u, PSs (cxOf CX0 P w K mg base nsNR "_law_needed_right" (defScope sNeedR) (He.ga K "_law_needed_right") (.ref (He.codeOf K ("_law_needed_right", none))) A outer s H E).nox nrPart u ∧
      ∀ (D : Ends) (G : Hp) (a l sl q nl du : Addr) (v3 v6 v9 v10 v11 v12 v13 v15 v16 : Option V) (ds pt : List (Str × Deed)) (ns : List Str) (ys us : List V), StepsOk ds → (∀ s ∈ pt, s ∈ ds) → pt.length ≤ 8 → G q = some (.lst ys) → F2 (Dq [] G) ys (pt.map stepPy) → G nl = some (.lst (ns.map V.str)) → (∀ z ∈ ns, NameOk z) → ns.length ≤ 50 → G sl = some (.lst (SHEET.map V.str)) →
        G du = some (.lst us) → F2 (Dq [] G) us ((needL ds ns).map stepPy) →
        (∀ v15 v16 G', Same G G' → D.nx [some (.ref a), some (.ref l), some (.ref sl), v3, none, none, v6, some (.ref nl), some (.ref du), v9, v10, v11, v12, v13, some (.ref q), v15, v16, none] G') →
        u D [some (.ref a), some (.ref l), some (.ref sl), v3, none, none, v6, some (.ref nl), some (.ref du), v9, v10, v11, v12, v13, some (.ref q), v15, v16, none] G := by
  have T := Z.t
  have hu := hu_of hr
  have hu1 : (A.deeper (envNR K s)).units + 100 < cLine := by have := hr.un; omega
  have hu65 : (A.deeper (envNR K s)).units + 65 < cLine := by omega
  have hr3 := hr.mono (show 3 ≤ 10 by decide)
  have hr6 := hr.mono (show 6 ≤ 10 by decide)
  refine ⟨_, pss_cons (ps_set (i := 15) scNR.nd rfl (.inl rfl) (pe_callG Z.gg hg hr3 (by rfl) Z.glg Z.kpg Z.bg pass0 (pa_cons (pv 14) (pa_cons (pv 2) pa_nil))))
          (pss_cons (ps_if (pt_cmpR op_ne (pe_callB (call_reprA hg hu1) (by rfl) T.repr (by decide +kernel) (pa_cons (pe_call Z.q.ok hr6 (by rfl) Z.q.g Z.q.kp Z.q.b .nil passL (pa_cons (pv 14) (pa_cons (pv 2) pa_nil))) pa_nil)) (pe_callB (call_reprA hg hu1) (by rfl) T.repr (by decide +kernel) (pa_cons (pv 15) pa_nil)) (nomark _)) (pss_one (ps_ret pe_bl)) pss_nil)
          (pss_cons (ps_set (i := 16) scNR.nd rfl (.inl rfl) (pe_cmpR (op_eqD hr.units) (pe_lc (own := [("_law_name_here", 4)]) (g := gName 4) (by rfl) scNR.nd (pi_list (pv 7)) (blkOk_by (own := [("_law_name_here", 4)]) (N := nsNR) (sc := defScope sNeedR) (by decide +kernel))
              (fun _ _ _ _ _ => pg_name (i := 4) scNR.nd rfl (Or.inl rfl)) (fun _ _ _ _ _ => pts_one (PW.pt (pw_and (pt_cmpR (op_notInK (K := K) rfl) (pv 4) (pv 2) (by rfl)) (pw_and1 (pt_cmpR (op_notInK (K := K) rfl) (pv 4) (pe_lc (own := [("_law_step", 17)]) (g := gName 17) (tt := tYes) (by rfl) scNR.nd (pi_listK (K := K) rfl (pv 14)) (blkOk_by (by kernel_rfl)) (fun _ _ _ _ _ => pg_name (i := 17) scNR.nd rfl (Or.inl rfl)) (fun _ _ _ _ _ => pts_nil) (fun _ _ _ _ _ => pe_ix (ix_tupK (K := K) rfl) (pv 17) pe_int (fun _ _ => rfl))) (by rfl)))))) (fun _ _ _ _ _ => pv 4)) (pe_lst pa_nil) (nomark _)))
          (pss_one (ps_if (PW.pt (pw_and (pt_val (pv 15)) (pw_and (pt_val (pv 16)) (pw_and1 (pt_cmpR (op_neD hr.units) (pe_lc (own := [("_law_step", 17)]) (g := gName 17) (by rfl) scNR.nd (pi_list (pv 8)) (blkOk_by (own := [("_law_step", 17)]) (N := nsNR) (sc := defScope sNeedR) (by decide +kernel))
              (fun _ _ _ _ _ => pg_name (i := 17) scNR.nd rfl (Or.inl rfl)) (fun _ _ _ _ _ => pts_one (pt_cmpR (op_notInDK (K := K) rfl hu65) (pv 17) (pv 14) (by rfl))) (fun _ _ _ _ _ => pv 17)) (pe_lst pa_nil) (nomark _)))))) (pss_one (ps_ret pe_bl)) pss_nil)))), ?_⟩
  intro D G a l sl q nl du v3 v6 v9 v10 v11 v12 v13 v15 v16 ds pt ns ys us ok sub l8 hq fq hnl okn l50 hsl hdu fdu nx
  have gmem : ∀ e ∈ pt.map stepPy, e ∈ ds.map stepPy := fun e he => by
    obtain ⟨s, hs, rfl⟩ := List.mem_map.mp he
    exact List.mem_map.mpr ⟨s, sub s hs, rfl⟩
  have DL := DrawD.list (es := pt.map stepPy) (by rw [List.length_map]; omega) fun e he => ok.g e (gmem e he)
  have dq : ∀ {G' : Hp}, Same G G' → Dq [] G' (.ref q) (.list (pt.map stepPy)) := fun h => .lst (fun z => by cases z) (h _ _ hq) (DqAll.of (fq.mono fun _ _ q => q.same h))
  have shN : NamesOk SHEET := ⟨by decide +kernel, by decide +kernel⟩
  have eb : drawV SHEET (.list (pt.map stepPy)) = goesB SHEET (pt.map stepPy) := rfl
  refine ⟨_, rfl, _, rfl, .ref q, sl, _, SHEET, rfl, dq (Same.refl _), DL.w, DL.l, hsl, by decide, fun G1 s1 => ?_⟩
  rw [eb]
  generalize hb : goesB SHEET (pt.map stepPy) = b
  refine ⟨_, rfl, _, rfl, .ref q, .ref sl, _, .list (SHEET.map PyData.str), rfl, ⟨dq s1, DL.w, DL.r⟩, Dq.names (by simp) (s1 _ _ hsl), (wdb_names shN.ok (by decide)).1, .inr ⟨SHEET, rfl, shN, fun G2 s2 => ?_⟩⟩
  rw [eb, hb]
  obtain ⟨q1, q2, q3, q4, q5⟩ := rp_ok (K := K) (.bl b) (Rp.bool b) (by decide) (by decide) (H := G2)
  refine ⟨_, _, rfl, q1, q2, q3, q4, q5, ?_⟩
  refine ⟨_, rfl, _, _, rfl, q1, q2, q3, q4, q5, ?_⟩
  refine ⟨rfl, _, rfl, ?_⟩
  rw [decide_eq_true rfl]
  refine iteF ?_
  have s12 := s1.trans s2
  -- whether it has the names
  refine ⟨_, rfl, nl, rfl, ⟨_, SqL.of (s12 _ _ hnl)⟩, fun D1 nD1 => ?_⟩
  have lq := fq.len
  rw [List.length_map] at lq
  refine lc_filt (p := fun x => !decide (strV x ∈ SHEET) && !decide (strV x ∈ pt.map (·.1))) walk_list nD1 (by rw [List.length_map]; exact Nat.lt_of_le_of_lt l50 (by decide)) (fun H' s' => SqL.of (s' _ _ (s12 _ _ hnl))) (by show 4 < 18; decide) (fun x H' hx sH R kR => ?_) fun G3 s3 eD1 => ?_
  · obtain ⟨z, hz, rfl⟩ := List.mem_map.mp hx
    have sG := s12.trans sH
    refine ⟨_, rfl, _, rfl, sl, _, rfl, .inl (SqL.of (sG _ _ hsl)), rfl, flat_strs _, _, rfl, ?_⟩
    rw [inV_str]
    cases e1 : !decide (z ∈ SHEET) with
    | false =>
      refine iteF ?_
      have : R (!decide (z ∈ SHEET) && !decide (z ∈ pt.map (·.1))) H' := kR H' (Same.refl _)
      rw [e1, Bool.false_and] at this
      exact this
    | true =>
    refine iteT ?_
    refine ⟨_, rfl, _, rfl, q, rfl, ⟨_, SqL.of (sG _ _ hq)⟩, fun D2 nD2 => ?_⟩
    refine lc_it walk_list (fun i G' => Same H' G' ∧ G' D2 = some (.lst (((pt.take i).map (·.1)).map V.str))) ⟨same_upd nD2, upd_same⟩ (fun i G' _ r => SqL.of (r.1 _ _ (sG _ _ hq))) ?_ ?_
    · rintro i u G4 G5 hi ⟨t4, e4⟩ ⟨rfl, hu4⟩
      obtain ⟨e, he, hq0⟩ := fq.at_ hu4
      rw [List.getElem?_map] at he
      cases ez : pt[i]? with
      | none => rw [ez] at he; cases he
      | some st =>
        rw [ez] at he
        cases he
        obtain ⟨b4, p4, rfl, _, hb4, _, hp4⟩ := dq_stepA ((hq0.same sG).same t4)
        refine ⟨rfl, yes_if ?_⟩
        refine ⟨_, rfl, b4, _, _, _, rfl, rfl, SqT.of hb4, at_nat (k := 0) rfl, _, e4, ?_, ?_, ?_⟩
        · rw [List.length_map, List.length_map, List.length_take]
          exact Nat.lt_of_le_of_lt (Nat.le_trans (Nat.min_le_right _ _) l8) (by decide)
        · exact fun c o hc => by
            have nc : c ≠ D2 := fun z => by rw [z, nD2] at hc; cases hc
            rw [upd_ne nc]
            exact t4 _ _ hc
        · rw [upd_same, take_snoc ez, List.map_append, List.map_append]
          rfl
    · rintro G4 ⟨t4, e4⟩
      rw [lq, List.take_length] at e4
      refine ⟨D2, _, rfl, .inl (SqL.of e4), rfl, flat_strs _, _, rfl, ?_⟩
      rw [inV_str]
      have : R (!decide (z ∈ SHEET) && !decide (z ∈ pt.map (·.1))) G4 := kR G4 t4
      rw [e1, Bool.true_and] at this
      exact this
  have s13 := s12.trans s3
  refine tail_eq eD1 (all_filter (fok_names okn)) fun G4 s4 => ?_
  have s14 := s13.trans s4
  generalize hh : ((ns.map V.str).filter fun x => !decide (strV x ∈ SHEET) && !decide (strV x ∈ pt.map (·.1))).isEmpty = hs
  refine ⟨_, rfl, _, rfl, ?_⟩
  cases b with
  | false =>
    refine iteF ?_
    exact nx _ _ _ s14
  | true =>
  refine iteT ?_
  refine ⟨_, rfl, _, rfl, ?_⟩
  cases hs with
  | false =>
    refine iteF ?_
    exact nx _ _ _ s14
  | true =>
  refine iteT ?_
  have bk : BackOk ds.reverse := back_of _ (by rw [List.reverse_reverse]; exact ok.goes) fun s hs => (ok.deed s (List.mem_reverse.mp hs)).1
  have bp : BackOk pt.reverse := back_of _ (by rw [List.reverse_reverse]; exact hb) fun s hs => (ok.deed s (sub s (List.mem_reverse.mp hs))).1
  have has : ∀ z ∈ ns, z ∈ SHEET ∨ z ∈ pt.map (·.1) := fun z hz => by
    rw [List.isEmpty_iff, List.filter_eq_nil_iff] at hh
    have : ¬ (!decide (z ∈ SHEET) && !decide (z ∈ pt.map (·.1))) = true := hh (.str z) (List.mem_map.mpr ⟨z, hz, rfl⟩)
    by_cases c : z ∈ SHEET
    · exact .inl c
    · refine .inr (Classical.byContradiction fun n => this ?_)
      rw [decide_eq_false c, decide_eq_false n]
      rfl
  have part := need_part bk bp sub has
  have gdue : ∀ e ∈ (needL ds ns).map stepPy, gdb e = true := fun e he => by
    obtain ⟨s, hs, rfl⟩ := List.mem_map.mp he
    exact ok.gdb _ (List.mem_map.mpr ⟨s, need_sub s hs, rfl⟩)
  have shp : ∀ {e : PyData}, gdb e = true → SeqAt.shaped e = true := fun {e} he => by
    obtain ⟨a1, a2⟩ := gdb_lay he
    show (e.canLay0 && decide (e.depth ≤ 64)) = true
    rw [a1, decide_eq_true (by omega)]
    rfl
  have gpt : gdb (.list (pt.map stepPy)) = true := (gdb_of_items (by rw [List.length_map]; omega) 2 (by decide) fun e he => by
    refine ⟨ok.gdb e (gmem e he), ?_⟩
    obtain ⟨s, hs, rfl⟩ := List.mem_map.mp he
    exact (Rp.step (nms_item _ (ok.name s (sub s hs))).2 (ok.deed s (sub s hs)).1).dp).2.1
  refine ⟨_, rfl, du, rfl, ⟨_, SqL.of (s14 _ _ hdu)⟩, fun D3 nD3 => ?_⟩
  have lus := fdu.len
  rw [List.length_map] at lus
  have ln := need_len ds ns
  have l8d := ok.len
  refine lc_any (N := []) (ds := (needL ds ns).map stepPy) (p := fun e => !(pt.map stepPy).any fun z => PyData.eqv z e) walk_list (fdu.mono fun _ _ r => r.same s14) nD3 (by exact Nat.lt_of_le_of_lt (show us.length ≤ 1000 by omega) (by decide)) (fun H' s' => SqL.of (s' _ _ (s14 _ _ hdu))) (by show 17 < 18; decide) (fun x e H' he hx sH R kR => ?_) fun G5 zs es s5 eD3 f5 sb em => ?_
  · refine ⟨_, rfl, _, rfl, e, pt.map stepPy, Dq.dp _ _ hx (gdb_lay (gdue e he)).1, Dq.dp _ _ (dq (s14.trans sH)) (gdb_lay gpt).1, shp (gdue e he), shp gpt, _, rfl, kR H' (Same.refl _)⟩
  refine tail_neD eD3 f5 (fun e he => gdue e (sb e he)) fun G6 s6 => ⟨_, rfl, ?_⟩
  have e0 : (((needL ds ns).map stepPy).any fun e => !(pt.map stepPy).any fun z => PyData.eqv z e) = false := by
    rw [← Bool.not_eq_true, List.any_eq_true]
    rintro ⟨e, he, hn⟩
    rw [Bool.not_eq_true', ← Bool.not_eq_true, List.any_eq_true] at hn
    refine hn ⟨e, ?_, PySem.SeqAt.eqv_refl e (gdb_lay (gdue e he)).1⟩
    obtain ⟨s, hs, rfl⟩ := List.mem_map.mp he
    exact List.mem_map.mpr ⟨s, part s hs, rfl⟩
  rw [em, e0]
  refine iteF ?_
  exact nx _ _ _ ((s14.trans s5).trans s6)
end
end Own
set_option Elab.async false
set_option linter.all false
set_option maxRecDepth 100000
set_option maxHeartbeats 1000000
namespace Own
open PySem PySem.Spec PyProof.Rows L2 LamX
theorem F2.sub {α β : Type} {R : α → β → Prop} : ∀ {as as' : List α} {bs : List β}, F2 R as bs → as'.Sublist as → ∃ bs', bs'.Sublist bs ∧ F2 R as' bs'
  | _, _, _, f, .slnil => ⟨[], List.nil_sublist _, .nil⟩
  | _, _, _, .cons h t, .cons _ s => by
    obtain ⟨bs', s', f'⟩ := F2.sub t s
    exact ⟨bs', s'.cons _, f'⟩
  | _, _, _, .cons h t, .cons_cons _ s => by
    obtain ⟨bs', s', f'⟩ := F2.sub t s
    exact ⟨_, s'.cons_cons _, .cons h f'⟩
theorem sub_map {α β : Type} {f : α → β} : ∀ {as : List α} {bs : List β}, bs.Sublist (as.map f) → ∃ as' : List α, as'.Sublist as ∧ bs = as'.map f
  | [], bs, h => by
    cases h
    exact ⟨[], .slnil, rfl⟩
  | x :: as, bs, h => by
    cases h with
    | cons _ h =>
      obtain ⟨as', s, e⟩ := sub_map h
      exact ⟨as', s.cons _, e⟩
    | cons_cons _ h =>
      obtain ⟨as', s, rfl⟩ := sub_map h
      exact ⟨x :: as', s.cons_cons _, rfl⟩
section
variable {P : Program} {w : World} {K : PySem.W.Frag} {mg : Str → Option Value} {base : Heap} {CB CN CS CR fC fI tn tl : Addr} {dSh dD dH dN dC dP dG dS : FuncData}
/-- all parts are judged right -/
theorem nr10 (Z : NRK P w K mg base CB CN CS CR fC fI dSh dD dH dN dC dP dG dS) (A : Around) (outer : List Env) (s : Shared) (H : Hp) (E : XK) (hg : (A.deeper (envNR K s)).guards = some []) (hr : Room 10 (A.deeper (envNR K s))) :
    ∃ u, PSs (cxOf CX0 P w K mg base nsNR "_law_needed_right" (defScope sNeedR) (He.ga K "_law_needed_right") (.ref (He.codeOf K ("_law_needed_right", none))) A outer s H E).nox (nrTurn.drop 10) u ∧
      ∀ (D : Ends) (G : Hp) (a l sl nl du : Addr) (v3 v6 v9 v10 v11 v12 v13 v14 v15 v16 : Option V) (ds : List (Str × Deed)) (ns : List Str) (ws us : List V), StepsOk ds → G l = some (.lst ws) → F2 (Dq [] G) ws (ds.map stepPy) → G nl = some (.lst (ns.map V.str)) → (∀ z ∈ ns, NameOk z) → ns.length ≤ 50 → G sl = some (.lst (SHEET.map V.str)) →
        G du = some (.lst us) → F2 (Dq [] G) us ((needL ds ns).map stepPy) →
        (∀ v14 v15 v16 G', Same G G' → D.nx [some (.ref a), some (.ref l), some (.ref sl), v3, none, none, v6, some (.ref nl), some (.ref du), v9, v10, v11, v12, v13, v14, v15, v16, none] G') →
        u D [some (.ref a), some (.ref l), some (.ref sl), v3, none, none, v6, some (.ref nl), some (.ref du), v9, v10, v11, v12, v13, v14, v15, v16, none] G := by
  obtain ⟨up, pp, hp⟩ := nr_part Z A outer s H E hg hr
  have hr1 := hr.mono (show 1 ≤ 10 by decide)
  refine ⟨_, pss_one (ps_for PassesOwn.never rfl (pi_list (pe_call Z.p.ok hr1 (by rfl) Z.p.g Z.p.kp Z.p.b .nil pass0 (pa_cons (pv 1) pa_nil))) (pg_name (i := 14) scNR.nd rfl (Or.inr rfl)) pp), ?_⟩
  intro D G a l sl nl du v3 v6 v9 v10 v11 v12 v13 v14 v15 v16 ds ns ws us ok hl fl hnl okn l50 hsl hdu fdu nx
  have len := fl.len
  rw [List.length_map] at len
  have l8 := ok.len
  refine ⟨_, rfl, l, ws, rfl, hl, by omega, fun p qs G1 s1 hpq hqs lq => ⟨p, rfl, ⟨_, SqL.of hpq⟩, ?_⟩⟩
  refine for_it walk_list (fun i σ G' => ∃ v14 v15 v16, σ = [some (.ref a), some (.ref l), some (.ref sl), v3, none, none, v6, some (.ref nl), some (.ref du), v9, v10, v11, v12, v13, v14, v15, v16, none] ∧ Same G1 G') ⟨_, _, _, rfl, Same.refl _⟩ (fun i σ G' _ r => by
    obtain ⟨_, _, _, _, sG⟩ := r
    exact SqL.of (sG _ _ hpq)) ?_ ?_
  · rintro i v σ G2 G3 hi ⟨v14, v15, v16, rfl, sG⟩ ⟨rfl, hv⟩
    rw [List.getElem?_map] at hv
    cases eq : qs[i]? with
    | none => rw [eq] at hv; cases hv
    | some q =>
      rw [eq] at hv
      cases hv
      obtain ⟨⟨ys, hys, sub⟩, _⟩ := hqs q (List.mem_of_getElem? eq)
      obtain ⟨ps, sp, fp⟩ := (fl.mono fun _ _ r => r.same (s1.trans sG)).sub sub
      obtain ⟨pt, spt, rfl⟩ := sub_map sp
      have s2 := s1.trans sG
      refine hp _ G3 a l sl q nl du v3 v6 v9 v10 v11 v12 v13 v15 v16 ds pt ns ys us ok (fun s hs => spt.subset hs) (Nat.le_trans spt.length_le l8) (sG _ _ hys) fp (s2 _ _ hnl) okn l50 (s2 _ _ hsl) (s2 _ _ hdu) (fdu.mono fun _ _ r => r.same s2) fun v15 v16 G' t => ?_
      exact ⟨_, _, _, rfl, sG.trans t⟩
  · rintro σ G2 ⟨v14, v15, v16, rfl, sG⟩
    exact nx _ _ _ _ (s1.trans sG)
/-- a name that is not there -/
theorem nr6 (Z : NRK P w K mg base CB CN CS CR fC fI dSh dD dH dN dC dP dG dS) (TB : TabB base mg (He.codeOf K ("_law_needed_right", none)) tn) (A2 : tn ≠ tl) (A : Around) (outer : List Env) (s : Shared) (H : Hp) (E : XK) (hg : (A.deeper (envNR K s)).guards = some []) (hr : Room 10 (A.deeper (envNR K s))) :
    ∃ u, PSs (cxOf CX0 P w K mg base nsNR "_law_needed_right" (defScope sNeedR) (He.ga K "_law_needed_right") (.ref (He.codeOf K ("_law_needed_right", none))) A outer s H E).nox (nrTurn.drop 6) u ∧
      ∀ (D : Ends) (G : Hp) (a lw lc : Addr) (t : Nat) (l sl nl du : Addr) (v3 v6 v9 v10 v11 v12 v13 v14 v15 v16 : Option V) (ds : List (Str × Deed)) (ns : List Str) (ws us : List V), StA G a lw lc t → t < 2 ^ 38 → Tabs (TTs tn tl) G → StepsOk ds → G l = some (.lst ws) → l ∉ [a, lw] → F2 (Dq [a, lw] G) ws (ds.map stepPy) → G nl = some (.lst (ns.map V.str)) → nl ∉ [a, lw] → NamesOk ns → (∀ z ∈ ns, z ∈ ds.map (·.1) ++ SHEET) → ns.length ≤ 40 →
        G sl = some (.lst (SHEET.map V.str)) → sl ∉ [a, lw] → G du = some (.lst us) → du ∉ [a, lw] → F2 (Dq [a, lw] G) us ((needL ds ns).map stepPy) →
        (∀ v11 v12 v13 v14 v15 v16 G', Stay a lw lc (t + 1) (TTs tn tl) G G' → D.nx [some (.ref a), some (.ref l), some (.ref sl), v3, none, none, v6, some (.ref nl), some (.ref du), v9, v10, v11, v12, v13, v14, v15, v16, none] G') →
        u D [some (.ref a), some (.ref l), some (.ref sl), v3, none, none, v6, some (.ref nl), some (.ref du), v9, v10, v11, v12, v13, v14, v15, v16, none] G := by
  obtain ⟨up, pp, hp⟩ := nr10 Z A outer s H E hg hr
  have T := Z.t
  have hr2 := hr.mono (show 2 ≤ 10 by decide)
  have mtn : (tn, qTR) ∈ TTs tn tl := List.mem_cons_self
  refine ⟨_, pss_cons (ps_set (i := 11) scNR.nd rfl (.inl rfl) (pe_call Z.d.ok hr2 (by rfl) Z.d.g Z.d.kp Z.d.b .nil pass0 (pa_cons (pv 0) (pa_cons (pe_op op_add (pe_callB call_len_seq (by rfl) T.len PySem.boot_len (pa_cons (pv 7) pa_nil)) pe_int) pa_nil))))
        (pss_cons (ps_set (i := 12) scNR.nd rfl (.inr rfl) (pe_op op_cat (pe_op op_cat (pe_op op_cat (pe_slice sl_list (pv 7) po_none (po_some (pv 11))) (pe_lst (pa_cons pe_str pa_nil))) (pe_slice sl_list (pv 7) (po_some (pv 11)) po_none)) (pe_lst (pa_cons pe_str pa_nil))))
        (pss_cons (ps_set (i := 13) scNR.nd rfl (.inl rfl) (pe_caught (k := 8) Z.fc Z.gc (by rfl) Z.gr TB rfl mtn (TTs.t A2) hr (sc := defScope sNeedR) rfl (lamS_by (by decide +kernel)) rfl (fun _ _ _ _ _ => rfl)
            (fun A' outer' s' H' E' f' c' hrr => pe_call Z.n.ok hrr (by rfl) Z.n.g Z.n.kp Z.n.b .nil (passes_call (takes_of rfl rfl rfl rfl) fun _ _ _ _ h => h) (pa_cons (pv 1) (pa_cons (pv 12) pa_nil)))))
        (pss_cons (ps_if (PW.pt (pw_or (pt_not (pt_val (pe_callB call_isD (by rfl) T.isi boot_isinstance (pa_cons (pv 13) (pa_cons (pe_glob (v := .ref CS) (by rfl) Z.sn.gC rfl) pa_nil))))) (pw_or1 (pt_cmpR op_ne (pe_kf (pv 13)) pe_str (nomark _))))) (pss_one (ps_ret pe_bl)) pss_nil) pp))), ?_⟩
  intro D G a lw lc t l sl nl du v3 v6 v9 v10 v11 v12 v13 v14 v15 v16 ds ns ws us S ht hT ok hl ol fl hnl onl nok ins l40 hsl osl hdu odu fdu nx
  have len := fl.len
  rw [List.length_map] at len
  have l8 := ok.len
  have le : ∀ n : Nat, n ≤ 1000 → n ≤ sizeLine := fun n h => Nat.le_trans h (by decide)
  refine ⟨_, rfl, _, rfl, nl, _, rfl, .inl (SqL.of hnl), _, _, rfl, rfl, a, lw, lc, t, _, rfl, S, by omega, by omega, by rw [List.length_map]; omega, fun z G1 z0 z1 S1 K1 => ?_⟩
  rw [List.length_map] at z1
  obtain ⟨j, rfl⟩ : ∃ j : Nat, z = (j : Int) := ⟨z.toNat, by omega⟩
  have hj : j ≤ ns.length := by omega
  have st1 : Stay a lw lc (t + 1) (TTs tn tl) G G1 := ⟨S1, Tabs.kp hT S K1, KpE.of K1⟩
  have hn1 := st1.lst onl hnl
  have c1 : cutV (ns.map V.str) none (some (j : Int)) = (ns.take j).map V.str := by rw [cut_min j, List.map_take]
  have c2 : cutV (ns.map V.str) (some (j : Int)) none = (ns.drop j).map V.str := by rw [cut_drop (by rw [List.length_map]; omega), List.map_drop]
  refine ⟨_, rfl, tNoPart_in ⟨_, rfl, _, rfl, nl, _, rfl, SqL.of hn1, fun p1 np1 => ?_⟩⟩
  rw [c1]
  have x1 := same_upd (o := .lst ((ns.take j).map V.str)) np1
  have hp1 := upd_same (H := G1) (a := p1) (o := .lst ((ns.take j).map V.str))
  generalize L2.upd G1 p1 (.lst ((ns.take j).map V.str)) = M1 at x1 hp1
  refine ⟨le 1 (by decide), fun p2 np2 => ?_⟩
  have x2 := same_upd (o := .lst [V.str "notthere"]) np2
  have hp2 := upd_same (H := M1) (a := p2) (o := .lst [V.str "notthere"])
  refine ⟨p1, p2, _, _, rfl, rfl, x2 _ _ hp1, hp2, le _ (by rw [List.length_map, List.length_take]; show _ + 1 ≤ 1000; omega), fun p3 np3 => ?_⟩
  have x3 := same_upd (o := .lst ((ns.take j).map V.str ++ [V.str "notthere"])) np3
  have hp3 := upd_same (H := L2.upd M1 p2 (.lst [V.str "notthere"])) (a := p3) (o := .lst ((ns.take j).map V.str ++ [V.str "notthere"]))
  have x13 := (x1.trans x2).trans x3
  generalize L2.upd (L2.upd M1 p2 (.lst [V.str "notthere"])) p3 (.lst ((ns.take j).map V.str ++ [V.str "notthere"])) = M3 at x3 hp3 x13
  refine ⟨_, rfl, _, rfl, _, rfl, tNoPart_in ⟨nl, _, rfl, SqL.of (x13 _ _ hn1), fun p4 np4 => ?_⟩⟩
  rw [c2]
  have x4 := same_upd (o := .lst ((ns.drop j).map V.str)) np4
  have hp4 := upd_same (H := M3) (a := p4) (o := .lst ((ns.drop j).map V.str))
  refine ⟨p3, p4, _, _, rfl, rfl, x4 _ _ hp3, hp4, le _ (by rw [List.length_append, List.length_map, List.length_map, List.length_take, List.length_drop]; show _ + 1 + _ ≤ 1000; omega), fun p5 np5 => ?_⟩
  have x5 := same_upd (o := .lst ((ns.take j).map V.str ++ [V.str "notthere"] ++ (ns.drop j).map V.str)) np5
  have hp5 := upd_same (H := L2.upd M3 p4 (.lst ((ns.drop j).map V.str))) (a := p5) (o := .lst ((ns.take j).map V.str ++ [V.str "notthere"] ++ (ns.drop j).map V.str))
  have x15 := (x13.trans x4).trans x5
  generalize L2.upd (L2.upd M3 p4 (.lst ((ns.drop j).map V.str))) p5 (.lst ((ns.take j).map V.str ++ [V.str "notthere"] ++ (ns.drop j).map V.str)) = M5 at x5 hp5 x15
  refine ⟨le 1 (by decide), fun p6 np6 => ?_⟩
  have x6 := same_upd (o := .lst [V.str "n0"]) np6
  have hp6 := upd_same (H := M5) (a := p6) (o := .lst [V.str "n0"])
  refine ⟨p5, p6, _, _, rfl, rfl, x6 _ _ hp5, hp6, le _ (by rw [List.length_append, List.length_append, List.length_map, List.length_map, List.length_take, List.length_drop]; show _ + 1 + _ + 1 ≤ 1000; omega), fun p7 np7 => ?_⟩
  have ee : (ns.take j).map V.str ++ [V.str "notthere"] ++ (ns.drop j).map V.str ++ [V.str "n0"] = (ns.take j ++ (("notthere" : Str) :: (ns.drop j ++ [("n0" : Str)]))).map V.str := by simp
  rw [ee]
  have x7 := same_upd (o := .lst ((ns.take j ++ (("notthere" : Str) :: (ns.drop j ++ [("n0" : Str)]))).map V.str)) np7
  have hp7 := upd_same (H := L2.upd M5 p6 (.lst [V.str "n0"])) (a := p7) (o := .lst ((ns.take j ++ (("notthere" : Str) :: (ns.drop j ++ [("n0" : Str)]))).map V.str))
  have x17 := (x15.trans x6).trans x7
  have op7 := ((S1.same (x15.trans x6)).new np7).1
  generalize L2.upd (L2.upd M5 p6 (.lst [V.str "n0"])) p7 (.lst ((ns.take j ++ (("notthere" : Str) :: (ns.drop j ++ [("n0" : Str)]))).map V.str)) = M7 at x7 hp7 x17
  have st2 := st1.same x17
  -- the strange names
  have inN : ∀ z ∈ ds.map (·.1) ++ SHEET, z ∈ NMS := fun z hz => by
    rcases List.mem_append.mp hz with h | h
    · obtain ⟨s, hs, rfl⟩ := List.mem_map.mp h
      exact ok.name s hs
    · exact sheet_nms z h
  have nt : ("notthere" : Str) ∉ NMS ∧ ("n0" : Str) ∉ NMS ∧ NameOk "notthere" ∧ NameOk "n0" := by decide +kernel
  have nsN : ∀ z ∈ ns, z ≠ "notthere" ∧ z ≠ "n0" := fun z hz => ⟨fun e => nt.1 (e ▸ inN z (ins z hz)), fun e => nt.2.1 (e ▸ inN z (ins z hz))⟩
  have strange : NamesOk (ns.take j ++ (("notthere" : Str) :: (ns.drop j ++ [("n0" : Str)]))) := by
    have hp : (ns.take j ++ (("notthere" : Str) :: (ns.drop j ++ [("n0" : Str)]))).Perm ("notthere" :: "n0" :: ns) := by
      refine List.perm_middle.trans (List.Perm.cons _ ?_)
      rw [← List.append_assoc, List.take_append_drop]
      exact List.perm_append_singleton _ _
    refine ⟨hp.nodup_iff.mpr (List.nodup_cons.mpr ⟨fun m => ?_, List.nodup_cons.mpr ⟨fun m => (nsN _ m).2 rfl, nok.nd⟩⟩), fun z hz => ?_⟩
    · rcases List.mem_cons.mp m with e | m
      · exact absurd e (by decide +kernel)
      · exact (nsN _ m).1 rfl
    · rcases List.mem_cons.mp (hp.mem_iff.mp hz) with rfl | hz
      · exact nt.2.2.1
      · rcases List.mem_cons.mp hz with rfl | hz
        · exact nt.2.2.2
        · exact nok.ok z hz
  have lstr : (ns.take j ++ (("notthere" : Str) :: (ns.drop j ++ [("n0" : Str)]))).length ≤ 1000 := by
    rw [List.length_append, List.length_cons, List.length_append, List.length_take, List.length_drop]
    show _ + (_ + 1 + 1) ≤ 1000
    omega
  have fnd : (ns.take j ++ (("notthere" : Str) :: (ns.drop j ++ [("n0" : Str)]))).find? (fun z => !decide (z ∈ ds.map (·.1) ++ SHEET)) = some ("notthere" : Str) := by
    rw [List.find?_append, List.find?_eq_none.mpr (fun z hz => ?_), Option.none_or, List.find?_cons_of_pos ?_]
    · rw [decide_eq_false fun m => nt.1 (inN _ m)]
      rfl
    · rw [decide_eq_true (ins z (List.mem_of_mem_take hz))]
      exact Bool.false_ne_true
  generalize (ns.take j ++ (("notthere" : Str) :: (ns.drop j ++ [("n0" : Str)]))) = sn at hp7 strange lstr fnd
  have gs := ok.g
  have DL := DrawD.list (es := ds.map stepPy) (by rw [List.length_map]; omega) ok.g
  refine ⟨st2.t, fun N1 e1 T1 => ?_⟩
  have st3 := st2.ext e1 T1
  have hl3 := st3.lst ol hl
  have f3 := fl.mono fun _ _ q => (st3.dq q).none_N
  have dok : DrawOk NOW N1 (.ref l) ds (.list (ds.map stepPy)) := ⟨⟨.lst (fun z => by cases z) hl3 (DqAll.of f3), DL.w, DL.r⟩, rfl, ok.goes, fun s hs => (ok.deed s hs).1⟩
  have hp73 : N1 p7 = some (.lst (sn.map V.str)) := e1 _ _ hp7 fun _ z => by cases z
  refine ⟨_, rfl, _, rfl, .ref l, .ref p7, _, rfl, dok.i, .inr ⟨ds, .list (sn.map PyData.str), dok, Dq.names (by simp) hp73, (wdb_names strange.ok lstr).1, .inr ⟨sn, rfl, strange, .inl ⟨"notthere", fnd, fun o H5 s5 ho => ⟨true, Z.xs, fun _ eb nb => ?_, fun z => by cases z⟩⟩⟩⟩⟩
  have u5 := same_upd (o := Caught (.ref CS) (some o) eb) nb
  have st5 := st3.same (s5.trans u5)
  have heb := upd_same (H := H5) (a := eb) (o := Caught (.ref CS) (some o) eb)
  have ho5 := u5 _ _ ho
  generalize L2.upd H5 eb (Caught (.ref CS) (some o) eb) = G5 at u5 st5 heb ho5
  refine ⟨_, rfl, eb, CS, o, _, .ref CS, .ref CS, true, rfl, heb, ho5, Z.cs, .own CS, kit_self _, _, rfl, ?_⟩
  refine iteF ?_
  have lk : List.lookup ("name" : Str) [(("name" : Str), V.str "notthere")] = some (.str "notthere") := by simp [List.lookup]
  refine ⟨_, rfl, eb, CS, o, _, .str "notthere", rfl, heb, Z.xfs, Z.sn.noN, ho5, lk, rfl, _, rfl, ?_⟩
  rw [decide_eq_true rfl]
  refine iteF ?_
  refine hp _ G5 a l sl nl du v3 v6 v9 v10 _ _ _ v14 v15 v16 ds ns ws us ok (st5.lst ol hl) (fl.mono fun _ _ q => (st5.dq q).none_N) (st5.lst onl hnl) nok.ok (by omega) (st5.lst osl hsl) (st5.lst odu hdu) (fdu.mono fun _ _ q => (st5.dq q).none_N) fun v14 v15 v16 G' s' => ?_
  exact nx _ _ _ _ _ _ _ (st5.same s')
end
end Own
set_option Elab.async false
set_option linter.all false
set_option maxRecDepth 100000
set_option maxHeartbeats 1000000
namespace Own
open PySem PySem.Spec PyProof.Rows L2 LamX
def prD (ds : List (Str × Deed)) (ns : List Str) : PyData := .tuple [.list (ds.map stepPy), .list (ns.map PyData.str)]
theorem dq_up {H : Hp} {a lw lc : Addr} {t : Nat} (S : StA H a lw lc t) : ∀ {sts : List (Str × Deed)} {us : List V}, F2 (Dq [] H) us (sts.map stepPy) → F2 (Dq [a, lw] H) us (sts.map stepPy)
  | [], _, .nil => .nil
  | s :: sts, _, .cons h t => by
    obtain ⟨b, p, rfl, _, hb, _, hp⟩ := dq_stepA h
    exact .cons (.tup (S.off hb (fun _ z => by cases z) fun _ z => by cases z) hb (.cons (.str _) (.cons (Dq.of_deed (S.off hp (fun _ z => by cases z) fun _ z => by cases z) hp) .nil))) (dq_up S t)
theorem StepsOk.back {ds : List (Str × Deed)} (ok : StepsOk ds) : BackOk ds.reverse := back_of _ (by rw [List.reverse_reverse]; exact ok.goes) fun s hs => (ok.deed s (List.mem_reverse.mp hs)).1
theorem StepsOk.rp {ds : List (Str × Deed)} (ok : StepsOk ds) : ∀ s ∈ ds, NameOk s.1 ∧ DeedOk s.2 := fun s hs => ⟨(nms_item _ (ok.name s hs)).2, (ok.deed s hs).1⟩
section
variable {P : Program} {w : World} {K : PySem.W.Frag} {mg : Str → Option Value} {base : Heap} {CB CN CS CR fC fI tn tl : Addr} {dSh dD dH dN dC dP dG dS : FuncData}
theorem nr2 (Z : NRK P w K mg base CB CN CS CR fC fI dSh dD dH dN dC dP dG dS) (TB : TabB base mg (He.codeOf K ("_law_needed_right", none)) tn) (A2 : tn ≠ tl) (A : Around) (outer : List Env) (s : Shared) (H : Hp) (E : XK) (hg : (A.deeper (envNR K s)).guards = some []) (hr : Room 10 (A.deeper (envNR K s))) :
    ∃ u, PSs (cxOf CX0 P w K mg base nsNR "_law_needed_right" (defScope sNeedR) (He.ga K "_law_needed_right") (.ref (He.codeOf K ("_law_needed_right", none))) A outer s H E).nox (nrTurn.drop 2) u ∧
      ∀ (D : Ends) (G : Hp) (a lw lc : Addr) (t : Nat) (l sl nl du : Addr) (v3 v6 v10 v11 v12 v13 v14 v15 v16 : Option V) (ds : List (Str × Deed)) (ns : List Str) (ws us : List V), StA G a lw lc t → t < 2 ^ 38 → Tabs (TTs tn tl) G → StepsOk ds → G l = some (.lst ws) → l ∉ [a, lw] → F2 (Dq [a, lw] G) ws (ds.map stepPy) → G nl = some (.lst (ns.map V.str)) → nl ∉ [a, lw] → NamesOk ns → (∀ z ∈ ns, z ∈ ds.map (·.1) ++ SHEET) → ns.length ≤ 40 →
        G sl = some (.lst (SHEET.map V.str)) → sl ∉ [a, lw] → G du = some (.lst us) → du ∉ [a, lw] → F2 (Dq [a, lw] G) us ((needL ds ns).map stepPy) →
        (∀ v10 v11 v12 v13 v14 v15 v16 G', Stay a lw lc (t + 1) (TTs tn tl) G G' → D.nx [some (.ref a), some (.ref l), some (.ref sl), v3, none, none, v6, some (.ref nl), some (.ref du), some (.str (prD ds ns).shown), v10, v11, v12, v13, v14, v15, v16, none] G') →
        u D [some (.ref a), some (.ref l), some (.ref sl), v3, none, none, v6, some (.ref nl), some (.ref du), some (.str (prD ds ns).shown), v10, v11, v12, v13, v14, v15, v16, none] G := by
  obtain ⟨up, pp, hp⟩ := nr6 Z TB A2 A outer s H E hg hr
  have T := Z.t
  have hu1 : (A.deeper (envNR K s)).units + 100 < cLine := by have := hr.un; omega
  have hr8 := hr.mono (show 8 ≤ 10 by decide)
  have kN := kb_swap Z.fn (p := "steps") (q := "names") fun _ _ _ _ _ _ _ _ => rfl
  refine ⟨_, pss_cons (ps_set (i := 10) scNR.nd rfl (.inl rfl) (pe_kw0 Z.n.ok hr8 (by rfl) Z.n.g Z.n.kp kN passL (pk_cons (pv 7) (pk_cons (pv 1) pk_nil))))
        (pss_cons (ps_if (PW.pt (pw_or (pt_not (pt_val (pe_callB call_isi (by rfl) T.isi boot_isinstance (pa_cons (pv 10) (pa_cons (pe_bltn (v := .ty "list") (by rfl) T.list (by decide +kernel) rfl) pa_nil)))))
            (pw_or (pt_cmpR op_ne (pe_callB (call_reprA hg hu1) (by rfl) T.repr (by decide +kernel) (pa_cons (pv 10) pa_nil)) (pe_callB (call_reprA hg hu1) (by rfl) T.repr (by decide +kernel) (pa_cons (pv 8) pa_nil)) (nomark _))
            (pw_or1 (pt_cmpR op_ne (pe_callB (call_reprA hg hu1) (by rfl) T.repr (by decide +kernel) (pa_cons (pe_tup (pa_cons (pv 1) (pa_cons (pv 7) pa_nil))) pa_nil)) (pv 9) (nomark _)))))) (pss_one (ps_ret pe_bl)) pss_nil)
        (pss_cons (ps_expr (pe_bm PySem.F.plainAttrs_list PySem.F.slot_list_append PySem.F.type_list_append mt_append (pv 10) (pa_cons pe_non pa_nil)))
        (pss_cons (ps_if (pt_cmpR op_ne (pe_callB (call_reprA hg hu1) (by rfl) T.repr (by decide +kernel) (pa_cons (pe_call Z.n.ok hr8 (by rfl) Z.n.g Z.n.kp Z.n.b .nil passL (pa_cons (pe_tupleOf (by rfl) T.tuple (pv 1)) (pa_cons (pe_tupleOf (by rfl) T.tuple (pv 7)) pa_nil))) pa_nil)) (pe_callB (call_reprA hg hu1) (by rfl) T.repr (by decide +kernel) (pa_cons (pv 8) pa_nil)) (nomark _)) (pss_one (ps_ret pe_bl)) pss_nil) pp))), ?_⟩
  intro D G a lw lc t l sl nl du v3 v6 v10 v11 v12 v13 v14 v15 v16 ds ns ws us S ht hT ok hl ol fl hnl onl nok ins l40 hsl osl hdu odu fdu nx
  have l8 := ok.len
  have le : ∀ n : Nat, n ≤ 1000 → n ≤ sizeLine := fun n h => Nat.le_trans h (by decide)
  have DL := DrawD.list (es := ds.map stepPy) (by rw [List.length_map]; omega) ok.g
  have DT := DrawD.tuple (es := ds.map stepPy) (by rw [List.length_map]; omega) ok.g
  have ln := need_len ds ns
  have okdu : ∀ s ∈ needL ds ns, NameOk s.1 ∧ DeedOk s.2 := fun s hs => ok.rp s (need_sub s hs)
  have dl : ∀ {G' : Hp}, Same G G' → Dq [] G' (.ref l) (.list (ds.map stepPy)) := fun h => .lst (fun z => by cases z) (h _ _ hl) (DqAll.of (fl.mono fun _ _ q => (q.same h).none_N))
  have ddu : ∀ {G' : Hp}, Same G G' → Dq [] G' (.ref du) (.list ((needL ds ns).map stepPy)) := fun h => .lst (fun z => by cases z) (h _ _ hdu) (DqAll.of (fdu.mono fun _ _ q => (q.same h).none_N))
  have dnl : ∀ {G' : Hp}, Same G G' → Dq [] G' (.ref nl) (.list (ns.map PyData.str)) := fun h => Dq.names (by simp) (h _ _ hnl)
  have dok : ∀ {G' : Hp}, Same G G' → DrawOk NOW G' (.ref l) ds (.list (ds.map stepPy)) := fun h => ⟨⟨dl h, DL.w, DL.r⟩, rfl, ok.goes, fun s hs => (ok.deed s hs).1⟩
  have rdu := Rp.steps okdu (by omega)
  refine ⟨_, rfl, _, rfl, rfl, .ref l, .ref nl, _, rfl, (dok (Same.refl _)).i, .inr ⟨ds, _, dok (Same.refl _), dnl (Same.refl _), (wdb_names nok.ok (by omega)).1, .inr ⟨ns, rfl, nok, .inr ⟨ins, fun p zs G1 s1 np hpz fz => ?_⟩⟩⟩⟩
  refine ⟨_, rfl, .ref p, .ty "list", .type "list", .type "list", true, rfl, .ty _, .base (.lst hpz), kit_ty (by decide +kernel), true, rfl, ?_⟩
  refine iteF ?_
  obtain ⟨q1, q2, q3, q4, q5⟩ := rp_ok (K := K) (x := .ref p) (H := G1) (.lst (fun z => by cases z) hpz (DqAll.of fz)) rdu (by decide) (by decide)
  obtain ⟨r1, _⟩ := rp_ok (K := K) (ddu s1) rdu (by decide) (by decide)
  refine ⟨_, rfl, _, _, rfl, q1, q2, q3, q4, q5, ?_⟩
  refine ⟨_, rfl, _, _, rfl, r1, q2, q3, q4, q5, ?_⟩
  refine ⟨rfl, _, rfl, ?_⟩
  rw [decide_eq_true rfl]
  refine iteF ?_
  refine ⟨_, rfl, _, rfl, le 2 (by decide), fun tp ntp => ?_⟩
  have s2 := same_upd (o := .tup [.ref l, .ref nl]) ntp
  have htp := upd_same (H := G1) (a := tp) (o := .tup [.ref l, .ref nl])
  have s12 := s1.trans s2
  have hp2 := s2 _ _ hpz
  generalize L2.upd G1 tp (.tup [.ref l, .ref nl]) = G2 at htp s12 hp2
  obtain ⟨u1, u2, u3, u4, u5⟩ := rp_ok (K := K) (x := .ref tp) (H := G2) (d := prD ds ns) (.tup (fun z => by cases z) htp (.cons (dl s12) (.cons (dnl s12) .nil))) (Rp.pair ok.rp (by omega) nok.ok (by omega)) (by decide) (by decide)
  refine ⟨_, _, rfl, u1, u2, u3, u4, u5, ?_⟩
  refine ⟨_, rfl, rfl, _, rfl, ?_⟩
  rw [decide_eq_true rfl]
  refine iteF ?_
  have lz : zs.length = (needL ds ns).length := by rw [fz.len, List.length_map]
  refine ⟨_, rfl, .inl ⟨rfl, _, .inl (.inl hp2)⟩, p, _, _, rfl, rfl, hp2, Nat.lt_of_le_of_lt (show zs.length ≤ 1000 by omega) (by decide), ?_⟩
  have s3 : Same G (L2.upd G2 p (.lst (zs ++ [V.non]))) := fun b o e => by
    have nb : b ≠ p := fun z => by rw [z, np] at e; cases e
    rw [upd_ne nb]
    exact s12 _ _ e
  generalize L2.upd G2 p (.lst (zs ++ [V.non])) = G3 at s3
  refine ⟨_, rfl, .inl ⟨l, ws, rfl, SqL.of (s3 _ _ hl), fun tu ntu => ?_⟩⟩
  have s4 := same_upd (o := .tup ws) ntu
  have htu := upd_same (H := G3) (a := tu) (o := .tup ws)
  refine ⟨_, rfl, .inl ⟨nl, _, rfl, SqL.of (s4 _ _ (s3 _ _ hnl)), fun tm ntm => ?_⟩⟩
  have s5 := same_upd (o := .tup (ns.map V.str)) ntm
  have htm := upd_same (H := L2.upd G3 tu (.tup ws)) (a := tm) (o := .tup (ns.map V.str))
  have htu5 := s5 _ _ htu
  have s35 := (s3.trans s4).trans s5
  generalize L2.upd (L2.upd G3 tu (.tup ws)) tm (.tup (ns.map V.str)) = G5 at htm htu5 s35
  have dok5 : DrawOk NOW G5 (.ref tu) ds (.tuple (ds.map stepPy)) := ⟨⟨.tup (fun z => by cases z) htu5 (DqAll.of (fl.mono fun _ _ q => (q.same s35).none_N)), DT.w, DT.r⟩, rfl, ok.goes, fun s hs => (ok.deed s hs).1⟩
  refine ⟨.ref tu, .ref tm, _, rfl, dok5.i, .inr ⟨ds, .tuple (ns.map PyData.str), dok5, Dq.namesT (by simp) htm, (wdb_names nok.ok (by omega)).2, .inr ⟨ns, rfl, nok, .inr ⟨ins, fun p2 zs2 G6 s6 np2 hp2' fz2 => ?_⟩⟩⟩⟩
  have s36 := s35.trans s6
  obtain ⟨w1, _⟩ := rp_ok (K := K) (x := .ref p2) (H := G6) (.lst (fun z => by cases z) hp2' (DqAll.of fz2)) rdu (by decide) (by decide)
  obtain ⟨w2, _⟩ := rp_ok (K := K) (ddu s36) rdu (by decide) (by decide)
  refine ⟨_, _, rfl, w1, q2, q3, q4, q5, ?_⟩
  refine ⟨_, rfl, _, _, rfl, w2, q2, q3, q4, q5, ?_⟩
  refine ⟨rfl, _, rfl, ?_⟩
  rw [decide_eq_true rfl]
  refine iteF ?_
  refine hp _ G6 a lw lc t l sl nl du v3 v6 _ _ v11 v12 v13 v14 v15 v16 ds ns ws us (S.same s36) ht (Tabs.ext hT s36) ok (s36 _ _ hl) ol (fl.mono fun _ _ q => q.same s36) (s36 _ _ hnl) onl nok ins l40 (s36 _ _ hsl) osl (s36 _ _ hdu) odu (fdu.mono fun _ _ q => q.same s36) fun v11 v12 v13 v14 v15 v16 G' st => ?_
  exact nx _ _ _ _ _ _ _ _ ⟨st.s, st.t, (KpE.same s36 _).trans st.k⟩
end
end Own
set_option Elab.async false
set_option linter.all false
set_option maxRecDepth 100000
set_option maxHeartbeats 1000000
namespace Own
open PySem PySem.Spec PyProof.Rows L2 LamX
section
variable {P : Program} {w : World} {K : PySem.W.Frag} {mg : Str → Option Value} {base : Heap} {CB CN CS CR fC fI tn tl : Addr} {fd2 dSh dD dH dN dC dP dG dS : FuncData}
theorem nr0 (Z : NRK P w K mg base CB CN CS CR fC fI dSh dD dH dN dC dP dG dS) (TB : TabB base mg (He.codeOf K ("_law_needed_right", none)) tn) (A2 : tn ≠ tl) (A : Around) (outer : List Env) (s : Shared) (H : Hp) (E : XK) (hg : (A.deeper (envNR K s)).guards = some []) (hr : Room 10 (A.deeper (envNR K s))) :
    ∃ u, PSs (cxOf CX0 P w K mg base nsNR "_law_needed_right" (defScope sNeedR) (He.ga K "_law_needed_right") (.ref (He.codeOf K ("_law_needed_right", none))) A outer s H E).nox nrTurn u ∧
      ∀ (D : Ends) (G : Hp) (a lw lc : Addr) (t : Nat) (l sl ow : Addr) (v6 v7 v8 v9 v10 v11 v12 v13 v14 v15 v16 : Option V) (ds : List (Str × Deed)) (ws : List V), StA G a lw lc t → t + 100 < 2 ^ 38 → Tabs (TTs tn tl) G → StepsOk ds → G l = some (.lst ws) → l ∉ [a, lw] → F2 (Dq [a, lw] G) ws (ds.map stepPy) →
        G sl = some (.lst (SHEET.map V.str)) → sl ∉ [a, lw] → G ow = some (.lst ((ds.map (·.1)).map V.str)) →
        (∀ v7 v8 v9 v10 v11 v12 v13 v14 v15 v16 G', Stay a lw lc (t + 20) (TTs tn tl) G G' → D.nx [some (.ref a), some (.ref l), some (.ref sl), some (.ref ow), none, none, v6, v7, v8, v9, v10, v11, v12, v13, v14, v15, v16, none] G') →
        u D [some (.ref a), some (.ref l), some (.ref sl), some (.ref ow), none, none, v6, v7, v8, v9, v10, v11, v12, v13, v14, v15, v16, none] G := by
  obtain ⟨up, pp, hp⟩ := nr2 Z TB A2 A outer s H E hg hr
  have T := Z.t
  have hu1 : (A.deeper (envNR K s)).units + 100 < cLine := by have := hr.un; omega
  have hr2 := hr.mono (show 2 ≤ 10 by decide)
  have hr3 := hr.mono (show 3 ≤ 10 by decide)
  refine ⟨_, pss_cons (ps_set (i := 7) scNR.nd rfl (.inl rfl) (pe_slice sl_list (pe_call Z.sh.ok hr3 (by rfl) Z.sh.g Z.sh.kp Z.sh.b .nil pass0 (pa_cons (pv 0) (pa_cons (pe_op op_cat (pv 3) (pv 2)) pa_nil))) po_none (po_some (pe_call Z.d.ok hr2 (by rfl) Z.d.g Z.d.kp Z.d.b .nil pass0 (pa_cons (pv 0) (pa_cons pe_int pa_nil))))))
        (pss_cons (ps_par (i := 8) (j := 9) (by rfl) scNR.nd rfl rfl (by decide) rfl rfl (pa_cons (pe_call Z.h.ok hr3 (by rfl) Z.h.g Z.h.kp Z.h.b .nil pass0 (pa_cons (pv 1) (pa_cons (pv 7) pa_nil))) (pa_cons (pe_callB (call_reprA hg hu1) (by rfl) T.repr (by decide +kernel) (pa_cons (pe_tup (pa_cons (pv 1) (pa_cons (pv 7) pa_nil))) pa_nil)) pa_nil)) (by rfl)) pp), ?_⟩
  intro D G a lw lc t l sl ow v6 v7 v8 v9 v10 v11 v12 v13 v14 v15 v16 ds ws S ht hT ok hl ol fl hsl osl how nx
  have l8 := ok.len
  have le : ∀ n : Nat, n ≤ 1000 → n ≤ sizeLine := fun n h => Nat.le_trans h (by decide)
  have shN : NamesOk SHEET := ⟨by decide +kernel, by decide +kernel⟩
  have bk := ok.back
  have ndo : (ds.map (·.1)).Nodup := by
    have := back_nodup bk
    rw [List.map_reverse] at this
    exact (List.reverse_perm _).nodup_iff.mp this
  have all : NamesOk (ds.map (·.1) ++ SHEET) := by
    refine ⟨List.nodup_append.mpr ⟨ndo, shN.nd, fun x hx y hy e => ?_⟩, fun z hz => ?_⟩
    · obtain ⟨s, hs, rfl⟩ := List.mem_map.mp hx
      exact (back_all bk s (List.mem_reverse.mpr hs)).2 (e ▸ hy)
    · rcases List.mem_append.mp hz with h | h
      · obtain ⟨s, hs, rfl⟩ := List.mem_map.mp h
        exact (ok.rp s hs).1
      · exact shN.ok z h
  have lall : (ds.map (·.1) ++ SHEET).length ≤ 13 := by
    rw [List.length_append, List.length_map]
    show _ + 5 ≤ 13
    omega
  refine ⟨_, rfl, _, rfl, _, rfl, ow, sl, _, _, rfl, rfl, how, hsl, le _ (by rw [List.length_map, List.length_map]; show _ + 5 ≤ 1000; omega), fun c nc => ?_⟩
  have s1 := same_upd (o := .lst ((ds.map (·.1)).map V.str ++ SHEET.map V.str)) nc
  have hc := upd_same (H := G) (a := c) (o := .lst ((ds.map (·.1)).map V.str ++ SHEET.map V.str))
  rw [← List.map_append] at s1 hc ⊢
  generalize L2.upd G c (.lst ((ds.map (·.1) ++ SHEET).map V.str)) = G1 at s1 hc
  refine ⟨a, lw, lc, t, c, _, rfl, S.same s1, by omega, hc, fok_names all.ok, by omega, fun p ms G2 pm lm hms S2 K2 np hpm => tNoPart_in ?_⟩
  refine ⟨_, rfl, a, lw, lc, _, _, rfl, S2, by omega, by decide, by decide, fun z G3 z0 z1 S3 K3 => ?_⟩
  obtain ⟨j, rfl⟩ : ∃ j : Nat, z = (j : Int) := ⟨z.toNat, by omega⟩
  have np1 := ((S.same s1).new np)
  have hp3 := K3 _ _ hpm np1.1
  refine ⟨_, rfl, p, _, rfl, SqL.of hp3, fun nl nnl => ?_⟩
  have ec : cutV (ms.map V.str) none (some (j : Int)) = (ms.take j).map V.str := by rw [cut_min j, List.map_take]
  rw [ec]
  have s4 := same_upd (o := .lst ((ms.take j).map V.str)) nnl
  have hnl := upd_same (H := G3) (a := nl) (o := .lst ((ms.take j).map V.str))
  have onl := (S3.new nnl).1
  have S4 := S3.same s4
  have K04 : Kp [a, lw] G (L2.upd G3 nl (.lst ((ms.take j).map V.str))) := (((Kp.of s1).trans K2).trans K3).trans (Kp.of s4)
  generalize L2.upd G3 nl (.lst ((ms.take j).map V.str)) = G4 at hnl S4 K04
  have st4 : Stay a lw lc (t + (ds.map (·.1) ++ SHEET).length + 1) (TTs tn tl) G G4 := ⟨S4, Tabs.kp hT S K04, KpE.of K04⟩
  have msN : NamesOk ms := ⟨pm.nodup_iff.mpr all.nd, fun z hz => all.ok z (hms z hz)⟩
  have nok : NamesOk (ms.take j) := ⟨msN.nd.sublist (List.take_sublist _ _), fun z hz => msN.ok z (List.mem_of_mem_take hz)⟩
  have ins : ∀ z ∈ ms.take j, z ∈ ds.map (·.1) ++ SHEET := fun z hz => hms z (List.mem_of_mem_take hz)
  have lns : (ms.take j).length ≤ 13 := by
    rw [List.length_take]
    omega
  generalize ms.take j = ns at hnl nok ins lns
  have hl4 := st4.lst ol hl
  have fl4 := fl.mono fun _ _ q => st4.dq q
  refine ⟨_, rfl, _, rfl, l, nl, ws, ds, ns, rfl, hl4, fl4.mono fun _ _ q => q.none_N, by omega, fun s hs => (ok.deed s hs).1, bk, hnl, by omega, nok.ok, fun du us G5 s5 ndu hdu fdu => ?_⟩
  have odu := (S4.new ndu).1
  refine ⟨_, rfl, _, rfl, le 2 (by decide), fun tp ntp => ?_⟩
  have s6 := same_upd (o := .tup [.ref l, .ref nl]) ntp
  have htp := upd_same (H := G5) (a := tp) (o := .tup [.ref l, .ref nl])
  have s56 := s5.trans s6
  have hdu6 := s6 _ _ hdu
  have fdu6 := fdu.mono fun _ _ q => q.same s6
  generalize L2.upd G5 tp (.tup [.ref l, .ref nl]) = G6 at htp s56 hdu6 fdu6
  have st6 := st4.same s56
  obtain ⟨u1, u2, u3, u4, u5⟩ := rp_ok (K := K) (x := .ref tp) (H := G6) (d := prD ds ns) (.tup (fun z => by cases z) htp (.cons (.lst (fun z => by cases z) (s56 _ _ hl4) (DqAll.of (fl4.mono fun _ _ q => (q.same s56).none_N))) (.cons (Dq.names (by simp) (s56 _ _ hnl)) .nil))) (Rp.pair ok.rp (by omega) nok.ok (by omega)) (by decide) (by decide)
  refine ⟨_, _, rfl, u1, u2, u3, u4, u5, _, _, rfl, ?_⟩
  refine hp _ G6 a lw lc _ l sl nl du _ v6 v10 v11 v12 v13 v14 v15 v16 ds ns ws us st6.s (by omega) st6.t ok (s56 _ _ hl4) ol (fl4.mono fun _ _ q => q.same s56) (s56 _ _ hnl) onl nok ins (by omega) (st6.lst osl hsl) osl hdu6 odu (dq_up st6.s fdu6) fun v10 v11 v12 v13 v14 v15 v16 G' st => ?_
  exact nx _ _ _ _ _ _ _ _ _ _ _ ⟨st.s.more (by omega), st.t, st6.k.trans st.k⟩
def spNR (tn tl : Addr) : Sp := fun vs H Q _ => ∃ (a lw lc : Addr) (t : Nat) (l : Addr) (ws : List V) (ds : List (Str × Deed)), vs = [.ref a, .ref l] ∧ StA H a lw lc t ∧ t < 2 ^ 37 ∧ H l = some (.lst ws) ∧ l ∉ [a, lw] ∧ F2 (Dq [a, lw] H) ws (ds.map stepPy) ∧ StepsOk ds ∧ Tabs (TTs tn tl) H ∧
  ∀ H', Stay a lw lc (t + 100) (TTs tn tl) H H' → Q (.bl true) H'
theorem ok_nr (F : FnP K "_law_needed_right" sNeedR (He.ga K "_law_needed_right") fd2) (hf : He.ga K "_law_needed_right" = He.fAd K ("_law_needed_right", none)) (Z : NRK P w K mg base CB CN CS CR fC fI dSh dD dH dN dC dP dG dS) (TB : TabB base mg (He.codeOf K ("_law_needed_right", none)) tn) (A2 : tn ≠ tl) :
    FnOkG P w K mg base CX0 11 (He.ga K "_law_needed_right") fd2 ["_law_state", "_law_steps"] (spNR tn tl) := by
  refine FunD.okG F scNR rfl (fun vs H Q E h => ?_) (fun cdv A outer s H vs Q E hlk hcd hg hr h => ?_)
  · obtain ⟨a, lw, lc, t, l, ws, ds, rfl, _⟩ := h
    rfl
  · have ec := code_is hf hlk hcd
    subst ec
    obtain ⟨up, pp, hp⟩ := nr0 Z TB A2 A outer s H E hg hr
    obtain ⟨a, lw, lc, t, l, ws, ds, rfl, S, ht, hl, ol, fl, ok, hT, k⟩ := h
    have T := Z.t
    refine ⟨_, PSsT.nox (PSsT.of (pss_cons (ps_set (i := 2) scNR.nd rfl (.inr rfl) (pe_lst (pa_cons pe_str (pa_cons pe_str (pa_cons pe_str (pa_cons pe_str (pa_cons pe_str pa_nil)))))))
      (pss_cons (ps_setLc (i := 3) (own := [("_law_name_here", 4), ("_law_deed_here", 5)]) (g := gTup K 2 (gCons (gName 4) (gCons (gName 5) gNil))) (tt := tYes) (by rfl) scNR.nd rfl rfl (sw_true rfl rfl rfl (by decide +kernel)) (pi_list (pv 1)) (blkOk_by (own := [("_law_name_here", 4), ("_law_deed_here", 5)]) (N := nsNR) (sc := defScope sNeedR) (by decide +kernel))
          (fun _ _ _ _ _ => pg_tup rfl (pgs_cons (pg_name (i := 4) scNR.nd rfl (.inl rfl)) (pgs_cons (pg_name (i := 5) scNR.nd rfl (.inl rfl)) pgs_nil))) (fun _ _ _ _ _ => pts_nil) (fun _ _ _ _ _ => pv 4))
      (pss_cons (ps_for PassesOwn.never rfl (pi_range1 (by rfl) T.range (pa_cons pe_int pa_nil)) (pg_name (i := 6) scNR.nd rfl (Or.inl rfl)) pp)
      (pss_one (ps_ret pe_bl)))))), ?_⟩
    have l8 := ok.len
    have len := fl.len
    rw [List.length_map] at len
    refine ⟨(by show 5 ≤ sizeLine; decide), fun sl nsl => ?_⟩
    have s1 := same_upd (o := .lst (SHEET.map V.str)) nsl
    have hsl := upd_same (H := H) (a := sl) (o := .lst (SHEET.map V.str))
    have ee : L2.upd H sl (.lst [V.str "o", .str "u", .str "uu", .str "v", .str "vv"]) = L2.upd H sl (.lst (SHEET.map V.str)) := rfl
    rw [ee]
    have osl := (S.new nsl).1
    generalize L2.upd H sl (.lst (SHEET.map V.str)) = H1 at s1 hsl
    refine ⟨_, rfl, l, rfl, ⟨_, SqL.of (s1 _ _ hl)⟩, fun ow now => ?_⟩
    refine lc_it walk_list (fun i G => Same H1 G ∧ G ow = some (.lst (((ds.take i).map (·.1)).map V.str))) ⟨same_upd now, upd_same⟩ (fun i G _ q => SqL.of (q.1 _ _ (s1 _ _ hl))) ?_ ?_
    · rintro i u G4 G5 hi ⟨t4, e4⟩ ⟨rfl, hu4⟩
      obtain ⟨e, he, hq0⟩ := fl.at_ hu4
      rw [List.getElem?_map] at he
      cases ez : ds[i]? with
      | none => rw [ez] at he; cases he
      | some st =>
        rw [ez] at he
        cases he
        obtain ⟨b4, p4, rfl, _, hb4, _, hp4⟩ := dq_stepA ((hq0.same s1).same t4)
        refine ⟨b4, _, rfl, SqT.of hb4, rfl, _, _, rfl, _, _, rfl, rfl, rfl, yes_if ?_⟩
        refine ⟨_, rfl, _, e4, ?_, ?_, ?_⟩
        · rw [List.length_map, List.length_map, List.length_take]
          exact Nat.lt_of_le_of_lt (Nat.le_trans (Nat.min_le_right _ _) l8) (by decide)
        · exact fun c o hc => by
            have nc : c ≠ ow := fun z => by rw [z, now] at hc; cases hc
            rw [upd_ne nc]
            exact t4 _ _ hc
        · rw [upd_same, take_snoc ez, List.map_append, List.map_append]
          rfl
    rintro H2 ⟨s2, how⟩
    rw [len, List.take_length] at how
    have s12 := s1.trans s2
    have oow := ((S.same s1).new now).1
    refine ⟨3, rfl, by decide, by decide, ?_⟩
    refine for_range (lo := 0) (n := 3) (fun i σ G => ∃ v6 v7 v8 v9 v10 v11 v12 v13 v14 v15 v16, σ = [some (.ref a), some (.ref l), some (.ref sl), some (.ref ow), none, none, v6, v7, v8, v9, v10, v11, v12, v13, v14, v15, v16, none] ∧ Stay a lw lc (t + 20 * i) (TTs tn tl) H2 G)
      ⟨none, none, none, none, none, none, none, none, none, none, none, rfl, S.same s12, Tabs.ext hT s12, KpE.refl _ _⟩ ?_ ?_
    · rintro i σ G hi ⟨v6, v7, v8, v9, v10, v11, v12, v13, v14, v15, v16, rfl, st⟩
      refine hp _ G a lw lc _ l sl ow _ v7 v8 v9 v10 v11 v12 v13 v14 v15 v16 ds ws st.s (by omega) st.t ok (st.lst ol (s12 _ _ hl)) ol (fl.mono fun _ _ q => st.dq (q.same s12)) (st.lst osl (s2 _ _ hsl)) osl (st.lst oow how) fun v7 v8 v9 v10 v11 v12 v13 v14 v15 v16 G' st2 => ?_
      exact ⟨_, _, _, _, _, _, _, _, _, _, _, rfl, st2.s.more (by omega), st2.t, st.k.trans st2.k⟩
    · rintro σ G ⟨v6, v7, v8, v9, v10, v11, v12, v13, v14, v15, v16, rfl, st⟩
      exact k _ ⟨st.s.more (by omega), st.t, (KpE.same s12 _).trans st.k⟩
end
end Own
set_option Elab.async false
set_option linter.all false
set_option maxRecDepth 100000
set_option maxHeartbeats 4000000
namespace Own
open PySem PySem.Spec PyProof.Rows L2
/-! ### sorted(set(xs)), xs a list of texts: such a set walks in some order, whatever the world is -/
def txOf (e : Int × Value) : Str := match e.2 with
  | .str z _ => z
  | _ => ""
def TxE (P : Program) (w : World) (e : Int × Value) : Prop := ∃ z t, e.2 = .str z t ∧ e.1 = (PySem.strKind P w).hash z
/-- the set of texts at a, its members those of S -/
def TxSet (P : Program) (w : World) (hp : Heap) (a : Addr) (S : Str → Prop) (m : Nat) : Prop :=
  ∃ ob arr epo tab, hp.get? a = some ob ∧ ob.ExactSet ∧ ob.data = .set arr epo tab ∧ (∀ e ∈ arr.toList, TxE P w e) ∧ (arr.toList.map txOf).Nodup ∧ (∀ z, S z ↔ z ∈ arr.toList.map txOf) ∧
    arr.size < scanBound ∧ tab.fits arr.size = true ∧ arr.size ≤ m ∧ Ris tab.place.toList ∧ (w.params.followText "set-order" = true ∨ tab.led = true)
section
variable {P : Program} {w : World} {hp hp' : Heap} {a : Addr} {S : Str → Prop} {m : Nat}
theorem TxSet.at_ (R : TxSet P w hp a S m) (k : ∀ ob, hp.get? a = some ob → hp'.get? a = some ob) : TxSet P w hp' a S m := by
  obtain ⟨ob, arr, epo, tab, g, r⟩ := R
  exact ⟨ob, arr, epo, tab, k ob g, r⟩
theorem TxSet.of {S' : Str → Prop} {m' : Nat} (R : TxSet P w hp a S m) (e : ∀ z, S' z ↔ S z) (l : m ≤ m') : TxSet P w hp a S' m' := by
  obtain ⟨ob, arr, epo, tab, g, x, d, r1, r2, r3, r4, r5, r6, r7⟩ := R
  exact ⟨ob, arr, epo, tab, g, x, d, r1, r2, fun z => (e z).trans (r3 z), r4, r5, Nat.le_trans r6 l, r7⟩
theorem tx_elems {l : List (Int × Value)} (g : ∀ e ∈ l, TxE P w e) : ElemsOf (PySem.strKind P w) l := fun e he => by
  obtain ⟨z, t, q1, q2⟩ := g e he
  refine ⟨⟨z, ?_, q2⟩, ?_⟩
  · rw [q1]
    exact strKind_is P w z t
  · rw [q1]
    rfl
theorem tx_is {e : Int × Value} (g : TxE P w e) (z : Str) : (PySem.strKind P w).is z e.2 = true ↔ txOf e = z := by
  obtain ⟨y, t, q1, _⟩ := g
  unfold txOf
  rw [q1]
  constructor
  · intro h
    obtain ⟨t', e'⟩ := Value.isStrOf_shape (x := z) (v := .str y t) h
    cases e'
    rfl
  · rintro rfl
    exact strKind_is P w y t
end
section
variable {P : Program} {w : World} {A : Around} {E : Value → Shared → Prop} {s : Shared} {a : Addr} {S : Str → Prop} {m : Nat}
/-- behind the new entry: stored, and laid anew if the table is too full -/
theorem tx_tail {gv : Bool → Sem Unit} (hgv : ∀ (b : Bool) (s' : Shared) (R : Unit → Shared → Prop), R () s' → wpAny (model P w) A (gv b) R E s') {ob : Obj} {arr : Array (Int × Value)} {epo : Nat} {tab : SetTable} (g : s.heap.get? a = some ob) (x : ob.ExactSet) (d : ob.data = .set arr epo tab)
    {ar : Array (Int × Value)} {tb : SetTable} {S' : Str → Prop} (f1 : ∀ e ∈ ar.toList, TxE P w e) (f2 : (ar.toList.map txOf).Nodup) (f3 : ∀ z, S' z ↔ z ∈ ar.toList.map txOf) (f4 : ar.size < scanBound) (f5 : tb.fits ar.size = true) (f6 : Ris tb.place.toList) (f7 : w.params.followText "set-order" = true ∨ tb.led = true)
    {dm : Bool} {R : Option Bool → Shared → Prop} (k : ∀ hp', Heap.SameBut a s.heap hp' → TxSet P w hp' a S' ar.size → R (some true) { s with heap := hp' }) :
    wpAny (model P w) A (do
        storeSet a ar tb
        if (!dm && tb.tooFull) = true then do
            gv (relayAll tb ar (SetTable.grown ar.size)).2.2
            storeSet a (relayAll tb ar (SetTable.grown ar.size)).1 (relayAll tb ar (SetTable.grown ar.size)).2.1
            pure (some true)
          else pure (some true)) R E s := by
  refine wpAny_bind (wpAny_storeSet_of g d ?_ (fits_of_scanBound f4))
  have g1 := store_at (es' := ar) (t' := tb) g d
  have sb := Heap.SameBut.update s.heap a (Obj.putSet ar tb)
  by_cases c : (!dm && tb.tooFull) = true
  · rw [if_pos c]
    have pm := relayAll_perm tb ar (SetTable.grown ar.size)
    have p1 := relayAll_fits tb ar (SetTable.grown ar.size)
    have p2 := relayAll_ris tb ar (SetTable.grown ar.size)
    have p3 := relayAll_led tb ar (SetTable.grown ar.size)
    generalize relayAll tb ar (SetTable.grown ar.size) = zz at pm p1 p2 p3 ⊢
    obtain ⟨ar2, tb2, gg⟩ := zz
    dsimp only at pm p1 p2 p3 ⊢
    have len : ar2.size = ar.size := by rw [← Array.length_toList, pm.length_eq, Array.length_toList]
    have few : ar2.size < scanBound := by rw [len]; exact f4
    refine wpAny_bind (hgv _ _ _ ?_)
    refine wpAny_bind (wpAny_storeSet_of g1 rfl ?_ (fits_of_scanBound few))
    have g2 := store_at (es' := ar2) (t' := tb2) g1 rfl
    refine wpAny_pure (k _ (sb.trans (Heap.SameBut.update _ a _)) ⟨_, ar2, _, tb2, g2, x, rfl, fun e he => f1 e (pm.mem_iff.mp he), (pm.map txOf).nodup_iff.mpr f2, fun z => (f3 z).trans (pm.map txOf).mem_iff.symm, few, p1, Nat.le_of_eq len, p2, f7.imp id fun q => ?_⟩)
    rw [p3]
    exact q
  · rw [if_neg c]
    exact wpAny_pure (k _ sb ⟨_, ar, _, tb, g1, x, rfl, f1, f2, f3, f4, f5, Nat.le_refl _, f6, f7⟩)
theorem tx_add {z : Str} {tk : Tok} {R : Bool → Shared → Prop} (T : TxSet P w s.heap a S m) (room : m + 1 < scanBound) (k : ∀ b hp', Heap.SameBut a s.heap hp' → TxSet P w hp' a (fun y => S y ∨ y = z) (m + 1) → R b { s with heap := hp' }) :
    wpAny (model P w) A (setAddHashed a (.str z tk) ((PySem.strKind P w).hash z)) R E s := by
  obtain ⟨ob, arr, epo, tab, g, x, d, r1, r2, r3, r4, r5, r6, r7, r8⟩ := T
  have is_ : (PySem.strKind P w).is z (.str z tk) = true := strKind_is P w z tk
  have el : ElemsOf (PySem.strKind P w) arr.toList := tx_elems r1
  have scn : (Value.str z tk).scannable = true := rfl
  unfold setAddHashed; unfold setAddHashedIn
  refine wpAny_holding (wpAny_bind (wpAny_setState_of g d r5 ?_)); dsimp only
  rw [byScan_of scn r4 el]; simp only [↓reduceIte]
  unfold setAddByScan
  refine wpAny_bind ?_; refine wpAny_bind (wpAny_rule ?_)
  refine wpAny_bind (wpAny_setScan_of is_ g d r5 el ?_)
  have memb : ∀ y, y ∈ arr.toList.map txOf ↔ ∃ e ∈ arr.toList, (PySem.strKind P w).is y e.2 = true := fun y => by
    rw [List.mem_map]
    exact ⟨fun ⟨e, he, q⟩ => ⟨e, he, (tx_is (r1 e he) y).mpr q⟩, fun ⟨e, he, q⟩ => ⟨e, he, (tx_is (r1 e he) y).mp q⟩⟩
  cases fi : List.findIdx? (fun e => (PySem.strKind P w).is z e.2) arr.toList with
  | some j =>
    dsimp only
    obtain ⟨hj, pj, _⟩ := List.findIdx?_eq_some_iff_getElem.mp fi
    have here : z ∈ arr.toList.map txOf := (memb z).mpr ⟨arr.toList[j], List.getElem_mem hj, pj⟩
    refine wpAny_pure (wpAny_pure (k _ s.heap (Heap.SameBut.refl a s.heap) ⟨ob, arr, epo, tab, g, x, d, r1, r2, fun y => ⟨fun q => ?_, fun q => .inl ((r3 y).mpr q)⟩, r4, r5, Nat.le_succ_of_le r6, r7, r8⟩))
    rcases q with q | rfl
    · exact (r3 y).mp q
    · exact here
  | none =>
    dsimp only
    have lack : z ∉ arr.toList.map txOf := fun q => by
      obtain ⟨e, he, q2⟩ := (memb z).mp q
      have q3 := List.findIdx?_eq_none_iff.mp fi e he
      rw [q2] at q3
      cases q3
    have gvw : ∀ (b : Bool) {s' : Shared} {R' : Unit → Shared → Prop}, R' () s' → wpAny (model P w) A (match b with | true => rule "set.scan.the-table-gave-way" | false => pure ()) R' E s' := fun b s' R' q => by
      cases b with
      | true => exact wpAny_rule q
      | false => exact wpAny_pure q
    have pm := layNew_perm tab arr ((PySem.strKind P w).hash z) (.str z tk)
    have p1 := layNew_fits tab arr ((PySem.strKind P w).hash z) (.str z tk)
    have p2 := layNew_ris tab arr ((PySem.strKind P w).hash z) (.str z tk) r7
    have p3 := layNew_led tab arr ((PySem.strKind P w).hash z) (.str z tk)
    generalize layNew tab arr ((PySem.strKind P w).hash z) (.str z tk) = zz at pm p1 p2 p3 ⊢
    obtain ⟨ar, tb, dm, gg⟩ := zz
    dsimp only at pm p1 p2 p3 ⊢
    rw [Array.toList_push] at pm
    have pc : ar.toList.Perm (((PySem.strKind P w).hash z, Value.str z tk) :: arr.toList) := pm.trans (List.perm_append_singleton _ _)
    have pk : (ar.toList.map txOf).Perm (z :: arr.toList.map txOf) := pc.map txOf
    have f1 : ∀ e ∈ ar.toList, TxE P w e := fun e he => by
      rcases List.mem_cons.mp (pc.mem_iff.mp he) with rfl | q
      · exact ⟨z, tk, rfl, rfl⟩
      · exact r1 e q
    have f2 : (ar.toList.map txOf).Nodup := pk.nodup_iff.mpr (List.nodup_cons.mpr ⟨lack, r2⟩)
    have f3 : ∀ y, (S y ∨ y = z) ↔ y ∈ ar.toList.map txOf := fun y => by
      rw [pk.mem_iff, List.mem_cons, r3 y]
      exact Or.comm
    have len : ar.size = arr.size + 1 := by rw [← Array.length_toList, pc.length_eq, List.length_cons, Array.length_toList]
    have f4 : ar.size < scanBound := by omega
    have f7 : w.params.followText "set-order" = true ∨ tb.led = true := r8.imp id fun q => by rw [p3]; exact q
    have fin : ∀ hp', Heap.SameBut a s.heap hp' → TxSet P w hp' a (fun y => S y ∨ y = z) ar.size → R true { s with heap := hp' } := fun hp' sb T => k true hp' sb (T.of (fun _ => Iff.rfl) (by omega))
    refine wpAny_bind (gvw _ ?_)
    split
    · refine wpAny_bind ?_
      rw [hashByValue_scannable 8 scn]
      refine wpAny_pure (tx_tail ?_ g x d f1 f2 f3 f4 ?_ ?_ ?_ ?_)
      · exact fun b s' R' q => gvw b q
      · first | (split <;> first | exact p1 | exact SetTable.fits_plain_off p1) | exact p1
      · first | (split <;> exact p2) | exact p2
      · first | (split <;> exact f7) | exact f7
      · exact fun hp' sb T => by dsimp only; exact wpAny_pure (fin hp' sb T)
    · refine wpAny_bind (wpAny_pure ?_); simp only [↓reduceIte]
      exact tx_tail (fun b s' R' q => gvw b q) g x d f1 f2 f3 f4 p1 p2 f7 fun hp' sb T => by dsimp only; exact wpAny_pure (fin hp' sb T)
end
end Own
set_option Elab.async false
set_option linter.all false
set_option maxRecDepth 100000
set_option maxHeartbeats 4000000
namespace Own
open PySem PySem.Spec PyProof.Rows L2
abbrev newSet (w : World) : Obj := { cls := .type "set", dict := none, data := .set #[] 0 (.fresh 0 0 (!w.params.followText "set-order")) }
theorem tx_fresh {P : Program} {w : World} {hp : Heap} {a : Addr} {S : Str → Prop} {m : Nat} (g : hp.get? a = some (newSet w)) (no : ∀ z, ¬ S z) : TxSet P w hp a S m := by
  refine ⟨_, #[], 0, _, g, ⟨rfl, rfl, rfl⟩, rfl, (fun e he => by simp at he), (by simp), (fun z => ?_), (by decide), rfl, Nat.zero_le _, List.Pairwise.nil, ?_⟩
  · constructor
    · exact fun q => absurd q (no z)
    · exact fun q => by simp at q
  · show _ ∨ (!w.params.followText "set-order") = true
    cases w.params.followText "set-order" with
    | true => exact .inl rfl
    | false => exact .inr rfl
section
variable {P : Program} {w : World} {A : Around} {E : Value → Shared → Prop} {s : Shared}
theorem tx_loop {I : Addr} {fp wr : List Addr} {G : Array GenState → Array GenState → Prop} {n : Nat} {Pv : Nat → Value → Prop} {St : Nat → Shared → Prop} {R : Result → Shared → Prop} (W : WalksS P w A.in1 I fp wr G n Pv St) (D : Addr) (nD : D ∉ fp) (zs : List Str) (en : n = zs.length) (few : zs.length + 1 < scanBound)
    (val : ∀ i v, Pv i v → ∃ z t, zs[i]? = some z ∧ v = .str z t) :
    ∀ (k i : Nat) (s : Shared), n - i = k → i ≤ n → St i s → TxSet P w s.heap D (fun z => z ∈ zs.take i) i →
      (∀ s', Moved (D :: wr) G s s' → TxSet P w s'.heap D (fun z => z ∈ zs) n → R (.ok (.ret .none)) s') →
      codeAny (model P w) A (.builtin "set.update.loop" ⟨[.ref D, .ref I], []⟩) R s := by
  have nW : D ∉ wr := fun q => nD (W.sub _ q)
  have up : ∀ b ∈ wr, b ∈ D :: wr := fun b hb => List.mem_cons_of_mem _ hb
  intro k
  induction k with
  | zero =>
    intro i s ek le st T fin
    obtain rfl : i = n := by omega
    refine codeAny_builtin PyProof.Rows.F.entry_set_update_loop ?_
    rw [Around.under_plainId PyProof.Rows.F.plain_set_update_loop _]
    show wpAny _ A.in1 (pyNext (.ref I) >>= _) _ _ s; refine wpAny_bind (W.done s _ _ st fun s' mv => ?_)
    show wpAny _ A.in1 (ret Value.none) _ _ s'
    have all : zs.take i = zs := List.take_of_length_le (by omega)
    rw [all] at T
    exact wpAny_pure (fin s' (mv.mono up) (T.at_ fun o e => mv.heap D o nW e))
  | succ k ih =>
    intro i s ek le st T fin
    have lt : i < n := by omega
    refine codeAny_builtin PyProof.Rows.F.entry_set_update_loop ?_
    rw [Around.under_plainId PyProof.Rows.F.plain_set_update_loop _]
    show wpAny _ A.in1 (pyNext (.ref I) >>= _) _ _ s; refine wpAny_bind (W.item i s _ _ lt st fun v s' pv' st' mv => ?_)
    obtain ⟨z, t, hz, rfl⟩ := val i v pv'
    have T1 : TxSet P w s'.heap D (fun y => y ∈ zs.take i) i := T.at_ fun o e => mv.heap D o nW e
    show wpAny _ A.in1 (holding [Value.str z t] (setAdd D (.str z t)) >>= _) _ _ s'
    refine wpAny_bind (wpAny_holding ?_)
    unfold setAdd; refine wpAny_holding ?_
    refine wpAny_bind ((PySem.strKind P w).pyHash (k := z) (strKind_is _ _ _ _) ?_)
    refine tx_add (s := { s' with toks := s'.toks + 1 }) T1 (by omega) fun b hp' sb T2 => ?_
    have T3 : TxSet P w hp' D (fun y => y ∈ zs.take (i + 1)) (i + 1) := T2.of (fun y => by rw [List.take_add_one, hz]; simp [List.mem_append]) (Nat.le_refl _)
    refine wpAny_pure ⟨plainId_quiet PyProof.Rows.F.plain_set_update_loop _, ih (i + 1) _ (by omega) lt (W.frame _ s' _ _ st' (Nat.le_succ _) fun c hc o e => ?_) T3 fun s'' mv2 T4 => ?_⟩
    · rw [sb.2 c (fun q : c = D => nD (q ▸ hc))]; exact e
    · refine fin s'' (Moved.trans W.gtrans ((mv.mono up).then_heap (Nat.le_succ _) fun c o hc e => ?_) mv2) T4
      rw [sb.2 c (fun q : c = D => hc (by rw [q]; exact List.mem_cons_self))]; exact e
theorem tx_at : ∀ {us : List Value} {zs : List Str}, StrsAre us zs → ∀ (i : Nat) (v : Value), us[i]? = some v → ∃ z t, zs[i]? = some z ∧ v = .str z t
  | _, _, .nil, i, v, h => by simp at h
  | _, _, .cons y t r, 0, v, h => by
    cases h
    exact ⟨y, t, rfl, rfl⟩
  | _, _, .cons y t r, i + 1, v, h => tx_at r i v h
set_option maxHeartbeats 6400000 in
/-- set(xs), xs a list of texts -/
theorem call_set_txs {l : Addr} {items : Array Value} (zs : List Str) {Q : Value → Shared → Prop} (hh : A.handled = none) (hl : s.heap.IsList l items) (hi : StrsAre items.toList zs) (few : zs.length + 1 < scanBound)
    (fin : ∀ (hp' : Heap) (tk : Nat), TxSet P w hp' s.heap.objs.size (fun z => z ∈ zs) zs.length → (∀ b o, s.heap.get? b = some o → hp'.get? b = some o) → Q (.ref s.heap.objs.size) { s with heap := hp', toks := tk }) :
    wpAny (model P w) A (call (.type "set") [.ref l]) Q E s := by
  have len : items.size = zs.length := by rw [← StrsAre.len_eq hi, Array.length_toList]
  obtain ⟨kc, kt, kmro⟩ := PySem.F.called_set.mro
  have kmade := PySem.F.called_set.made
  have ksub := PySem.F.called_set.sub
  refine wpAny_call (codeAny_of_tree ?_); show wpAny _ _ (callAny (.type "set") _) _ _ _
  refine wpAny_pure ⟨Code.quiet_builtin _ (by decide +kernel), codeAny_builtin PySem.F.entry_type_call ?_⟩
  rw [Around.under_plain (weight_type_call_type "set" [.ref l] []) rfl]
  have k1 := PySem.F.called_set.notType
  have k2 := PySem.F.called_set.canCreate
  have k3 := PySem.F.typeCall_set_1 (.ref l)
  repeat any_goals first | assumption | wp_step
  refine codeAny_mono (code_set_led1 (.ref l) (E := E) (Q₁ := fun obj s' => obj = .ref s.heap.objs.size ∧ s' = { s with heap := s.heap.push (newSet w) }) ⟨rfl, rfl⟩) fun r s' hr => ?_
  match r, hr with
  | .error e, hr => exact hr
  | .ok (.ret obj), hr =>
    obtain ⟨rfl, rfl⟩ := hr
    have hN : (s.heap.push (newSet w)).get? s.heap.objs.size = some (newSet w) := Heap.get?_push_size _ rfl
    have hT : Shared.TypeIs { s with heap := s.heap.push (newSet w) } (.ref s.heap.objs.size) "set" := ⟨_, hN, rfl⟩
    have k4 := PySem.F.called_set.init.lookup
    have k5 := PySem.F.called_set.init.bind (.ref s.heap.objs.size)
    repeat any_goals first | assumption | wp_step
    refine codeAny_mono (codeAny_call_builtin (R := wants (fun r s' => r = .none ∧ ∃ hp' tk, s' = { s with heap := hp', toks := tk } ∧ TxSet P w hp' s.heap.objs.size (fun z => z ∈ zs) zs.length ∧ (∀ b o, s.heap.get? b = some o → hp'.get? b = some o)) E) PySem.F.called_set.init.plain PySem.F.entry_set_init (check_set_init_1 hT ?_)) fun r' s'' hr' => ?_
    · obtain ⟨ol, hol, hcl, nl, hdl⟩ := hl
      obtain ⟨oc, od, odt, osl⟩ := ol
      simp only at hcl hdl
      subst hcl hdl
      have hol' : (s.heap.push (newSet w)).get? l = some { cls := .type "list", dict := od, data := .seq items nl, slots := osl } := Heap.get?_push_of_some _ hol
      have k6 := PySem.F.sub_list_set
      have k7 := PySem.F.sub_list_frozenset
      have k8 : (Value.type "list" == Value.type "dict") = false := by decide
      have hl1 : (s.heap.push (newSet w)).IsList l items := ⟨_, hol', rfl, nl, rfl⟩
      unfold Builtin.«set.__init__» noKeywords; unfold Builtin.Frozenset.updateFrom
      generalize gPI : pyIter = PI
      wp_walk
      subst gPI
      refine wpAny_pyIter_list hl1 (wpAny_bind (wpAny_runValue ?_))
      have lS : l < s.heap.objs.size := Heap.lt_size hol
      have hh3 : A.in1.in1.in1.handled = none := by rw [show A.in1.in1.in1.handled = A.handled from rfl]; exact hh
      have nI : l ≠ (s.heap.push (newSet w)).objs.size := by rw [Heap.size_push]; exact Nat.ne_of_lt (Nat.lt_succ_of_lt lS)
      have nF : s.heap.objs.size ∉ [(s.heap.push (newSet w)).objs.size, l] := by
        rw [Heap.size_push]; simp only [List.mem_cons, List.not_mem_nil, or_false, not_or]
        exact ⟨Nat.ne_of_lt (Nat.lt_succ_self _), Nat.ne_of_gt lS⟩
      have val : ∀ (i : Nat) (v : Value), items[i]? = some v → ∃ z t, zs[i]? = some z ∧ v = .str z t := fun i v hv => by
        exact tx_at hi i v (by rw [Array.getElem?_toList]; exact hv)
      refine tx_loop ((Walks.list hh3 _ l nI items).toS) s.heap.objs.size nF zs len few val (items.size - 0) 0 _ (by omega) (Nat.zero_le _) ⟨⟨_, Heap.get?_push_size _ rfl, rfl, rfl⟩, (hl1.push _)⟩ ?c1 ?c2
      case c1 => exact tx_fresh (Heap.get?_push_of_some _ hN) fun z q => by simp at q
      case c2 =>
        intro s3 mv T
        obtain ⟨hp3, g3, d3, tk3, os3⟩ := s3
        have e1 : g3 = s.gens := mv.gens
        have e2 : d3 = s.drawn := mv.drawn
        have e3 : os3 = s.os := mv.os
        subst e1 e2 e3
        show wpAny _ _ _ _ _ _; refine wpAny_pure ?_
        show wpAny _ _ (ret Value.none) _ _ _; rw [len] at T
        refine wpAny_pure ⟨rfl, hp3, tk3, rfl, T, fun b o e => ?_⟩
        have b0 : b < s.heap.objs.size := Heap.lt_size e
        refine mv.heap b o ?_ (Heap.get?_push_of_some _ (Heap.get?_push_of_some _ e))
        rw [Heap.size_push]; simp only [List.mem_cons, List.not_mem_nil, or_false, not_or]
        exact ⟨Nat.ne_of_lt b0, Nat.ne_of_lt (Nat.lt_succ_of_lt b0)⟩
    · match r', hr' with
      | .error e, hr' => exact hr'
      | .ok (.ret r2), hr' =>
        obtain ⟨rfl, hp', tk, rfl, T, kk⟩ := hr'
        repeat any_goals first | assumption | wp_step
        exact fin _ _ T kk
end
end Own
set_option Elab.async false
set_option linter.all false
set_option maxRecDepth 100000
set_option maxHeartbeats 4000000
namespace Own
open PySem PySem.Spec PyProof.Rows L2
def TxO (P : Program) (w : World) (a : Addr) (S : Str → Prop) (m : Nat) : HO := .ext fun hp => TxSet P w hp a S m
theorem txO_new {P : Program} {w : World} {H : Hp} {hp : Heap} {a : Addr} {S : Str → Prop} {m : Nat} (R : TxSet P w hp a S m) : ObjOk P w H hp a (TxO P w a S m) := by
  have ⟨ob, _, _, _, g, _⟩ := R
  exact ⟨R, ⟨ob, g⟩, fun h1 h2 p k => TxSet.at_ p k⟩
section
variable {P : Program} {w : World} {A : Around} {E : Value → Shared → Prop} {s : Shared}
theorem strs_all : ∀ (l : List Value), (∀ v ∈ l, ∃ z t, v = Value.str z t) → StrsAre l (l.map fun v => match v with | .str z _ => z | _ => "")
  | [], _ => .nil
  | v :: l, h => by
    obtain ⟨z, t, rfl⟩ := h v List.mem_cons_self
    exact .cons z t (strs_all l fun u hu => h u (List.mem_cons_of_mem _ hu))
/-- sorted(set) of texts -/
theorem sorted_txs {a : Addr} {S : Str → Prop} {m : Nat} {Q : Value → Shared → Prop} (T : TxSet P w s.heap a S m) (hh : A.handled = none) (few : m < 64)
    (fin : ∀ s' p (out : Array Value) (c : Nat) (ys : List Str), (∀ b o, s.heap.get? b = some o → s'.heap.get? b = some o) → s'.gens = s.gens → s'.os = s.os → s.heap.objs.size ≤ p → s'.heap.get? p = some (seqObj "list" out c) → StrsAre out.toList ys → ys.Nodup → sortedS ys = true → (∀ z, z ∈ ys ↔ S z) → ys.length ≤ m → Q (.ref p) s') :
    wpAny (model P w) A (call (.builtin "sorted") [.ref a]) Q E s := by
  obtain ⟨ob, arr, epo, tab, g, x, d, r1, r2, r3, r4, r5, r6, r7, r8⟩ := T
  refine Calls.call_function_entry kind_sorted plain_sorted entry_sorted (args_sorted1 _) ?_; unfold Builtin.«sorted»
  refine wpAny_bind (m := checkCount "sorted" 1 1 _) (wpAny_pure (wpAny_bind (collect_set (A := A.in1) hh ⟨ob, g, x.1, d⟩ r5 r4 r7 r8 fun s1 vs k1 sz g1 o1 pm => ?_)))
  have lv : vs.length = arr.size := by rw [pm.length_eq, List.length_map, Array.length_toList]
  have hS := strs_all vs fun v hv => by
    obtain ⟨e, he, q⟩ := List.mem_map.mp (pm.mem_iff.mp hv)
    obtain ⟨z, t, q1, _⟩ := r1 e he
    exact ⟨z, t, by rw [← q]; exact q1⟩
  have pk : (vs.map fun v => match v with | .str z _ => z | _ => "").Perm (arr.toList.map txOf) := by
    have q := pm.map fun v => match v with | .str z _ => z | _ => ("" : Str)
    rw [List.map_map] at q
    exact q
  generalize (vs.map fun v => match v with | .str z _ => z | _ => ("" : Str)) = ks at hS pk
  have l64 : vs.length < 64 := by omega
  refine wpAny_bind (wpAny_newList ?_ (by rw [sizeLine_eq]; omega))
  have gL : (s1.heap.push (seqObj "list" vs.toArray 0)).get? s1.heap.objs.size = some (seqObj "list" vs.toArray 0) := Heap.get?_push_size _ rfl
  refine wpAny_bind (wpAny_holding (wpAny_call_entry PyProof.Rows.slot_list_sort ⟨_, gL, rfl⟩ PyProof.Rows.entry_list_sort (list_sort_treeK strKind_oneLt gL hS.keysOf (fun v₁ v₂ rest e => keyKind_strs (by rw [← e]; exact hS)) l64 fun st' q1 q2 => ⟨_, rfl, ?_⟩) (args_list_sort _)))
  obtain ⟨ys, g3, g4, g5⟩ := sorted_out_str hS q1 q2
  obtain ⟨c, hc⟩ := PyProof.Rows.sortedHeap_at (vs := vs) (out := (arrOf st').map (·.2)) gL
  have pn : ys.Perm (arr.toList.map txOf) := g4.trans pk
  refine wpAny_pure ⟨_, rfl, fin _ s1.heap.objs.size ((arrOf st').map (·.2)) c ys (fun b u e => ?_) g1 o1 sz hc g3 (pn.nodup_iff.mpr r2) g5 (fun z => by rw [pn.mem_iff, r3 z]) (by rw [pn.length_eq, List.length_map, Array.length_toList]; exact r6)⟩
  have q := k1 b u e
  have lt := Heap.lt_size q
  show (PyProof.Rows.sortedHeap (s1.heap.push (seqObj "list" vs.toArray 0)) s1.heap.objs.size vs ((arrOf st').map (·.2))).get? b = some u
  rw [PyProof.Rows.sortedHeap_old (Nat.ne_of_lt lt) (by rw [size_push']; exact Nat.lt_succ_of_lt lt)]; exact Heap.get?_push_of_some _ q
end
section
variable {X : Cx}
def rSetTx (K : PySem.W.Frag) (P : Program) (w : World) : List V → Hp → VK → Prop := fun xs H Q => ∃ (l : Addr) (zs : List Str), xs = [V.ref l] ∧ SqL K H l (zs.map V.str) ∧ zs.length ≤ 60 ∧ ∀ a, H a = none → Q (.ref a) (L2.upd H a (TxO P w a (fun z => z ∈ zs) zs.length))
theorem cr_setTx (hc : X.calm = true) : CallR X (.type "set") (rSetTx X.K X.prog X.w) := by
  intro pins s σ H xs us Q I r h
  obtain ⟨l, zs, rfl, hl, few, q⟩ := h
  rw [Vals.ref1 r]
  obtain ⟨its, rv, pl, hz⟩ := I.list hl
  refine call_set_txs (P := X.prog) (w := X.w) zs (I.ok.hd hc) pl.isList (by simpa using strs_of_vals rv) (by unfold scanBound; omega) fun hp' tk T k => ?_
  exact ⟨.ref s.heap.objs.size, L2.upd H s.heap.objs.size (TxO X.prog X.w s.heap.objs.size (fun z => z ∈ zs) zs.length), I.laid (t' := tk) k (Nat.le_refl _) (txO_new T), rfl, q _ (I.hok.fresh (Nat.le_refl _))⟩
def rSortedTx (P : Program) (w : World) : List V → Hp → VK → Prop := fun xs H Q => ∃ (a : Addr) (S : Str → Prop) (m : Nat), xs = [V.ref a] ∧ H a = some (TxO P w a S m) ∧ m < 64 ∧ ∀ p (ys : List Str), ys.Nodup → sortedS ys = true → (∀ z, z ∈ ys ↔ S z) → ys.length ≤ m → H p = none → Q (.ref p) (L2.upd H p (.lst (ys.map V.str)))
theorem cr_sortedTx (hc : X.calm = true) : CallR X (.builtin "sorted") (rSortedTx X.prog X.w) := by
  intro pins s σ H xs us Q I r h
  obtain ⟨a, S, m, rfl, ha, few, q⟩ := h
  have T : TxSet X.prog X.w s.heap a S m := (I.hok a _ ha).1
  rw [Vals.ref1 r]
  refine sorted_txs T (I.ok.hd hc) few fun s' p out c ys k g o hp hg hout nd so mem len => ?_
  have hl : (ys.map V.str).length ≤ sizeLine := by rw [List.length_map, sizeLine_eq]; omega
  have hn : H p = none := I.hok.fresh hp
  have J : Inv X pins σ (L2.upd H p (.lst (ys.map V.str))) { s with heap := s'.heap, gens := s'.gens, drawn := s'.drawn, toks := s'.toks } :=
    I.call (ch := []) (Un.laid k hp hn) (I.hok.laid k hp ⟨hl, out.toList, c, vals_of_strs hout, hg⟩) (by rw [g]; exact I.bare) (fun _ z => nomatch z)
  have e : s' = { s with heap := s'.heap, gens := s'.gens, drawn := s'.drawn, toks := s'.toks } := by
    cases s'; cases s; cases o; rfl
  rw [e]
  exact ⟨.ref p, _, J, rfl, q p ys nd so mem len hn⟩
end
end Own
set_option Elab.async false
set_option linter.all false
set_option maxRecDepth 100000
set_option maxHeartbeats 1000000
namespace Own
open PySem PySem.Spec PyProof.Rows L2 LamX
/-! ### the chest's tools, in plain words -/
def ALLT : List Str := "" :: TOOLS
def ixT (z : Str) : Nat := ALLT.findIdx fun y => decide (y = z)
theorem allt_up : ALLT.Pairwise fun x y => ixT x < ixT y := by decide +kernel
theorem allt_lt : ∀ p ∈ ALLT, ∀ x ∈ ALLT, p ≠ x → (!ltCps x.cps.toList p.cps.toList) = true → ixT p < ixT x := by decide +kernel
theorem tools_ne : ∀ t ∈ TOOLS, t ≠ "" := by decide +kernel
theorem form_tool : ∀ t ∈ FORM, toolS t.1 ∈ ALLT := by decide +kernel
theorem up_eq {f : Str → Nat} : ∀ {l m : List Str}, (l.Pairwise fun x y => f x < f y) → (m.Pairwise fun x y => f x < f y) → (∀ x, x ∈ l ↔ x ∈ m) → l = m
  | [], [], _, _, _ => rfl
  | [], y :: m, _, _, h => absurd ((h y).mpr List.mem_cons_self) (by simp)
  | x :: l, [], _, _, h => absurd ((h x).mp List.mem_cons_self) (by simp)
  | x :: l, y :: m, a, b, h => by
    obtain ⟨a1, a2⟩ := List.pairwise_cons.mp a
    obtain ⟨b1, b2⟩ := List.pairwise_cons.mp b
    have e : x = y := by
      rcases List.mem_cons.mp ((h x).mp List.mem_cons_self) with e | mx
      · exact e
      · rcases List.mem_cons.mp ((h y).mpr List.mem_cons_self) with e | my
        · exact e.symm
        · have := b1 x mx
          have := a1 y my
          omega
    subst e
    refine congrArg (x :: ·) (up_eq a2 b2 fun z => ?_)
    have ne : ∀ {l : List Str}, (∀ y ∈ l, f x < f y) → x ∉ l := fun q m => by
      have := q x m
      omega
    constructor
    · intro hz
      rcases List.mem_cons.mp ((h z).mp (List.mem_cons_of_mem _ hz)) with e | m
      · exact absurd (e ▸ hz) (ne a1)
      · exact m
    · intro hz
      rcases List.mem_cons.mp ((h z).mpr (List.mem_cons_of_mem _ hz)) with e | m
      · exact absurd (e ▸ hz) (ne b1)
      · exact m
theorem rising_up : ∀ {r : List Str} {p : Str}, p ∈ ALLT → (∀ x ∈ r, x ∈ ALLT) → (p :: r).Nodup → risingS p r = true → (∀ x ∈ r, ixT p < ixT x) ∧ r.Pairwise fun x y => ixT x < ixT y
  | [], _, _, _, _, _ => ⟨(fun _ h => by cases h), .nil⟩
  | x :: r, p, hp, hr, nd, h => by
    have h' : (!ltCps x.cps.toList p.cps.toList && risingS x r) = true := h
    rw [Bool.and_eq_true] at h'
    obtain ⟨n1, n2⟩ := List.nodup_cons.mp nd
    have hx := hr x List.mem_cons_self
    have lt := allt_lt p hp x hx (fun e => n1 (e ▸ List.mem_cons_self)) h'.1
    obtain ⟨q1, q2⟩ := rising_up hx (fun y hy => hr y (List.mem_cons_of_mem _ hy)) n2 h'.2
    refine ⟨fun y hy => ?_, .cons q1 q2⟩
    rcases List.mem_cons.mp hy with rfl | hy
    · exact lt
    · have := q1 y hy
      omega
theorem sorted_up {ys : List Str} (hr : ∀ x ∈ ys, x ∈ ALLT) (nd : ys.Nodup) (h : sortedS ys = true) : ys.Pairwise fun x y => ixT x < ixT y := by
  cases ys with
  | nil => exact .nil
  | cons p r =>
    obtain ⟨q1, q2⟩ := rising_up (hr p List.mem_cons_self) (fun y hy => hr y (List.mem_cons_of_mem _ hy)) nd h
    exact .cons q1 q2
theorem chest_sorted {ys : List Str} {sts : List (Str × Deed)} (ok : ∀ s ∈ sts, DeedOk s.2) (nd : ys.Nodup) (so : sortedS ys = true) (mem : ∀ z, z ∈ ys ↔ z ∈ sts.map fun s => toolS s.2.word) : (ys.filter fun z : Str => decide (z ≠ "")) = chestOf sts := by
  have hr : ∀ x ∈ ys, x ∈ ALLT := fun x hx => by
    obtain ⟨s, hs, rfl⟩ := List.mem_map.mp ((mem x).mp hx)
    obtain ⟨m, k, hm, _⟩ := ok s hs
    exact form_tool _ hm
  have e : ys = ALLT.filter fun z => decide (z ∈ ys) := up_eq (sorted_up hr nd so) (allt_up.filter _) fun z => by
    rw [List.mem_filter, decide_eq_true_iff]
    exact ⟨fun h => ⟨hr z h, h⟩, fun h => h.2⟩
  unfold chestOf
  have e2 : (TOOLS.filter fun t => decide (t ∈ sts.map fun s => toolS s.2.word)) = TOOLS.filter fun t => decide (t ∈ ys) := List.filter_congr fun t _ => by
    rw [Bool.eq_iff_iff, decide_eq_true_iff, decide_eq_true_iff, mem t]
  rw [e2]
  refine (congrArg (List.filter fun z : Str => decide (z ≠ "")) e).trans ?_
  rw [List.filter_filter]
  show List.filter _ (("" : Str) :: TOOLS) = _
  rw [List.filter_cons, if_neg (by simp)]
  refine List.filter_congr fun t ht => ?_
  rw [decide_eq_true (tools_ne t ht), Bool.true_and]
def OTHK : List (Key × V) := OTHL.map fun t => (Sum.inr t.1, V.str t.2)
theorem oth_look : ∀ t ∈ FORM, (valV OTHK (Sum.inr t.1)).getD (.str t.1) = .str (toolS t.1) := by decide +kernel
theorem oth_new : mergeK [] OTHK = OTHK := by kernel_rfl
end Own
set_option Elab.async false
set_option linter.all false
set_option maxRecDepth 100000
set_option maxHeartbeats 400000
namespace Own
open PySem PySem.Spec PyProof.Rows L2 LamX
/-! ### what the walk asks of the module, all of it -/
def FNS : List (Str × Stmt) := ("is_whole", sWhole) :: ("is_name", sName) :: ("vec_lowest", sLowest) :: ("rows_of", sRowsOf) :: ("need_tower", sNeedT) :: ("sheet", sSheet) :: ("is_deed", sDeed) :: ("need_deed", sNeedD) :: ("names_of", sNames) :: ("tool_of", sTool) :: ("is_drawing", sDrawing) ::
  ("are_names", sAreN) :: ("need_names", sNeedN) :: ("need_drawing", sNeedDr) :: ("goes_on", sGoes) :: ("is_sequel", sSeq) :: ("chest_of", sChest) :: ("needed", sNeeded) ::
  ("_law_begun", sBegun) :: ("_law_stirred", sStir) :: ("_law_draw", sDraw) :: ("_law_pick", sPick) :: ("_law_shuffled", sShuf) :: ("_law_name", sLName) :: ("_law_caught", sCaught) :: ("_law_deed_names", sDNames) :: ("_law_chained_steps", sChain) :: ("_law_forms", sForms) :: ("_law_has_way", sHasWay) :: ("_law_deed", sLDeed) ::
  ("_law_goes_on", sLGoes) :: ("_law_is_name", sNameDue) :: ("_law_is_deed", sDeedDue) :: ("_law_hung", sHung) :: ("_law_needed_right", sNeedR) :: ("_law_parts", sParts) :: ("_law_changed", sChanged) :: ("law", sLaw) :: []
/-- the errors' classes: BadDeed, BadDrawing, BadNames, NoName, RulerError; the tuple of tools -/
structure Cs where
  d : Addr
  w : Addr
  n : Addr
  s : Addr
  r : Addr
  t : Addr
/-- Tower and Number -/
structure Os where
  CT : Addr
  CN : Addr
  fT : Addr
  fN : Addr
  pE : Addr
  fI : Addr
structure All (P : Program) (w : World) (K : PySem.W.Frag) (mg : Str → Option Value) (C : Cs) (O : Os) (dT dN : FuncData) : Prop where
  t : Txt K mg
  c : Cst K mg
  d : Dct NOW K w mg
  o : Obj2 K mg O.CT O.CN O.fT O.fN O.pE dT dN
  fns : ∀ x st, (x, st) ∈ FNS → ∃ fd, FnP K x st (He.ga K x) fd
  gl : ∀ x st, (x, st) ∈ FNS → mg x = some (.ref (He.ga K x))
  frac : ∃ fd, FunD K "fraction" "fraction" (defArgs sFrac) (defBody sFrac) (defScope sFrac) [.int 1] [] (He.ga K "fraction") fd
  gFr : mg "fraction" = some (.ref (He.ga K "fraction"))
  gTo : mg "TOOLS" = some (.ref C.t)
  hTo : ∀ H, SqT K H C.t (TOOLS.map V.str)
  eD : ErrK K mg C.r "BadDeed" C.d
  eW : ErrK K mg C.r "BadDrawing" C.w
  eN : ErrK K mg C.r "BadNames" C.n
  sn : SupX.Has P K mg tNN C.s O.fI
  cS : ExcC K C.s
  fS : XfC K C.s
  xS : PySem.W.exmOne K (.ref C.s) (.ref C.r) = some true
  gR : mg "RulerError" = some (.ref C.r)
section
variable {P : Program} {w : World} {K : PySem.W.Frag} {mg : Str → Option Value} {base : Heap} {C : Cs} {O : Os} {dT dN : FuncData}
theorem All.mem1 (Z : All P w K mg C O dT dN) (x : Str) (st : Stmt) (h : (x, st) ∈ FNS) : ∃ fd, FnP K x st (He.ga K x) fd ∧ mg x = some (.ref (He.ga K x)) := by
  obtain ⟨fd, h1⟩ := Z.fns x st h
  exact ⟨fd, h1, Z.gl x st h⟩
theorem Fk.of {CX : CXT} {k : Nat} {x : Str} {st : Stmt} {fd : FuncData} {ps : List Str} {sp : Sp} (F : FnP K x st (He.ga K x) fd) (g : mg x = some (.ref (He.ga K x))) (ok : FnOk P w K mg base CX k (He.ga K x) fd ps sp) (b : Binds K fd ps []) : Fk P w K mg base CX k x fd ps sp := ⟨ok, b, F.kp, g⟩
theorem All.kDraw (Z : All P w K mg C O dT dN) : ∃ fd, Fk P w K mg base CX0 2 "_law_draw" fd ["_law_state", "_law_room"] spDraw := by
  obtain ⟨dS, FS, gS⟩ := Z.mem1 "_law_stirred" sStir (by simp [FNS])
  obtain ⟨fd, F, g⟩ := Z.mem1 "_law_draw" sDraw (by simp [FNS])
  exact ⟨fd, .of F g (ok_draw F FS gS Z.t) (F.bindsN fun _ _ _ _ _ _ us hl => match us, hl with | [_, _], _ => rfl)⟩
theorem All.kPick (Z : All P w K mg C O dT dN) : ∃ fd, Fk P w K mg base CX0 3 "_law_pick" fd ["_law_state", "_law_some"] (spPick K) := by
  obtain ⟨dS, FS, gS⟩ := Z.mem1 "_law_stirred" sStir (by simp [FNS])
  obtain ⟨dD, FD, gD⟩ := Z.mem1 "_law_draw" sDraw (by simp [FNS])
  obtain ⟨fd, F, g⟩ := Z.mem1 "_law_pick" sPick (by simp [FNS])
  exact ⟨fd, .of F g (ok_pick F FD FS gD gS Z.t) (F.bindsN fun _ _ _ _ _ _ us hl => match us, hl with | [_, _], _ => rfl)⟩
theorem All.kBegun (Z : All P w K mg C O dT dN) : ∃ fd, Fk P w K mg base CX0 1 "_law_begun" fd ["_law_script"] (spBegun K) := by
  obtain ⟨fd, F, g⟩ := Z.mem1 "_law_begun" sBegun (by simp [FNS])
  exact ⟨fd, .of F g (ok_begun F Z.t) (F.bindsN fun _ _ _ _ _ _ us hl => match us, hl with | [_], _ => rfl)⟩
theorem All.kForms (Z : All P w K mg C O dT dN) : ∃ fd, Fk P w K mg base CX0 1 "_law_forms" fd [] spForms := by
  obtain ⟨fd, F, g⟩ := Z.mem1 "_law_forms" sForms (by simp [FNS])
  exact ⟨fd, .of F g (ok_forms F) (F.bindsN fun _ _ _ _ _ _ us hl => match us, hl with | [], _ => rfl)⟩
theorem All.kHasWay (Z : All P w K mg C O dT dN) : ∃ fd, Fk P w K mg base CX0 1 "_law_has_way" fd ["_law_word"] spHasWay := by
  obtain ⟨fd, F, g⟩ := Z.mem1 "_law_has_way" sHasWay (by simp [FNS])
  exact ⟨fd, .of F g (ok_hasway F) (F.bindsN fun _ _ _ _ _ _ us hl => match us, hl with | [_], _ => rfl)⟩
theorem All.kLName (Z : All P w K mg C O dT dN) : ∃ fd, Fk P w K mg base CX0 4 "_law_name" fd ["_law_state", "_law_barred"] spLName := by
  obtain ⟨dS, FS, gS⟩ := Z.mem1 "_law_stirred" sStir (by simp [FNS])
  obtain ⟨dD, FD, gD⟩ := Z.mem1 "_law_draw" sDraw (by simp [FNS])
  obtain ⟨dP, FP, gP⟩ := Z.mem1 "_law_pick" sPick (by simp [FNS])
  obtain ⟨fd, F, g⟩ := Z.mem1 "_law_name" sLName (by simp [FNS])
  exact ⟨fd, .of F g (ok_lname F FP FD FS gP gD gS Z.t) (F.bindsN fun _ _ _ _ _ _ us hl => match us, hl with | [_, _], _ => rfl)⟩
theorem All.kLDeed (Z : All P w K mg C O dT dN) : ∃ fd, Fk P w K mg base CX0 4 "_law_deed" fd ["_law_state", "_law_word", "_law_names"] spLDeed := by
  obtain ⟨dS, FS, gS⟩ := Z.mem1 "_law_stirred" sStir (by simp [FNS])
  obtain ⟨dD, FD, gD⟩ := Z.mem1 "_law_draw" sDraw (by simp [FNS])
  obtain ⟨dP, FP, gP⟩ := Z.mem1 "_law_pick" sPick (by simp [FNS])
  obtain ⟨dSh, FSh, gSh⟩ := Z.mem1 "_law_shuffled" sShuf (by simp [FNS])
  obtain ⟨dF, FF, gF⟩ := Z.mem1 "_law_forms" sForms (by simp [FNS])
  obtain ⟨dH, FH, gH⟩ := Z.mem1 "_law_has_way" sHasWay (by simp [FNS])
  obtain ⟨fd, F, g⟩ := Z.mem1 "_law_deed" sLDeed (by simp [FNS])
  exact ⟨fd, .of F g (ok_ldeed F FSh FF FH FP FD FS gSh gF gH gP gD gS Z.t) (F.bindsN fun _ _ _ _ _ _ us hl => match us, hl with | [_, _, _], _ => rfl)⟩
theorem All.kWhole (Z : All P w K mg C O dT dN) : ∃ fd, Fk P w K mg base CX0 1 "is_whole" fd ["value"] (spWhole K) := by
  obtain ⟨fd, F, g⟩ := Z.mem1 "is_whole" sWhole (by simp [FNS])
  exact ⟨fd, .of F g (ok_whole F Z.t) (F.bindsN fun _ _ _ _ _ _ us hl => match us, hl with | [_], _ => rfl)⟩
theorem All.kName (Z : All P w K mg C O dT dN) : ∃ fd, Fk P w K mg base CX0 1 "is_name" fd ["value"] spName := by
  obtain ⟨fd, F, g⟩ := Z.mem1 "is_name" sName (by simp [FNS])
  exact ⟨fd, .of F g (ok_name F Z.t Z.c) (F.bindsN fun _ _ _ _ _ _ us hl => match us, hl with | [_], _ => rfl)⟩
theorem All.kDeed (Z : All P w K mg C O dT dN) : ∃ fd, FnP K "is_deed" sDeed (He.ga K "is_deed") fd ∧ Fk P w K mg base CX0 2 "is_deed" fd ["value"] (spDeed NOW) := by
  obtain ⟨dN', KN⟩ := Z.kName (base := base)
  obtain ⟨dI, KI⟩ := Z.kWhole (base := base)
  obtain ⟨fd, F, g⟩ := Z.mem1 "is_deed" sDeed (by simp [FNS])
  exact ⟨fd, F, .of F g (ok_deed F KN KI Z.t Z.d (fun z hz => by cases hz)) (F.bindsN fun _ _ _ _ _ _ us hl => match us, hl with | [_], _ => rfl)⟩
theorem All.kNeedD (Z : All P w K mg C O dT dN) : ∃ fd, Fk P w K mg base (L2.CX P w) 3 "need_deed" fd ["deed"] (spNeedD NOW C.d) := by
  obtain ⟨dD, _, KD⟩ := Z.kDeed (base := base)
  obtain ⟨fd, F, g⟩ := Z.mem1 "need_deed" sNeedD (by simp [FNS])
  exact ⟨fd, .of F g (ok_needd F KD Z.eD.e) (F.bindsN fun _ _ _ _ _ _ us hl => match us, hl with | [_], _ => rfl)⟩
theorem All.kNames (Z : All P w K mg C O dT dN) : ∃ fd, FnP K "names_of" sNames (He.ga K "names_of") fd ∧ Fk P w K mg base (L2.CX P w) 4 "names_of" fd ["deed"] (spOfDeed NOW C.d rNames) := by
  obtain ⟨dD, KD⟩ := Z.kNeedD (base := base)
  obtain ⟨fd, F, g⟩ := Z.mem1 "names_of" sNames (by simp [FNS])
  exact ⟨fd, F, .of F g (ok_names F KD Z.t Z.d) (F.bindsN fun _ _ _ _ _ _ us hl => match us, hl with | [_], _ => rfl)⟩
theorem All.kTool (Z : All P w K mg C O dT dN) : ∃ fd, FnP K "tool_of" sTool (He.ga K "tool_of") fd ∧ Fk P w K mg base (L2.CX P w) 4 "tool_of" fd ["deed"] (spOfDeed NOW C.d rTool) := by
  obtain ⟨dD, KD⟩ := Z.kNeedD (base := base)
  obtain ⟨fd, F, g⟩ := Z.mem1 "tool_of" sTool (by simp [FNS])
  exact ⟨fd, F, .of F g (ok_tool F KD Z.d) (F.bindsN fun _ _ _ _ _ _ us hl => match us, hl with | [_], _ => rfl)⟩
theorem All.kSheet (Z : All P w K mg C O dT dN) : ∃ fd, Fk P w K mg base CX0 5 "sheet" fd [] (spSheet O.CN) := by
  obtain ⟨dFr, FFr⟩ := Z.frac
  obtain ⟨dI, FI, gI⟩ := Z.mem1 "is_whole" sWhole (by simp [FNS])
  obtain ⟨dRo, FRo, gRo⟩ := Z.mem1 "rows_of" sRowsOf (by simp [FNS])
  obtain ⟨dNt, FNt, gNt⟩ := Z.mem1 "need_tower" sNeedT (by simp [FNS])
  obtain ⟨dLo, FLo, gLo⟩ := Z.mem1 "vec_lowest" sLowest (by simp [FNS])
  obtain ⟨fd, F, g⟩ := Z.mem1 "sheet" sSheet (by simp [FNS])
  exact ⟨fd, .of F g (ok_sheet F FFr FI FRo FNt FLo Z.gFr gI gRo gNt gLo Z.t Z.o) (F.bindsN fun _ _ _ _ _ _ us hl => match us, hl with | [], _ => rfl)⟩
theorem All.kDrawing (Z : All P w K mg C O dT dN) : ∃ fd, FnP K "is_drawing" sDrawing (He.ga K "is_drawing") fd ∧ Fk P w K mg base CX0 6 "is_drawing" fd ["value"] (spDrawing NOW) := by
  obtain ⟨dS, KS⟩ := Z.kSheet (base := base)
  obtain ⟨dN', KN⟩ := Z.kName (base := base)
  obtain ⟨dD, _, KD⟩ := Z.kDeed (base := base)
  obtain ⟨dM, _, KM⟩ := Z.kNames (base := base)
  obtain ⟨fd, F, g⟩ := Z.mem1 "is_drawing" sDrawing (by simp [FNS])
  exact ⟨fd, F, .of F g (ok_drawing F KS KN KD KM Z.t) (F.bindsN fun _ _ _ _ _ _ us hl => match us, hl with | [_], _ => rfl)⟩
/-- such a def, no repr being under way -/
structure Gk (P : Program) (w : World) (K : PySem.W.Frag) (mg : Str → Option Value) (base : Heap) (CX : CXT) (k : Nat) (x : Str) (fd : FuncData) (ps : List Str) (sp : Sp) : Prop where
  ok : FnOkG P w K mg base CX k (He.ga K x) fd ps sp
  b : Binds K fd ps []
  kp : PySem.W.keepIn K (.ref (He.ga K x)) = true
  g : mg x = some (.ref (He.ga K x))
theorem All.kAreN (Z : All P w K mg C O dT dN) : ∃ fd, Fk P w K mg base CX0 2 "are_names" fd ["value"] spAreN := by
  obtain ⟨d1, KN⟩ := Z.kName (base := base)
  obtain ⟨fd, F, g⟩ := Z.mem1 "are_names" sAreN (by simp [FNS])
  exact ⟨fd, .of F g (ok_aren F KN Z.t) (F.bindsN fun _ _ _ _ _ _ us hl => match us, hl with | [_], _ => rfl)⟩
theorem All.kNeedN (Z : All P w K mg C O dT dN) : ∃ fd, Fk P w K mg base (L2.CX P w) 3 "need_names" fd ["names"] (spNeedN C.n) := by
  obtain ⟨d1, KA⟩ := Z.kAreN (base := base)
  obtain ⟨fd, F, g⟩ := Z.mem1 "need_names" sNeedN (by simp [FNS])
  exact ⟨fd, .of F g (ok_needn F KA Z.eN.e) (F.bindsN fun _ _ _ _ _ _ us hl => match us, hl with | [_], _ => rfl)⟩
theorem All.kNeedDr (Z : All P w K mg C O dT dN) : ∃ fd, Fk P w K mg base (L2.CX P w) 7 "need_drawing" fd ["steps"] (spNeedDr NOW C.w) := by
  obtain ⟨d1, _, KA⟩ := Z.kDrawing (base := base)
  obtain ⟨fd, F, g⟩ := Z.mem1 "need_drawing" sNeedDr (by simp [FNS])
  exact ⟨fd, .of F g (ok_needdr F KA Z.eW.e) (F.bindsN fun _ _ _ _ _ _ us hl => match us, hl with | [_], _ => rfl)⟩
theorem All.kGoes (Z : All P w K mg C O dT dN) : ∃ fd, Fk P w K mg base CX0 5 "goes_on" fd ["value", "names"] (spGoes NOW) := by
  obtain ⟨d1, KN⟩ := Z.kName (base := base)
  obtain ⟨d2, _, KD⟩ := Z.kDeed (base := base)
  obtain ⟨d3, _, KM⟩ := Z.kNames (base := base)
  obtain ⟨fd, F, g⟩ := Z.mem1 "goes_on" sGoes (by simp [FNS])
  exact ⟨fd, .of F g (ok_goes F KN KD KM Z.t) (F.bindsN fun _ _ _ _ _ _ us hl => match us, hl with | [_, _], _ => rfl)⟩
theorem All.kSeq (Z : All P w K mg C O dT dN) : ∃ fd, FnP K "is_sequel" sSeq (He.ga K "is_sequel") fd ∧ Fk P w K mg base (L2.CX P w) 6 "is_sequel" fd ["value", "names"] (spSeq NOW C.n) := by
  obtain ⟨d1, KN⟩ := Z.kNeedN (base := base)
  obtain ⟨d2, KG⟩ := Z.kGoes (base := base)
  obtain ⟨fd, F, g⟩ := Z.mem1 "is_sequel" sSeq (by simp [FNS])
  exact ⟨fd, F, .of F g (ok_seq F KN KG) (F.bindsN fun _ _ _ _ _ _ us hl => match us, hl with | [_, _], _ => rfl)⟩
theorem All.kChest (Z : All P w K mg C O dT dN) : ∃ fd, FnP K "chest_of" sChest (He.ga K "chest_of") fd ∧ Fk P w K mg base CX0 8 "chest_of" fd ["steps"] (spChest NOW) := by
  obtain ⟨d1, KN⟩ := Z.kNeedDr (base := base)
  obtain ⟨d2, _, KT⟩ := Z.kTool (base := base)
  obtain ⟨fd, F, g⟩ := Z.mem1 "chest_of" sChest (by simp [FNS])
  exact ⟨fd, F, .of F g (ok_chest F KN KT Z.t Z.gTo Z.hTo) (F.bindsN fun _ _ _ _ _ _ us hl => match us, hl with | [_], _ => rfl)⟩
theorem All.kNeeded (Z : All P w K mg C O dT dN) : ∃ fd, FnP K "needed" sNeeded (He.ga K "needed") fd ∧ Fk P w K mg base (L2.CX P w) 8 "needed" fd ["steps", "names"] (spNeeded NOW C.w C.n C.s) := by
  obtain ⟨d1, KD⟩ := Z.kNeedDr (base := base)
  obtain ⟨d2, KN⟩ := Z.kNeedN (base := base)
  obtain ⟨d3, KS⟩ := Z.kSheet (base := base)
  obtain ⟨d4, _, KM⟩ := Z.kNames (base := base)
  obtain ⟨fd, F, g⟩ := Z.mem1 "needed" sNeeded (by simp [FNS])
  exact ⟨fd, F, .of F g (ok_needed F KD KN KS KM Z.sn Z.t) (F.bindsN fun _ _ _ _ _ _ us hl => match us, hl with | [_, _], _ => rfl)⟩
theorem All.kDNames (Z : All P w K mg C O dT dN) : ∃ fd, Fk P w K mg base CX0 2 "_law_deed_names" fd ["_law_deed_here"] spDNames := by
  obtain ⟨d1, KF⟩ := Z.kForms (base := base)
  obtain ⟨fd, F, g⟩ := Z.mem1 "_law_deed_names" sDNames (by simp [FNS])
  exact ⟨fd, .of F g (ok_dnames F KF Z.t) (F.bindsN fun _ _ _ _ _ _ us hl => match us, hl with | [_], _ => rfl)⟩
theorem All.kShuf (Z : All P w K mg C O dT dN) : ∃ fd, Fk P w K mg base CX0 3 "_law_shuffled" fd ["_law_state", "_law_some"] spShuf := by
  obtain ⟨dS, FS, gS⟩ := Z.mem1 "_law_stirred" sStir (by simp [FNS])
  obtain ⟨dD, FD, gD⟩ := Z.mem1 "_law_draw" sDraw (by simp [FNS])
  obtain ⟨fd, F, g⟩ := Z.mem1 "_law_shuffled" sShuf (by simp [FNS])
  exact ⟨fd, .of F g (ok_shuf F FD FS gD gS Z.t) (F.bindsN fun _ _ _ _ _ _ us hl => match us, hl with | [_, _], _ => rfl)⟩
theorem All.kChain (Z : All P w K mg C O dT dN) : ∃ fd, Fk P w K mg base CX0 5 "_law_chained_steps" fd ["_law_state", "_law_many", "_law_words", "_law_share"] spChain := by
  obtain ⟨d1, KD⟩ := Z.kDraw (base := base)
  obtain ⟨d2, KP⟩ := Z.kPick (base := base)
  obtain ⟨d3, KN⟩ := Z.kLName (base := base)
  obtain ⟨d4, KE⟩ := Z.kLDeed (base := base)
  obtain ⟨fd, F, g⟩ := Z.mem1 "_law_chained_steps" sChain (by simp [FNS])
  exact ⟨fd, .of F g (ok_chain F KD KP KN KE Z.t) (F.bindsN fun _ _ _ _ _ _ us hl => match us, hl with | [_, _, _, _], _ => rfl)⟩
theorem All.kNameDue (Z : All P w K mg C O dT dN) : ∃ fd, Fk P w K mg base CX0 1 "_law_is_name" fd ["_law_value"] spName := by
  obtain ⟨fd, F, g⟩ := Z.mem1 "_law_is_name" sNameDue (by simp [FNS])
  exact ⟨fd, .of F g (ok_namedue F Z.t) (F.bindsN fun _ _ _ _ _ _ us hl => match us, hl with | [_], _ => rfl)⟩
theorem All.kDeedDue (Z : All P w K mg C O dT dN) : ∃ fd, Gk P w K mg base CX0 2 "_law_is_deed" fd ["_law_value"] spDeedDue := by
  obtain ⟨d1, KN⟩ := Z.kNameDue (base := base)
  obtain ⟨d2, KF⟩ := Z.kForms (base := base)
  obtain ⟨d3, KH⟩ := Z.kHasWay (base := base)
  obtain ⟨fd, F, g⟩ := Z.mem1 "_law_is_deed" sDeedDue (by simp [FNS])
  exact ⟨fd, ok_deeddue F KN KF KH Z.t, F.bindsN fun _ _ _ _ _ _ us hl => match us, hl with | [_], _ => rfl, F.kp, g⟩
theorem All.kLGoes (Z : All P w K mg C O dT dN) : ∃ fd, Gk P w K mg base CX0 3 "_law_goes_on" fd ["_law_value", "_law_names"] spLGoes := by
  obtain ⟨d1, KN⟩ := Z.kNameDue (base := base)
  obtain ⟨d2, KM⟩ := Z.kDNames (base := base)
  obtain ⟨d3, KD⟩ := Z.kDeedDue (base := base)
  obtain ⟨fd, F, g⟩ := Z.mem1 "_law_goes_on" sLGoes (by simp [FNS])
  exact ⟨fd, ok_lgoes F KN KM KD.ok KD.b KD.kp KD.g Z.t, F.bindsN fun _ _ _ _ _ _ us hl => match us, hl with | [_, _], _ => rfl, F.kp, g⟩
theorem All.kHung (Z : All P w K mg C O dT dN) : ∃ fd, Fk P w K mg base CX0 3 "_law_hung" fd ["_law_steps", "_law_names"] spHung := by
  obtain ⟨d1, KM⟩ := Z.kDNames (base := base)
  obtain ⟨fd, F, g⟩ := Z.mem1 "_law_hung" sHung (by simp [FNS])
  exact ⟨fd, .of F g (ok_hung F KM Z.t) (F.bindsN fun _ _ _ _ _ _ us hl => match us, hl with | [_, _], _ => rfl)⟩
theorem All.kParts (Z : All P w K mg C O dT dN) : ∃ fd, Fk P w K mg base CX0 1 "_law_parts" fd ["_law_steps"] spParts := by
  obtain ⟨fd, F, g⟩ := Z.mem1 "_law_parts" sParts (by simp [FNS])
  exact ⟨fd, .of F g (ok_parts F Z.t) (F.bindsN fun _ _ _ _ _ _ us hl => match us, hl with | [_], _ => rfl)⟩
theorem All.kChanged (Z : All P w K mg C O dT dN) : ∃ fd, Fk P w K mg base CX0 4 "_law_changed" fd ["_law_state", "_law_steps"] spChanged := by
  obtain ⟨d1, KD⟩ := Z.kDraw (base := base)
  obtain ⟨d2, KP⟩ := Z.kPick (base := base)
  obtain ⟨fd, F, g⟩ := Z.mem1 "_law_changed" sChanged (by simp [FNS])
  exact ⟨fd, .of F g (ok_changed F KD KP Z.t) (F.bindsN fun _ _ _ _ _ _ us hl => match us, hl with | [_, _], _ => rfl)⟩
theorem All.kNR {tn tl : Addr} (Z : All P w K mg C O dT dN) (hf : He.ga K "_law_needed_right" = He.fAd K ("_law_needed_right", none)) (TB : TabB base mg (He.codeOf K ("_law_needed_right", none)) tn) (A2 : tn ≠ tl) : ∃ fd, Gk P w K mg base CX0 11 "_law_needed_right" fd ["_law_state", "_law_steps"] (spNR tn tl) := by
  obtain ⟨d1, K1⟩ := Z.kShuf (base := base)
  obtain ⟨d2, K2⟩ := Z.kDraw (base := base)
  obtain ⟨d3, K3⟩ := Z.kHung (base := base)
  obtain ⟨d4, F4, K4⟩ := Z.kNeeded (base := base)
  obtain ⟨d5, K5⟩ := Z.kParts (base := base)
  obtain ⟨d6, _, K6⟩ := Z.kSeq (base := base)
  obtain ⟨d7, K7⟩ := Z.kLGoes (base := base)
  obtain ⟨dC, FC, gC⟩ := Z.mem1 "_law_caught" sCaught (by simp [FNS])
  obtain ⟨fd, F, g⟩ := Z.mem1 "_law_needed_right" sNeedR (by simp [FNS])
  exact ⟨fd, ok_nr F hf ⟨K1, K2, K3, F4, K4, K5, K6, K7.ok, K7.b, K7.kp, K7.g, FC, gC, Z.gR, Z.sn, Z.cS, Z.fS, Z.xS, Z.t⟩ TB A2, F.bindsN fun _ _ _ _ _ _ us hl => match us, hl with | [_, _], _ => rfl, F.kp, g⟩
end
end Own
set_option Elab.async false
set_option linter.all false
set_option maxRecDepth 100000
set_option maxHeartbeats 1000000
namespace Own
open PySem PySem.Spec PyProof.Rows L2 LamX
/-! ### the law's two inner loops -/
def ODL : List PyData := .none :: .str "a" :: .dict [] :: .list [.str "a", .str "a"] :: .list [.str "a", .int 5] :: .list [.str "A"] :: .list [.list [.str "a"]] :: []
structure OddE (e : PyData) : Prop where
  nv : namesV e = false
  dv : drawV SHEET (.list [e]) = false
  d0 : drawV [] e = false
  w : wdb e = true
  w1 : wdb (.list [e]) = true
  r : ∀ ds, itemsOf e = some ds → ∀ x ∈ ds, StepRd NOW x
  r1 : StepRd NOW e
def noTup (e : PyData) : Bool := !isT e && match itemsOf e with
  | some ds => ds.all fun x => !isT x
  | none => true
theorem odl_dec : ∀ e ∈ ODL, namesV e = false ∧ drawV SHEET (.list [e]) = false ∧ drawV [] e = false ∧ wdb e = true ∧ wdb (.list [e]) = true ∧ noTup e = true := by decide +kernel
theorem rd_no {e : PyData} (h : isT e = false) : StepRd NOW e := fun a b q => by
  rw [q] at h
  cases h
theorem odl_all : ∀ e ∈ ODL, OddE e := fun e he => by
  obtain ⟨a1, a2, a3, a4, a5, a6⟩ := odl_dec e he
  unfold noTup at a6
  rw [Bool.and_eq_true, Bool.not_eq_true'] at a6
  refine ⟨a1, a2, a3, a4, a5, fun ds hd x hx => ?_, rd_no a6.1⟩
  have q := a6.2
  rw [hd] at q
  have := List.all_eq_true.mp q x hx
  rw [Bool.not_eq_true'] at this
  exact rd_no this
abbrev nsLaw : List Str := ["_law_script", "_law_state", "_law_words", "_law_turn", "_law_some", "_law_steps", "_law_tools", "_law_name_here", "_law_deed_here", "_law_tool", "_law_lap", "_law_value", "_law_names", "_law_odd"]
theorem scLaw : FnScope nsLaw ["_law_script"] (defScope sLaw) := ⟨rfl, rfl, rfl, by decide +kernel, rfl, by decide +kernel, by decide +kernel⟩
abbrev lwTurn : List Stmt := forBody ((defBody sLaw).getD 2 (.Pass ⟨0, 0, 0, 0⟩))
abbrev lwLap : List Stmt := forBody (lwTurn.getD 5 (.Pass ⟨0, 0, 0, 0⟩))
abbrev lwOdd : List Stmt := forBody (lwTurn.getD 6 (.Pass ⟨0, 0, 0, 0⟩))
abbrev envLW (K : PySem.W.Frag) (s : Shared) : Env := envOfC "law" (defScope sLaw) s.heap.objs.size (He.ga K "law") (.ref (He.codeOf K ("law", none)))
section
variable {P : Program} {w : World} {K : PySem.W.Frag} {mg : Str → Option Value} {base : Heap} {C : Cs} {O : Os} {dT dN : FuncData} {tn tl : Addr}
theorem lw_odd (Z : All P w K mg C O dT dN) (TB : TabB base mg (He.codeOf K ("law", none)) tl) (A2 : tn ≠ tl) (A : Around) (outer : List Env) (s : Shared) (H : Hp) (E : XK) (hr : Room 11 (A.deeper (envLW K s))) :
    ∃ u, PSs (cxOf CX0 P w K mg base nsLaw "law" (defScope sLaw) (He.ga K "law") (.ref (He.codeOf K ("law", none))) A outer s H E).nox lwOdd u ∧
      ∀ (D : Ends) (G : Hp) (a lw lc : Addr) (t : Nat) (l : Addr) (x : V) (e : PyData) (v0 v1 v2 v3 v4 v6 v10 v11 v12 : Option V) (ds : List (Str × Deed)) (ws : List V), StA G a lw lc t → Tabs (TTs tn tl) G → StepsOk ds → G l = some (.lst ws) → l ∉ [a, lw] → F2 (Dq [a, lw] G) ws (ds.map stepPy) → Dq [a, lw] G x e → OddE e →
        (∀ G', Stay a lw lc t (TTs tn tl) G G' → D.nx [v0, v1, v2, v3, v4, some (.ref l), v6, none, none, none, v10, v11, v12, some x] G') →
        u D [v0, v1, v2, v3, v4, some (.ref l), v6, none, none, none, v10, v11, v12, some x] G := by
  have T := Z.t
  obtain ⟨dNd, _, KN⟩ := Z.kNeeded (base := base)
  obtain ⟨dQ, _, KQ⟩ := Z.kSeq (base := base)
  obtain ⟨dC, FC, gC⟩ := Z.mem1 "_law_caught" sCaught (by simp [FNS])
  have hr10 := hr.mono (show 10 ≤ 11 by decide)
  have hr8 := hr.mono (show 8 ≤ 11 by decide)
  have hr6 := hr.mono (show 6 ≤ 11 by decide)
  have mtl : (tl, qER) ∈ TTs tn tl := List.mem_cons_of_mem _ List.mem_cons_self
  refine ⟨_, pss_cons (ps_if (pt_not (pt_val (pe_callB call_isX (by rfl) T.isi boot_isinstance (pa_cons (pe_caught (k := 8) FC gC (by rfl) Z.gR TB rfl mtl (TTs.e A2) hr10 (sc := defScope sLaw) rfl (lamS_by (by decide +kernel)) rfl (fun _ _ _ _ _ => rfl)
          (fun A' outer' s' H' E' f' c' hrr => pe_call KN.ok hrr (by rfl) KN.g KN.kp KN.b .nil (passes_call (takes_of rfl rfl rfl rfl) fun _ _ _ _ h => h) (pa_cons (pv 5) (pa_cons (pv 13) pa_nil)))) (pa_cons (pe_glob (v := .ref C.n) (by rfl) Z.eN.e.g rfl) pa_nil))))) (pss_one (ps_ret pe_bl)) pss_nil)
    (pss_cons (ps_if (pt_not (pt_val (pe_callB call_isX (by rfl) T.isi boot_isinstance (pa_cons (pe_caught (k := 6) FC gC (by rfl) Z.gR TB rfl mtl (TTs.e A2) hr8 (sc := defScope sLaw) rfl (lamS_by (by decide +kernel)) rfl (fun _ _ _ _ _ => rfl)
          (fun A' outer' s' H' E' f' c' hrr => pe_call KQ.ok hrr (by rfl) KQ.g KQ.kp KQ.b .nil (passes_call (takes_of rfl rfl rfl rfl) fun _ _ _ _ h => h) (pa_cons (pv 5) (pa_cons (pv 13) pa_nil)))) (pa_cons (pe_glob (v := .ref C.n) (by rfl) Z.eN.e.g rfl) pa_nil))))) (pss_one (ps_ret pe_bl)) pss_nil)
    (pss_cons (ps_if (pt_not (pt_val (pe_callB call_isX (by rfl) T.isi boot_isinstance (pa_cons (pe_caught (k := 8) FC gC (by rfl) Z.gR TB rfl mtl (TTs.e A2) hr10 (sc := defScope sLaw) rfl (lamS_by (by decide +kernel)) rfl (fun _ _ _ _ _ => rfl)
          (fun A' outer' s' H' E' f' c' hrr => pe_call KN.ok hrr (by rfl) KN.g KN.kp KN.b .nil (passes_call (takes_of rfl rfl rfl rfl) fun _ _ _ _ h => h) (pa_cons (pe_lst (pa_cons (pv 13) pa_nil)) (pa_cons (pv 13) pa_nil)))) (pa_cons (pe_glob (v := .ref C.w) (by rfl) Z.eW.e.g rfl) pa_nil))))) (pss_one (ps_ret pe_bl)) pss_nil)
    (pss_one (ps_if (pt_cmpR op_notBl (pe_call KQ.ok hr6 (by rfl) KQ.g KQ.kp KQ.b .nil passL (pa_cons (pv 13) (pa_cons (pe_lst pa_nil) pa_nil))) pe_bl (nomark _)) (pss_one (ps_ret pe_bl)) pss_nil)))), ?_⟩
  intro D G a lw lc t l x e v0 v1 v2 v3 v4 v6 v10 v11 v12 ds ws S hT ok hl ol fl hx oe nx
  have l8 := ok.len
  have le : ∀ n : Nat, n ≤ 1000 → n ≤ sizeLine := fun n h => Nat.le_trans h (by decide)
  have DL := DrawD.list (es := ds.map stepPy) (by rw [List.length_map]; omega) ok.g
  have st0 : Stay a lw lc t (TTs tn tl) G G := ⟨S, hT, KpE.refl _ _⟩
  have dok : ∀ {G' : Hp}, Stay a lw lc t (TTs tn tl) G G' → DrawOk NOW G' (.ref l) ds (.list (ds.map stepPy)) := fun h => ⟨⟨.lst (fun z => by cases z) (h.lst ol hl) (DqAll.of (fl.mono fun _ _ q => (h.dq q).none_N)), DL.w, DL.r⟩, rfl, ok.goes, fun s hs => (ok.deed s hs).1⟩
  have ox : ∀ {G' : Hp}, Stay a lw lc t (TTs tn tl) G G' → Dq [] G' x e := fun h => (h.dq hx).none_N
  -- no list of names
  refine ⟨st0.t, fun N1 e1 T1 => ?_⟩
  have st1 := st0.ext e1 T1
  refine ⟨_, rfl, _, rfl, .ref l, x, _, rfl, (dok st1).i, .inr ⟨ds, e, dok st1, ox st1, oe.w, .inl ⟨oe.nv, fun H2 s2 => ⟨true, Z.eN.x, fun _ ea na => ?_, fun z => by cases z⟩⟩⟩⟩
  have u2 := same_upd (o := Caught (.ref C.n) none ea) na
  have st2 := st1.same (s2.trans u2)
  have hea := upd_same (H := H2) (a := ea) (o := Caught (.ref C.n) none ea)
  generalize L2.upd H2 ea (Caught (.ref C.n) none ea) = G2 at st2 hea
  refine ⟨ea, C.n, none, .ref C.n, .ref C.n, true, rfl, hea, rfl, Z.eN.c, .own C.n, kit_self _, true, rfl, ?_⟩
  refine iteF ?_
  refine ⟨st2.t, fun N3 e3 T3 => ?_⟩
  have st3 := st2.ext e3 T3
  refine ⟨_, rfl, _, rfl, .ref l, x, _, e, rfl, (dok st3).i, ox st3, oe.w, .inl ⟨oe.nv, fun H4 s4 => ⟨true, Z.eN.x, fun _ eb nb => ?_, fun z => by cases z⟩⟩⟩
  have u4 := same_upd (o := Caught (.ref C.n) none eb) nb
  have st4 := st3.same (s4.trans u4)
  have heb := upd_same (H := H4) (a := eb) (o := Caught (.ref C.n) none eb)
  generalize L2.upd H4 eb (Caught (.ref C.n) none eb) = G4 at st4 heb
  refine ⟨eb, C.n, none, .ref C.n, .ref C.n, true, rfl, heb, rfl, Z.eN.c, .own C.n, kit_self _, true, rfl, ?_⟩
  refine iteF ?_
  -- no drawing
  refine ⟨st4.t, fun N5 e5 T5 => ?_⟩
  have st5 := st4.ext e5 T5
  refine ⟨_, rfl, le 1 (by decide), fun L1 nL1 => ?_⟩
  have u6 := same_upd (o := .lst [x]) nL1
  have hL1 := upd_same (H := N5) (a := L1) (o := .lst [x])
  have st6 := st5.same u6
  generalize L2.upd N5 L1 (.lst [x]) = G6 at hL1 st6
  refine ⟨_, rfl, .ref L1, x, .list [e], rfl, ⟨.lst (fun z => by cases z) hL1 (.cons (ox st6) .nil), oe.w1, fun ds hd y hy => ?_⟩, .inl ⟨oe.dv, fun H7 s7 => ⟨true, Z.eW.x, fun _ ec nc => ?_, fun z => by cases z⟩⟩⟩
  · injection hd with hd
    rw [← hd] at hy
    rw [List.mem_singleton.mp hy]
    exact oe.r1
  have u7 := same_upd (o := Caught (.ref C.w) none ec) nc
  have st7 := st6.same (s7.trans u7)
  have hec := upd_same (H := H7) (a := ec) (o := Caught (.ref C.w) none ec)
  generalize L2.upd H7 ec (Caught (.ref C.w) none ec) = G7 at st7 hec
  refine ⟨ec, C.w, none, .ref C.w, .ref C.w, true, rfl, hec, rfl, Z.eW.c, .own C.w, kit_self _, true, rfl, ?_⟩
  refine iteF ?_
  refine ⟨_, rfl, le 0 (by decide), fun L2' nL2 => ?_⟩
  have u8 := same_upd (o := .lst []) nL2
  have hL2 := upd_same (H := G7) (a := L2') (o := .lst [])
  have st8 := st7.same u8
  generalize L2.upd G7 L2' (.lst []) = G8 at hL2 st8
  refine ⟨x, .ref L2', e, .list [], rfl, ⟨ox st8, oe.w, oe.r⟩, Dq.names (ns := []) (by simp) hL2, rfl, .inr ⟨[], rfl, ⟨List.nodup_nil, (fun z h => by cases h)⟩, fun H9 s9 => ?_⟩⟩
  rw [oe.d0]
  refine ⟨_, _, rfl, rfl, _, rfl, ?_⟩
  refine iteF ?_
  exact nx _ (st8.same s9)
end
end Own
set_option Elab.async false
set_option linter.all false
set_option maxRecDepth 100000
set_option maxHeartbeats 1000000
namespace Own
open PySem PySem.Spec PyProof.Rows L2 LamX
def LATE : List Str := "o" :: "later" :: []
theorem pickN_ok : NamesOk SHEET ∧ NamesOk LATE := ⟨⟨by decide +kernel, by decide +kernel⟩, ⟨by decide +kernel, by decide +kernel⟩⟩
section
variable {P : Program} {w : World} {K : PySem.W.Frag} {mg : Str → Option Value} {base : Heap} {C : Cs} {O : Os} {dT dN : FuncData} {tn tl : Addr}
theorem lw_lap (Z : All P w K mg C O dT dN) (A : Around) (outer : List Env) (s : Shared) (H : Hp) (E : XK) (hg : (A.deeper (envLW K s)).guards = some []) (hr : Room 11 (A.deeper (envLW K s))) :
    ∃ u, PSs (cxOf CX0 P w K mg base nsLaw "law" (defScope sLaw) (He.ga K "law") (.ref (He.codeOf K ("law", none))) A outer s H E).nox lwLap u ∧
      ∀ (D : Ends) (G : Hp) (a lw lc : Addr) (t : Nat) (l : Addr) (v0 v2 v3 v4 v6 v10 v11 v12 v13 : Option V) (ds : List (Str × Deed)) (ws : List V), StA G a lw lc t → t < 2 ^ 38 → Tabs (TTs tn tl) G → StepsOk ds → G l = some (.lst ws) → l ∉ [a, lw] → F2 (Dq [a, lw] G) ws (ds.map stepPy) →
        (∀ v11 v12 G', Stay a lw lc (t + 11) (TTs tn tl) G G' → D.nx [v0, some (.ref a), v2, v3, v4, some (.ref l), v6, none, none, none, v10, v11, v12, v13] G') →
        u D [v0, some (.ref a), v2, v3, v4, some (.ref l), v6, none, none, none, v10, v11, v12, v13] G := by
  have T := Z.t
  obtain ⟨dC, KC⟩ := Z.kChanged (base := base)
  obtain ⟨dP, KP⟩ := Z.kPick (base := base)
  obtain ⟨dQ, FQ, KQ⟩ := Z.kSeq (base := base)
  obtain ⟨dG, KG⟩ := Z.kLGoes (base := base)
  have kQ := kb_swap FQ (p := "value") (q := "names") fun _ _ _ _ _ _ _ _ => rfl
  have hu1 : (A.deeper (envLW K s)).units + 100 < cLine := by have := hr.un; omega
  have hr3 := hr.mono (show 3 ≤ 11 by decide)
  have hr4 := hr.mono (show 4 ≤ 11 by decide)
  have hr6 := hr.mono (show 6 ≤ 11 by decide)
  refine ⟨_, pss_cons (ps_par (i := 11) (j := 12) (by rfl) scLaw.nd rfl rfl (by decide) rfl rfl (pa_cons (pe_call KC.ok hr4 (by rfl) KC.g KC.kp KC.b .nil pass0 (pa_cons (pv 1) (pa_cons (pv 5) pa_nil))) (pa_cons (pe_call KP.ok hr3 (by rfl) KP.g KP.kp KP.b .nil pass0 (pa_cons (pv 1) (pa_cons (pe_lst (pa_cons (pe_lst (pa_cons pe_str (pa_cons pe_str (pa_cons pe_str (pa_cons pe_str (pa_cons pe_str pa_nil)))))) (pa_cons (pe_lst (pa_cons pe_str (pa_cons pe_str pa_nil))) pa_nil))) pa_nil))) pa_nil)) (by rfl))
    (pss_one (ps_if (pt_cmpR op_ne (pe_callB (call_reprA hg hu1) (by rfl) T.repr (by decide +kernel) (pa_cons (pe_kw0 KQ.ok hr6 (by rfl) KQ.g KQ.kp kQ passL (pk_cons (pv 12) (pk_cons (pv 11) pk_nil))) pa_nil)) (pe_callB (call_reprA hg hu1) (by rfl) T.repr (by decide +kernel) (pa_cons (pe_callG KG.ok hg hr3 (by rfl) KG.g KG.kp KG.b pass0 (pa_cons (pv 11) (pa_cons (pv 12) pa_nil))) pa_nil)) (nomark _)) (pss_one (ps_ret pe_bl)) pss_nil)), ?_⟩
  intro D G a lw lc t l v0 v2 v3 v4 v6 v10 v11 v12 v13 ds ws S ht hT ok hl ol fl nx
  have le : ∀ n : Nat, n ≤ 1000 → n ≤ sizeLine := fun n h => Nat.le_trans h (by decide)
  refine ⟨_, rfl, _, rfl, a, lw, lc, t, l, ws, ds, rfl, S, ht, hl, ol, fl, ok, fun x e G1 hx de S1 K1 => ?_⟩
  refine ⟨_, rfl, le 5 (by decide), fun p1 n1 => ⟨le 2 (by decide), fun p2 n2 => ⟨le 2 (by decide), fun p3 n3 => ?_⟩⟩⟩
  have s1 := same_upd (o := .lst (SHEET.map V.str)) n1
  have h1 := upd_same (H := G1) (a := p1) (o := .lst (SHEET.map V.str))
  have e1 : L2.upd G1 p1 (.lst [V.str "o", .str "u", .str "uu", .str "v", .str "vv"]) = L2.upd G1 p1 (.lst (SHEET.map V.str)) := rfl
  rw [e1] at n2 n3 ⊢
  have o1 := (S1.new n1).1
  have S2 := S1.same s1
  generalize L2.upd G1 p1 (.lst (SHEET.map V.str)) = G2 at s1 h1 S2 n2 n3 ⊢
  have s2 := same_upd (o := .lst (LATE.map V.str)) n2
  have h2 := upd_same (H := G2) (a := p2) (o := .lst (LATE.map V.str))
  have e2 : L2.upd G2 p2 (.lst [V.str "o", .str "later"]) = L2.upd G2 p2 (.lst (LATE.map V.str)) := rfl
  rw [e2] at n3 ⊢
  have o2 := (S2.new n2).1
  have S3 := S2.same s2
  have h13 := s2 _ _ h1
  generalize L2.upd G2 p2 (.lst (LATE.map V.str)) = G3 at s2 h2 S3 n3 h13 ⊢
  have s3 := same_upd (o := .lst [V.ref p1, .ref p2]) n3
  have h3 := upd_same (H := G3) (a := p3) (o := .lst [V.ref p1, .ref p2])
  have o3 := (S3.new n3).1
  have S4 := S3.same s3
  have h14 := s3 _ _ h13
  have h24 := s3 _ _ h2
  generalize L2.upd G3 p3 (.lst [V.ref p1, .ref p2]) = G4 at s3 h3 S4 h14 h24 ⊢
  have s14 := (s1.trans s2).trans s3
  refine ⟨a, lw, lc, _, p3, _, rfl, S4, by omega, h3, fun z => o3 (by simp [z]), by show 0 < 2; decide, by show 2 ≤ 1000; decide, fun i y G5 hy S5 K5 => ?_⟩
  obtain ⟨nb, kn, rfl, okn, lkn, hnb⟩ : ∃ nb kn, y = V.ref nb ∧ NamesOk kn ∧ kn.length ≤ 10 ∧ G5 nb = some (.lst (kn.map V.str)) := by
    match i, hy with
    | 0, hy =>
      cases hy
      exact ⟨p1, SHEET, rfl, pickN_ok.1, by decide, K5 _ _ h14 o1⟩
    | 1, hy =>
      cases hy
      exact ⟨p2, LATE, rfl, pickN_ok.2, by decide, K5 _ _ h24 o2⟩
    | i + 2, hy => cases hy
  have K15 : Kp [a, lw] G G5 := (K1.trans (Kp.of s14)).trans K5
  have st : Stay a lw lc (t + 11) (TTs tn tl) G G5 := ⟨S5.more (by omega), Tabs.kp hT S K15, KpE.of K15⟩
  have hx5 : Dq [a, lw] G5 x e := Dq.keep (KpE.of ((Kp.of s14).trans K5)) _ _ hx
  refine ⟨_, _, rfl, _, rfl, _, rfl, rfl, x, .ref nb, e, .list (kn.map PyData.str), rfl, ⟨hx5.none_N, de.w, de.r⟩, Dq.names (by simp) hnb, (wdb_names okn.ok (by omega)).1, .inr ⟨kn, rfl, okn, fun G6 s6 => ?_⟩⟩
  generalize hb : drawV kn e = b
  obtain ⟨q1, q2, q3, q4, q5⟩ := rp_ok (K := K) (.bl b) (Rp.bool b) (by decide) (by decide) (H := G6)
  refine ⟨_, _, rfl, q1, q2, q3, q4, q5, ?_⟩
  have st6 := st.same s6
  refine ⟨_, rfl, _, rfl, x, nb, e, kn, rfl, (hx5.same s6).none_N, de.w, de.l, s6 _ _ hnb, by omega, fun G7 s7 => ?_⟩
  rw [hb]
  obtain ⟨r1, r2, r3, r4, r5⟩ := rp_ok (K := K) (.bl b) (Rp.bool b) (by decide) (by decide) (H := G7)
  refine ⟨_, _, rfl, r1, r2, r3, r4, r5, ?_⟩
  refine ⟨rfl, _, rfl, ?_⟩
  rw [decide_eq_true rfl]
  refine iteF ?_
  exact nx _ _ _ (st6.same s7)
end
end Own
set_option Elab.async false
set_option linter.all false
set_option maxRecDepth 100000
set_option maxHeartbeats 1000000
namespace Own
open PySem PySem.Spec PyProof.Rows L2 LamX
theorem disp_same {H : Hp} {q : Addr} {kvs : List (Key × V)} (nq : H q = none) : Same H (L2.upd (L2.upd H q (.dK [])) q (.dK kvs)) := fun b o e => by
  rw [upd_ne (ne_of_none e nq), upd_ne (ne_of_none e nq)]
  exact e
def ODT : List (Key × V) := (Sum.inr "a", .int 1) :: []
theorem odt_new : mergeK [] ODT = ODT := by kernel_rfl
theorem F2.ge {α β : Type} {R : α → β → Prop} : ∀ {as : List α} {bs : List β}, F2 R as bs → ∀ {i : Nat} {x : α}, as[i]? = some x → ∃ y, bs[i]? = some y ∧ R x y := fun f _ _ h => f.at_ h
section
variable {P : Program} {w : World} {K : PySem.W.Frag} {mg : Str → Option Value} {base : Heap} {C : Cs} {O : Os} {dT dN : FuncData} {tn tl : Addr}
theorem lw6 (Z : All P w K mg C O dT dN) (TB : TabB base mg (He.codeOf K ("law", none)) tl) (A2 : tn ≠ tl) (A : Around) (outer : List Env) (s : Shared) (H : Hp) (E : XK) (hr : Room 11 (A.deeper (envLW K s))) :
    ∃ u, PSs (cxOf CX0 P w K mg base nsLaw "law" (defScope sLaw) (He.ga K "law") (.ref (He.codeOf K ("law", none))) A outer s H E).nox (lwTurn.drop 6) u ∧
      ∀ (D : Ends) (G : Hp) (a lw lc : Addr) (t : Nat) (l : Addr) (v0 v1 v2 v3 v4 v6 v10 v11 v12 v13 : Option V) (ds : List (Str × Deed)) (ws : List V), StA G a lw lc t → Tabs (TTs tn tl) G → StepsOk ds → G l = some (.lst ws) → l ∉ [a, lw] → F2 (Dq [a, lw] G) ws (ds.map stepPy) →
        (∀ v13 G', Stay a lw lc t (TTs tn tl) G G' → D.nx [v0, v1, v2, v3, v4, some (.ref l), v6, none, none, none, v10, v11, v12, v13] G') →
        u D [v0, v1, v2, v3, v4, some (.ref l), v6, none, none, none, v10, v11, v12, v13] G := by
  obtain ⟨up, pp, hp⟩ := lw_odd Z TB A2 A outer s H E hr
  have hu := hu_of hr
  refine ⟨_, pss_one (ps_for PassesOwn.never rfl (pi_list (pe_lst (pa_cons pe_non (pa_cons pe_str (pa_cons (pe_disp (pps_cons pe_str pe_int pps_nil) (by rfl) (by rfl) (fun z => by cases z) (by decide))
      (pa_cons (pe_lst (pa_cons pe_str (pa_cons pe_str pa_nil))) (pa_cons (pe_lst (pa_cons pe_str (pa_cons pe_int pa_nil))) (pa_cons (pe_lst (pa_cons pe_str pa_nil)) (pa_cons (pe_lst (pa_cons (pe_lst (pa_cons pe_str pa_nil)) pa_nil)) pa_nil))))))))) (pg_name (i := 13) scLaw.nd rfl (Or.inr rfl)) pp), ?_⟩
  intro D G a lw lc t l v0 v1 v2 v3 v4 v6 v10 v11 v12 v13 ds ws S hT ok hl ol fl nx
  have le : ∀ n : Nat, n ≤ 1000 → n ≤ sizeLine := fun n h => Nat.le_trans h (by decide)
  have st0 : Stay a lw lc t (TTs tn tl) G G := ⟨S, hT, KpE.refl _ _⟩
  intro q nq
  refine ⟨upd_same, ODT, rfl, by decide, ?_⟩
  have s1 : Same G (L2.upd (L2.upd G q (.dK [])) q (.dK (mergeK [] ODT))) := disp_same nq
  have hq : (L2.upd (L2.upd G q (.dK [])) q (.dK (mergeK [] ODT))) q = some (.dK ODT) := by rw [upd_same, odt_new]
  generalize L2.upd (L2.upd G q (.dK [])) q (.dK (mergeK [] ODT)) = G1 at s1 hq ⊢
  have oq := (S.new nq).1
  have S1 := S.same s1
  refine ⟨le 2 (by decide), fun b1 m1 => ⟨le 2 (by decide), fun b2 m2 => ⟨le 1 (by decide), fun b3 m3 => ⟨le 1 (by decide), fun b4 m4 => ⟨le 1 (by decide), fun b5 m5 => ⟨le 7 (by decide), fun b6 m6 => ?_⟩⟩⟩⟩⟩⟩
  have t1 := same_upd (o := .lst [V.str "a", .str "a"]) m1
  have g1 := upd_same (H := G1) (a := b1) (o := .lst [V.str "a", .str "a"])
  have o1 := (S1.new m1).1
  have S2 := S1.same t1
  generalize L2.upd G1 b1 (.lst [V.str "a", .str "a"]) = G2 at *
  have t2 := same_upd (o := .lst [V.str "a", .int 5]) m2
  have g2 := upd_same (H := G2) (a := b2) (o := .lst [V.str "a", .int 5])
  have o2 := (S2.new m2).1
  have S3 := S2.same t2
  generalize L2.upd G2 b2 (.lst [V.str "a", .int 5]) = G3 at *
  have t3 := same_upd (o := .lst [V.str "A"]) m3
  have g3 := upd_same (H := G3) (a := b3) (o := .lst [V.str "A"])
  have o3 := (S3.new m3).1
  have S4 := S3.same t3
  generalize L2.upd G3 b3 (.lst [V.str "A"]) = G4 at *
  have t4 := same_upd (o := .lst [V.str "a"]) m4
  have g4 := upd_same (H := G4) (a := b4) (o := .lst [V.str "a"])
  have o4 := (S4.new m4).1
  have S5 := S4.same t4
  generalize L2.upd G4 b4 (.lst [V.str "a"]) = G5 at *
  have t5 := same_upd (o := .lst [V.ref b4]) m5
  have g5 := upd_same (H := G5) (a := b5) (o := .lst [V.ref b4])
  have o5 := (S5.new m5).1
  have S6 := S5.same t5
  generalize L2.upd G5 b5 (.lst [V.ref b4]) = G6 at *
  have t6 := same_upd (o := .lst [V.non, .str "a", .ref q, .ref b1, .ref b2, .ref b3, .ref b5]) m6
  have g6 := upd_same (H := G6) (a := b6) (o := .lst [V.non, .str "a", .ref q, .ref b1, .ref b2, .ref b3, .ref b5])
  have o6 := (S6.new m6).1
  have S7 := S6.same t6
  have fx : F2 (Dq [a, lw] (L2.upd G6 b6 (.lst [V.non, .str "a", .ref q, .ref b1, .ref b2, .ref b3, .ref b5]))) [V.non, .str "a", .ref q, .ref b1, .ref b2, .ref b3, .ref b5] ODL := by
    refine .cons .non (.cons (.str _) (.cons (.dict (kvs := ODT) oq ?_) (.cons (.lst o1 ?_ (.cons (.str _) (.cons (.str _) .nil))) (.cons (.lst o2 ?_ (.cons (.str _) (.cons (.int _) .nil))) (.cons (.lst o3 ?_ (.cons (.str _) .nil)) (.cons (.lst o5 ?_ (.cons (.lst o4 ?_ (.cons (.str _) .nil)) .nil)) .nil))))))
    · exact t6 _ _ (t5 _ _ (t4 _ _ (t3 _ _ (t2 _ _ (t1 _ _ hq)))))
    · exact t6 _ _ (t5 _ _ (t4 _ _ (t3 _ _ (t2 _ _ g1))))
    · exact t6 _ _ (t5 _ _ (t4 _ _ (t3 _ _ g2)))
    · exact t6 _ _ (t5 _ _ (t4 _ _ g3))
    · exact t6 _ _ g5
    · exact t6 _ _ (t5 _ _ g4)
  generalize L2.upd G6 b6 (.lst [V.non, .str "a", .ref q, .ref b1, .ref b2, .ref b3, .ref b5]) = G7 at *
  have st7 := st0.same ((((((s1.trans t1).trans t2).trans t3).trans t4).trans t5).trans t6)
  refine ⟨b6, rfl, ⟨_, SqL.of g6⟩, ?_⟩
  refine for_it walk_list (fun i σ G' => ∃ v13, σ = [v0, v1, v2, v3, v4, some (.ref l), v6, none, none, none, v10, v11, v12, v13] ∧ Stay a lw lc t (TTs tn tl) G7 G') ⟨_, rfl, st7.s, st7.t, KpE.refl _ _⟩ (fun i σ G' _ r => by
    obtain ⟨_, _, st⟩ := r
    exact SqL.of (st.lst o6 g6)) ?_ ?_
  · rintro i v σ Ga Gb hi ⟨v13, rfl, st⟩ ⟨rfl, hv⟩
    obtain ⟨e, he, hd⟩ := fx.at_ hv
    refine hp _ Gb a lw lc t l v e v0 v1 v2 v3 v4 v6 v10 v11 v12 ds ws st.s st.t ok (st.lst ol (st7.lst ol hl)) ol (fl.mono fun _ _ r => st.dq (st7.dq r)) (st.dq hd) (odl_all e (List.mem_of_getElem? he)) fun G' s2 => ?_
    exact ⟨_, rfl, s2.s, s2.t, st.k.trans s2.k⟩
  · rintro σ Ga ⟨v13, rfl, st⟩
    exact nx _ _ ⟨st.s, st.t, st7.k.trans st.k⟩
end
end Own
set_option Elab.async false
set_option linter.all false
set_option maxRecDepth 100000
set_option maxHeartbeats 1000000
namespace Own
open PySem PySem.Spec PyProof.Rows L2 LamX
section
variable {P : Program} {w : World} {K : PySem.W.Frag} {mg : Str → Option Value} {base : Heap} {C : Cs} {O : Os} {dT dN : FuncData} {tn tl : Addr}
theorem lw4 (Z : All P w K mg C O dT dN) (hf : He.ga K "_law_needed_right" = He.fAd K ("_law_needed_right", none)) (TBn : TabB base mg (He.codeOf K ("_law_needed_right", none)) tn) (TB : TabB base mg (He.codeOf K ("law", none)) tl) (A2 : tn ≠ tl) (A : Around) (outer : List Env) (s : Shared) (H : Hp) (E : XK) (hg : (A.deeper (envLW K s)).guards = some []) (hr : Room 11 (A.deeper (envLW K s))) :
    ∃ u, PSs (cxOf CX0 P w K mg base nsLaw "law" (defScope sLaw) (He.ga K "law") (.ref (He.codeOf K ("law", none))) A outer s H E).nox (lwTurn.drop 4) u ∧
      ∀ (D : Ends) (G : Hp) (a lw lc : Addr) (t : Nat) (l : Addr) (v0 v2 v3 v4 v6 v10 v11 v12 v13 : Option V) (ds : List (Str × Deed)) (ws : List V), StA G a lw lc t → t < 2 ^ 37 → Tabs (TTs tn tl) G → StepsOk ds → G l = some (.lst ws) → l ∉ [a, lw] → F2 (Dq [a, lw] G) ws (ds.map stepPy) →
        (∀ v10 v11 v12 v13 G', Stay a lw lc (t + 200) (TTs tn tl) G G' → D.nx [v0, some (.ref a), v2, v3, v4, some (.ref l), v6, none, none, none, v10, v11, v12, v13] G') →
        u D [v0, some (.ref a), v2, v3, v4, some (.ref l), v6, none, none, none, v10, v11, v12, v13] G := by
  have T := Z.t
  obtain ⟨dNR, KNR⟩ := Z.kNR (base := base) hf TBn A2
  obtain ⟨up, pp, hp⟩ := lw_lap (tn := tn) (tl := tl) Z A outer s H E hg hr
  obtain ⟨uq, pq, hq⟩ := lw6 Z TB A2 A outer s H E hr
  refine ⟨_, pss_cons (ps_if (pt_not (pt_val (pe_callG KNR.ok hg hr (by rfl) KNR.g KNR.kp KNR.b pass0 (pa_cons (pv 1) (pa_cons (pv 5) pa_nil))))) (pss_one (ps_ret pe_bl)) pss_nil)
    (pss_cons (ps_for PassesOwn.never rfl (pi_range1 (by rfl) T.range (pa_cons pe_int pa_nil)) (pg_name (i := 10) scLaw.nd rfl (Or.inl rfl)) pp) pq), ?_⟩
  intro D G a lw lc t l v0 v2 v3 v4 v6 v10 v11 v12 v13 ds ws S ht hT ok hl ol fl nx
  have st0 : Stay a lw lc t (TTs tn tl) G G := ⟨S, hT, KpE.refl _ _⟩
  refine ⟨_, rfl, _, rfl, a, lw, lc, t, l, ws, ds, rfl, S, ht, hl, ol, fl, ok, hT, fun G1 st1 => ⟨_, rfl, ?_⟩⟩
  refine iteF ?_
  refine ⟨6, rfl, by decide, by decide, ?_⟩
  refine for_range (lo := 0) (n := 6) (fun i σ G' => ∃ v10 v11 v12 v13, σ = [v0, some (.ref a), v2, v3, v4, some (.ref l), v6, none, none, none, v10, v11, v12, v13] ∧ Stay a lw lc (t + 100 + 11 * i) (TTs tn tl) G G') ⟨v10, v11, v12, v13, rfl, st1⟩ ?_ ?_
  · rintro i σ G2 hi ⟨v10, v11, v12, v13, rfl, st⟩
    refine hp _ G2 a lw lc _ l v0 v2 v3 v4 v6 _ v11 v12 v13 ds ws st.s (by omega) st.t ok (st.lst ol hl) ol (fl.mono fun _ _ r => st.dq r) fun v11 v12 G' st2 => ?_
    exact ⟨_, _, _, _, rfl, st2.s.more (by omega), st2.t, st.k.trans st2.k⟩
  · rintro σ G2 ⟨v10, v11, v12, v13, rfl, st⟩
    refine hq _ G2 a lw lc _ l v0 _ v2 v3 v4 v6 v10 v11 v12 v13 ds ws st.s st.t ok (st.lst ol hl) ol (fl.mono fun _ _ r => st.dq r) fun v13 G' st2 => ?_
    exact nx _ _ _ _ _ ⟨st2.s.more (by omega), st2.t, st.k.trans st2.k⟩
end
end Own
set_option Elab.async false
set_option linter.all false
set_option maxRecDepth 100000
set_option maxHeartbeats 1000000
namespace Own
open PySem PySem.Spec PyProof.Rows L2 LamX
/-! ### the law's turn -/
theorem form_fok : ∀ t ∈ FORM, fok (.str t.1) = true := by decide +kernel
theorem tools_fok : ∀ t ∈ TOOLS, fok (.str t) = true := by decide +kernel
theorem chest_fok (sts : List (Str × Deed)) : ((chestOf sts).map V.str).all fok = true := by
  rw [List.all_map, List.all_eq_true]
  exact fun t ht => tools_fok t (List.mem_filter.mp ht).1
theorem chest_len (sts : List (Str × Deed)) : (chestOf sts).length ≤ 9 := List.length_filter_le _ _
theorem words_fok {ys : List Str} (W : WordsL ys) : (ys.map V.str).all fok = true := by
  rw [List.all_map, List.all_eq_true]
  intro y hy
  obtain ⟨m, k, hm⟩ := W.mem y hy
  exact form_fok _ hm
theorem shaped_flatT (K : PySem.W.Frag) (H : Hp) {xs : List V} (h : xs.all fok = true) : SeqAt.shaped (.tuple (xs.map fd)) = true := by
  obtain ⟨_, a, b⟩ := dp_flat (K := K) (H := H) h
  show (PyData.canLayAll0 (xs.map fd) && decide (PyData.depthAll (xs.map fd) + 1 ≤ 64)) = true
  rw [a, b]
  rfl
theorem cr_setTxK {X : Cx} {K : PySem.W.Frag} {P : Program} {w : World} (hK : X.K = K) (hP : X.prog = P) (hw : X.w = w) (hc : X.calm = true) : CallR X (.type "set") (rSetTx K P w) := by
  subst hK hP hw
  exact cr_setTx hc
theorem cr_sortedTxK {X : Cx} {P : Program} {w : World} (hP : X.prog = P) (hw : X.w = w) (hc : X.calm = true) : CallR X (.builtin "sorted") (rSortedTx P w) := by
  subst hP hw
  exact cr_sortedTx hc
section
variable {P : Program} {w : World} {K : PySem.W.Frag} {mg : Str → Option Value} {base : Heap} {C : Cs} {O : Os} {dT dN : FuncData} {tn tl : Addr}
theorem lw0 (Z : All P w K mg C O dT dN) (hf : He.ga K "_law_needed_right" = He.fAd K ("_law_needed_right", none)) (TBn : TabB base mg (He.codeOf K ("_law_needed_right", none)) tn) (TB : TabB base mg (He.codeOf K ("law", none)) tl) (A2 : tn ≠ tl) (A : Around) (outer : List Env) (s : Shared) (H : Hp) (E : XK) (hg : (A.deeper (envLW K s)).guards = some []) (hr : Room 11 (A.deeper (envLW K s))) :
    ∃ u, PSs (cxOf CX0 P w K mg base nsLaw "law" (defScope sLaw) (He.ga K "law") (.ref (He.codeOf K ("law", none))) A outer s H E).nox lwTurn u ∧
      ∀ (D : Ends) (G : Hp) (a lw lc : Addr) (t : Nat) (pw : Addr) (ys : List Str) (v0 v3 v4 v5 v6 v10 v11 v12 v13 : Option V), StA G a lw lc t → t < 2 ^ 36 → Tabs (TTs tn tl) G → G pw = some (.lst (ys.map V.str)) → pw ∉ [a, lw] → WordsL ys → 5 ≤ ys.length →
        (∀ v4 v5 v6 v10 v11 v12 v13 G', Stay a lw lc (t + 1000) (TTs tn tl) G G' → D.nx [v0, some (.ref a), some (.ref pw), v3, v4, v5, v6, none, none, none, v10, v11, v12, v13] G') →
        u D [v0, some (.ref a), some (.ref pw), v3, v4, v5, v6, none, none, none, v10, v11, v12, v13] G := by
  obtain ⟨up, pp, hp0⟩ := lw4 Z hf TBn TB A2 A outer s H E hg hr
  have T := Z.t
  have hu := hu_of hr
  obtain ⟨dD, KD⟩ := Z.kDraw (base := base)
  obtain ⟨dSh, KSh⟩ := Z.kShuf (base := base)
  obtain ⟨dCh, KCh⟩ := Z.kChain (base := base)
  obtain ⟨dC, FC, KC⟩ := Z.kChest (base := base)
  have kC := kb_one FC (p := "steps") fun _ _ _ _ _ _ _ => rfl
  have hr2 := hr.mono (show 2 ≤ 11 by decide)
  have hr3 := hr.mono (show 3 ≤ 11 by decide)
  have hr5 := hr.mono (show 5 ≤ 11 by decide)
  have hr8 := hr.mono (show 8 ≤ 11 by decide)
  refine ⟨_, pss_cons (ps_set (i := 4) scLaw.nd rfl (.inl rfl) (pe_slice sl_list (pe_call KSh.ok hr3 (by rfl) KSh.g KSh.kp KSh.b .nil pass0 (pa_cons (pv 1) (pa_cons (pv 2) pa_nil))) po_none (po_some (pe_op op_add pe_int (pe_call KD.ok hr2 (by rfl) KD.g KD.kp KD.b .nil pass0 (pa_cons (pv 1) (pa_cons pe_int pa_nil)))))))
    (pss_cons (ps_set (i := 5) scLaw.nd rfl (.inr rfl) (pe_call KCh.ok hr5 (by rfl) KCh.g KCh.kp KCh.b .nil pass0 (pa_cons (pv 1) (pa_cons (pe_call KD.ok hr2 (by rfl) KD.g KD.kp KD.b .nil pass0 (pa_cons (pv 1) (pa_cons pe_int pa_nil))) (pa_cons (pv 4) (pa_cons pe_int pa_nil))))))
    (pss_cons (ps_setLc (i := 6) (own := [("_law_name_here", 7), ("_law_deed_here", 8)]) (g := gTup K 2 (gCons (gName 7) (gCons (gName 8) gNil))) (tt := tYes) (by rfl) scLaw.nd rfl rfl (sw_true rfl rfl rfl (by decide +kernel)) (pi_list (pv 5)) (blkOk_by (own := [("_law_name_here", 7), ("_law_deed_here", 8)]) (N := nsLaw) (sc := defScope sLaw) (by decide +kernel))
          (fun _ _ _ _ _ => pg_tup rfl (pgs_cons (pg_name (i := 7) scLaw.nd rfl (.inl rfl)) (pgs_cons (pg_name (i := 8) scLaw.nd rfl (.inl rfl)) pgs_nil))) (fun _ _ _ _ _ => pts_nil) (fun _ _ _ _ _ => pe_dget2 hu (pe_disp (pps_cons pe_str pe_str (pps_cons pe_str pe_str (pps_cons pe_str pe_str pps_nil))) (by rfl) (by rfl) (fun z => by cases z) (by decide))
            (pe_ix (ix_tupK (K := K) rfl) (pv 8) pe_int (fun _ _ => rfl)) (pe_ix (ix_tupK (K := K) rfl) (pv 8) pe_int (fun _ _ => rfl)) ⟨rfl, rfl, rfl, rfl⟩))
    (pss_cons (ps_if (pt_cmpR (op_neD hr.units) (pe_kw0 KC.ok hr8 (by rfl) KC.g KC.kp kC pass0 (pk_cons (pv 5) pk_nil)) (pe_tupleOf (by rfl) T.tuple (pe_lc (own := [("_law_tool", 9)]) (g := gName 9) (by rfl) scLaw.nd (pi_list (pe_callB (cr_sortedTxK (P := P) (w := w) rfl rfl rfl) (by rfl) T.sorted (by decide +kernel) (pa_cons (pe_callTy (cr_setTxK (K := K) (P := P) (w := w) rfl rfl rfl rfl) (by rfl) T.set (by decide +kernel) (pa_cons (pv 6) pa_nil)) pa_nil)))
          (blkOk_by (own := [("_law_tool", 9)]) (N := nsLaw) (sc := defScope sLaw) (by decide +kernel)) (fun _ _ _ _ _ => pg_name (i := 9) scLaw.nd rfl (Or.inl rfl)) (fun _ _ _ _ _ => pts_one (pt_cmpR op_ne (pv 9) pe_str (nomark _))) (fun _ _ _ _ _ => pv 9))) (nomark _)) (pss_one (ps_ret pe_bl)) pss_nil) pp))), ?_⟩
  intro D G a lw lc t pw ys v0 v3 v4 v5 v6 v10 v11 v12 v13 S ht hT hpw opw W y5 nx
  have le : ∀ n : Nat, n ≤ 1000 → n ≤ sizeLine := fun n h => Nat.le_trans h (by decide)
  have yl := W.most
  have st0 : Stay a lw lc t (TTs tn tl) G G := ⟨S, hT, KpE.refl _ _⟩
  -- some words
  refine ⟨_, rfl, _, rfl, a, lw, lc, t, pw, ys, rfl, S, by omega, hpw, words_fok W, by omega, fun p ms G1 pm lm hms S1 K1 np hp => ?_⟩
  have st1 := st0.kp S1 K1
  refine ⟨_, rfl, a, lw, lc, _, _, rfl, S1, by omega, by decide, by decide, fun z G2 z0 z4 S2 K2 => ?_⟩
  obtain ⟨j, rfl⟩ : ∃ j : Nat, z = (j : Int) := ⟨z.toNat, by omega⟩
  have st2 := st1.kp S2 K2
  have op : p ∉ [a, lw] := (S.new np).1
  have hp2 := K2 _ _ hp op
  refine ⟨_, _, rfl, rfl, _, rfl, p, _, rfl, SqL.of hp2, fun q nq => ?_⟩
  have ec : cutV (ms.map V.str) none (some ((2 : Int) + (j : Int))) = (ms.take (2 + j)).map V.str := by
    have e : (2 : Int) + (j : Int) = ((2 + j : Nat) : Int) := by omega
    rw [e, cut_min, List.map_take]
  rw [ec]
  have s3 := same_upd (o := .lst ((ms.take (2 + j)).map V.str)) nq
  have hq := upd_same (H := G2) (a := q) (o := .lst ((ms.take (2 + j)).map V.str))
  have oq := (S2.new nq).1
  have st3 := st2.same s3
  generalize L2.upd G2 q (.lst ((ms.take (2 + j)).map V.str)) = G3 at hq st3
  have Wq : WordsL (ms.take (2 + j)) := by
    refine ⟨?_, ?_, fun y hy => W.mem y (hms y (List.mem_of_mem_take hy))⟩
    · rw [List.length_take]
      omega
    · rw [List.length_take]
      omega
  -- the steps
  refine ⟨_, rfl, _, rfl, a, lw, lc, _, _, rfl, st3.s, by omega, by decide, by decide, fun z G4 z0 z7 S4 K4 => ?_⟩
  obtain ⟨m, rfl⟩ : ∃ m : Nat, z = (m : Int) := ⟨z.toNat, by omega⟩
  have st4 := st3.kp S4 K4
  refine ⟨_, rfl, a, lw, lc, _, m, q, _, 3, rfl, S4, by omega, by omega, K4 _ _ hq oq, oq, Wq, fun l ws ds G5 so lds f2 ol olc nl hl S5 K5 => ?_⟩
  have st5 := st4.kp S5 K5
  have f2' : F2 (Dq [a, lw] G5) ws (ds.map stepPy) := f2.mono fun _ _ q => Dq.weak (fun b hb => by
    simp only [List.mem_cons, List.not_mem_nil, or_false] at hb ⊢
    rcases hb with h | h
    · exact .inl h
    · exact .inr (.inl h)) _ _ q
  have l8 := so.len
  have len := f2.len
  rw [List.length_map] at len
  -- their tools
  refine ⟨_, rfl, l, rfl, ⟨_, SqL.of hl⟩, fun tw ntw => ?_⟩
  refine lc_it walk_list (fun i G => Same G5 G ∧ G tw = some (.lst (((ds.take i).map fun s => toolS s.2.word).map V.str))) ⟨same_upd ntw, upd_same⟩ (fun i G _ q => SqL.of (q.1 _ _ hl)) ?_ ?_
  · rintro i u GX GY hi ⟨t6, e6⟩ ⟨rfl, hu6⟩
    obtain ⟨e, he, hq0⟩ := f2'.at_ hu6
    rw [List.getElem?_map] at he
    cases ez : ds[i]? with
    | none => rw [ez] at he; cases he
    | some st =>
      rw [ez] at he
      cases he
      obtain ⟨b4, p4, rfl, _, hb4, _, hp4⟩ := dq_stepA (hq0.same t6)
      refine ⟨b4, _, rfl, SqT.of hb4, rfl, _, _, rfl, _, _, rfl, rfl, rfl, yes_if ?_⟩
      intro d nd
      refine ⟨upd_same, OTHK, rfl, by decide, ?_⟩
      have sq := disp_same (kvs := mergeK [] OTHK) nd
      have hd : (L2.upd (L2.upd GY d (.dK [])) d (.dK (mergeK [] OTHK))) d = some (.dK OTHK) := by
        rw [upd_same, oth_new]
      generalize L2.upd (L2.upd GY d (.dK [])) d (.dK (mergeK [] OTHK)) = GZ at sq hd
      have he2 : SqT K GZ p4 st.2.vs := SqT.of (sq _ _ hp4)
      obtain ⟨m', kk, hm, _⟩ := (so.deed st (List.mem_of_getElem? ez)).1
      refine ⟨d, rfl, .inl ⟨_, .inl hd⟩, _, rfl, p4, _, _, _, rfl, rfl, he2, deed_head st.2, _, rfl, p4, _, _, _, rfl, rfl, he2, deed_head st.2, _, DGet.k (k := Sum.inr st.2.word) hd, ?_⟩
      refine ⟨_, sq _ _ e6, ?_, ?_, ?_⟩
      · rw [List.length_map, List.length_map, List.length_take]
        exact Nat.lt_of_le_of_lt (Nat.le_trans (Nat.min_le_right _ _) l8) (by decide)
      · exact fun c o hc => by
          have nc : c ≠ tw := fun z => by rw [z, ntw] at hc; cases hc
          rw [upd_ne nc]
          exact sq _ _ (t6 _ _ hc)
      · rw [upd_same, oth_look _ hm, take_snoc ez, List.map_append, List.map_append]
        rfl
  rintro G6 ⟨s6, htw⟩
  rw [len, List.take_length] at htw
  have st6 := st5.same s6
  have DL := DrawD.list (es := ds.map stepPy) (by rw [List.length_map]; omega) so.g
  have hl6 := s6 _ _ hl
  have f26 := f2'.mono fun _ _ q => q.same s6
  have dok : DrawOk NOW G6 (.ref l) ds (.list (ds.map stepPy)) := ⟨⟨.lst (fun z => by cases z) hl6 (DqAll.of (f26.mono fun _ _ q => q.none_N)), DL.w, DL.r⟩, rfl, so.goes, fun s hs => (so.deed s hs).1⟩
  refine ⟨_, rfl, rfl, .ref l, _, ds, rfl, dok, fun c1 G7 s7 nc1 hc1 => ?_⟩
  -- the law's own chest
  have htw7 := s7 _ _ htw
  refine ⟨_, rfl, tw, _, rfl, SqL.of htw7, by rw [List.length_map]; omega, fun sa nsa => ?_⟩
  have s8 := same_upd (o := TxO P w sa (fun z => z ∈ ds.map fun s => toolS s.2.word) (ds.map fun s => toolS s.2.word).length) nsa
  have hsa := upd_same (H := G7) (a := sa) (o := TxO P w sa (fun z => z ∈ ds.map fun s => toolS s.2.word) (ds.map fun s => toolS s.2.word).length)
  generalize L2.upd G7 sa (TxO P w sa (fun z => z ∈ ds.map fun s => toolS s.2.word) (ds.map fun s => toolS s.2.word).length) = G8 at s8 hsa
  refine ⟨sa, _, _, rfl, hsa, by rw [List.length_map]; omega, fun p9 zs nd so9 mem lz np9 => ?_⟩
  have s9 := same_upd (o := .lst (zs.map V.str)) np9
  have h9 := upd_same (H := G8) (a := p9) (o := .lst (zs.map V.str))
  generalize L2.upd G8 p9 (.lst (zs.map V.str)) = G9 at s9 h9
  rw [List.length_map] at lz
  refine ⟨p9, rfl, ⟨_, SqL.of h9⟩, fun D2 nD2 => ?_⟩
  refine lc_filt (p := fun x => decide (strV x ≠ "")) walk_list nD2 (by rw [List.length_map]; exact Nat.lt_of_le_of_lt (show zs.length ≤ 8 by omega) (by decide)) (fun H' s' => SqL.of (s' _ _ h9)) (by show 9 < 14; decide) (fun x H' hx sH R kR => ?_) fun G10 s10 eD2 => ?_
  · obtain ⟨y, hy, rfl⟩ := List.mem_map.mp hx
    refine ⟨_, rfl, rfl, _, rfl, ?_⟩
    have e : (!decide (V.str y = V.str "")) = decide (strV (V.str y) ≠ "") := by
      rw [decStr, ← decide_not]
      rfl
    rw [e]
    exact kR H' (Same.refl _)
  have ef : (zs.map V.str).filter (fun x => decide (strV x ≠ "")) = (chestOf ds).map V.str := by
    rw [List.filter_map, ← chest_sorted (fun s hs => (so.deed s hs).1) nd so9 mem]
    rfl
  rw [ef] at eD2
  refine .inl ⟨D2, _, rfl, SqL.of eD2, fun p11 np11 => ?_⟩
  have s11 := same_upd (o := .tup ((chestOf ds).map V.str)) np11
  have h11 := upd_same (H := G10) (a := p11) (o := .tup ((chestOf ds).map V.str))
  generalize L2.upd G10 p11 (.tup ((chestOf ds).map V.str)) = G11 at s11 h11
  have s711 := ((s8.trans s9).trans s10).trans s11
  have fk := chest_fok ds
  refine ⟨_, _, .tup (SqT.of (s711 _ _ hc1)) (dp_flat fk).1, .tup (SqT.of h11) (dp_flat fk).1, shaped_flatT K G11 fk, shaped_flatT K G11 fk, ?_⟩
  rw [SeqAt.eqv_refl _ (SeqAt.canLay_of_shaped (shaped_flatT K G11 fk))]
  refine ⟨_, rfl, ?_⟩
  refine iteF ?_
  have s611 := s7.trans s711
  have st11 := st6.same s611
  refine hp0 _ G11 a lw lc _ l v0 _ v3 _ _ v10 v11 v12 v13 ds ws st11.s (by omega) st11.t so (s611 _ _ hl6) ol (f26.mono fun _ _ q => q.same s611) fun v10 v11 v12 v13 G' st => ?_
  exact nx _ _ _ _ _ _ _ _ ⟨st.s.more (by omega), st.t, st11.k.trans st.k⟩
end
end Own
set_option Elab.async false
set_option linter.all false
set_option maxRecDepth 100000
set_option maxHeartbeats 1000000
namespace Own
open PySem PySem.Spec PyProof.Rows L2 LamX
/-! ### the law -/
theorem fk_keys : FK.map (·.1) = (FORM.map (·.1)).map Sum.inr := by decide +kernel
/-- the law's promise, its code objects' tables being empty -/
def spLaw (K : PySem.W.Frag) (tn tl : Addr) : Sp := fun vs H Q _ => ∃ (a : Addr) (ns : List Int), vs = [.ref a] ∧ SqL K H a (ns.map V.int) ∧ ns.length ≤ 63 ∧ H tn = some (.tbl #[]) ∧ H tl = some (.tbl #[]) ∧ ∀ H', Q (.bl true) H'
section
variable {P : Program} {w : World} {K : PySem.W.Frag} {mg : Str → Option Value} {base : Heap} {C : Cs} {O : Os} {dT dN : FuncData} {tn tl : Addr}
theorem ok_law {fd2 : FuncData} (F : FnP K "law" sLaw (He.ga K "law") fd2) (hfL : He.ga K "law" = He.fAd K ("law", none)) (hf : He.ga K "_law_needed_right" = He.fAd K ("_law_needed_right", none))
    (Z : All P w K mg C O dT dN) (A2 : tn ≠ tl) (TBn : TabB base mg (He.codeOf K ("_law_needed_right", none)) tn) (TB : TabB base mg (He.codeOf K ("law", none)) tl) :
    FnOkG P w K mg base CX0 12 (He.ga K "law") fd2 ["_law_script"] (spLaw K tn tl) := by
  have T := Z.t
  obtain ⟨dG, KG⟩ := Z.kBegun (base := base)
  obtain ⟨dF, KF⟩ := Z.kForms (base := base)
  obtain ⟨dQ, FQ, KQ⟩ := Z.kSeq (base := base)
  obtain ⟨dC, FC, KC⟩ := Z.kChest (base := base)
  refine FunD.okG F scLaw rfl (fun vs H Q E h => ?_) (fun cdv A outer s H vs Q E hlk hcd hg hr h => ?_)
  · obtain ⟨a, ns, rfl, _⟩ := h
    rfl
  · have ec := code_is hfL hlk hcd
    subst ec
    obtain ⟨up, pp, hp⟩ := lw0 Z hf TBn TB A2 A outer s H E hg hr
    obtain ⟨sa, ns, rfl, hS, hl, hTn, hTl, k⟩ := h
    have hr1 := hr.mono (show 1 ≤ 11 by decide)
    have hr6 := hr.mono (show 6 ≤ 11 by decide)
    have hr8 := hr.mono (show 8 ≤ 11 by decide)
    refine ⟨_, PSsT.nox (PSsT.of (pss_cons (ps_set (i := 1) scLaw.nd rfl (.inl rfl) (pe_call KG.ok hr1 (by rfl) KG.g KG.kp KG.b .nil pass0 (pa_cons (pv 0) pa_nil)))
      (pss_cons (ps_set (i := 2) scLaw.nd rfl (.inl rfl) (pe_callB (call_sortedD rfl) (by rfl) T.sorted (by decide +kernel) (pa_cons (pe_call0 KF.ok hr1 (by rfl) KF.g KF.kp KF.b .nil pass0) pa_nil)))
      (pss_cons (ps_for PassesOwn.never rfl (pi_range1 (by rfl) T.range (pa_cons (pe_op op_add pe_int (pe_callB (call_min2 rfl) (by rfl) T.min (by decide +kernel) (pa_cons (pe_callB call_len_seq (by rfl) T.len PySem.boot_len (pa_cons (pv 0) pa_nil)) (pa_cons pe_int pa_nil)))) pa_nil)) (pg_name (i := 3) scLaw.nd rfl (Or.inl rfl)) pp)
      (pss_one (ps_ret (pe_and (pe_cmpR op_isBl (pe_call KQ.ok hr6 (by rfl) KQ.g KQ.kp KQ.b .nil passL (pa_cons (pe_lst pa_nil) (pa_cons (pe_lst pa_nil) pa_nil))) pe_bl (nomark _)) (pe_one (pe_cmpR (op_eqD hr.units) (pe_call KC.ok hr8 (by rfl) KC.g KC.kp KC.b .nil pass0 (pa_cons (pe_tup pa_nil) pa_nil)) (pe_tup pa_nil) (nomark _)))))))))), ?_⟩
    have le : ∀ n : Nat, n ≤ 1000 → n ≤ sizeLine := fun n h => Nat.le_trans h (by decide)
    refine ⟨_, rfl, sa, ns, rfl, hS, hl, fun a lw lc H1 na nw nc S1 e1 => ?_⟩
    refine ⟨rfl, fun fo H2 s2 nfo hfo => ⟨fo, FK, FORM.map (·.1), rfl, .inl hfo, fk_keys, by decide, fun ys pw pm _ npw => ?_⟩⟩
    have s3 := same_upd (o := .lst (ys.map V.str)) npw
    have hpw := upd_same (H := H2) (a := pw) (o := .lst (ys.map V.str))
    have S2 := S1.same s2
    have opw := (S2.new npw).1
    have S3 := S2.same s3
    have e3 := (e1.trans s2).trans s3
    generalize L2.upd H2 pw (.lst (ys.map V.str)) = H3 at s3 hpw S3 e3
    have T3 : Tabs (TTs tn tl) H3 := fun p hp => by
      rcases TTs.cases hp with rfl | rfl
      · exact TabS.nil (e3 _ _ hTn)
      · exact TabS.nil (e3 _ _ hTl)
    have yl : ys.length = 11 := pm.length_eq
    have W : WordsL ys := by
      refine ⟨by omega, by omega, fun y hy => ?_⟩
      obtain ⟨⟨wd, m, kk⟩, hm, rfl⟩ := List.mem_map.mp (pm.mem_iff.mp hy)
      exact ⟨m, kk, hm⟩
    refine ⟨_, rfl, sa, _, rfl, .inl (e3.seq hS), _, _, rfl, _, _, rfl, rfl, _, rfl, ?_, ?_, ?_⟩
    · omega
    · rw [List.length_map]
      omega
    generalize hn : ((1 : Int) + (if (2 : Int) < ((ns.map V.int).length : Nat) then 2 else (((ns.map V.int).length : Nat) : Int))).toNat = n
    have hn8 : n ≤ 3 := by
      rw [← hn]
      split <;> omega
    refine for_range (lo := 0) (n := n) (fun i σ G => ∃ (v3 v4 v5 v6 v10 v11 v12 v13 : Option V), σ = [some (.ref sa), some (.ref a), some (.ref pw), v3, v4, v5, v6, none, none, none, v10, v11, v12, v13] ∧ Stay a lw lc (1000 * i) (TTs tn tl) H3 G)
      ⟨none, none, none, none, none, none, none, none, rfl, S3, T3, KpE.refl _ _⟩ ?_ ?_
    · rintro i σ G hi ⟨v3, v4, v5, v6, v10, v11, v12, v13, rfl, st⟩
      refine hp _ G a lw lc _ pw ys _ _ v4 v5 v6 v10 v11 v12 v13 st.s (by omega) st.t (st.lst opw hpw) opw W (by omega) fun v4 v5 v6 v10 v11 v12 v13 G' st2 => ?_
      exact ⟨_, _, _, _, _, _, _, _, rfl, st2.s.more (by omega), st2.t, st.k.trans st2.k⟩
    · rintro σ G ⟨v3, v4, v5, v6, v10, v11, v12, v13, rfl, st⟩
      refine ⟨le 0 (by decide), fun l0 nl0 => ⟨le 0 (by decide), fun l1 nl1 => ?_⟩⟩
      have s4 := same_upd (o := .lst []) nl0
      have h4 := upd_same (H := G) (a := l0) (o := .lst [])
      generalize L2.upd G l0 (.lst []) = G4 at s4 h4 nl1 ⊢
      have s5 := same_upd (o := .lst []) nl1
      have h5 := upd_same (H := G4) (a := l1) (o := .lst [])
      have h45 := s5 _ _ h4
      generalize L2.upd G4 l1 (.lst []) = G5 at s5 h5 h45 ⊢
      refine ⟨.ref l0, .ref l1, .list [], .list [], rfl, ⟨.lst (fun z => by cases z) h45 .nil, by decide +kernel, fun ds e x hx => by injection e with e; rw [← e] at hx; cases hx⟩, Dq.names (ns := []) (by simp) h5, rfl, .inr ⟨[], rfl, ⟨List.nodup_nil, (fun z h => by cases h)⟩, fun G6 s6 => ?_⟩⟩
      refine ⟨_, _, rfl, rfl, ?_⟩
      refine ⟨_, rfl, ?_⟩
      refine ⟨le 0 (by decide), fun l2 nl2 => ?_⟩
      have s7 := same_upd (o := .tup []) nl2
      have h7 := upd_same (H := G6) (a := l2) (o := .tup [])
      generalize L2.upd G6 l2 (.tup []) = G7 at s7 h7 ⊢
      refine ⟨.ref l2, .tuple [], [], rfl, ⟨⟨.tup (fun z => by cases z) h7 .nil, by decide +kernel, fun ds e x hx => by injection e with e; rw [← e] at hx; cases hx⟩, rfl, rfl, fun s hs => by cases hs⟩, fun p8 G8 s8 np8 hp8 => ⟨le 0 (by decide), fun l9 nl9 => ?_⟩⟩
      have s9 := same_upd (o := .tup []) nl9
      have h9 := upd_same (H := G8) (a := l9) (o := .tup [])
      generalize L2.upd G8 l9 (.tup []) = G9 at s9 h9 ⊢
      refine ⟨.tuple [], .tuple [], .tup (SqT.of (s9 _ _ hp8)) .nil, .tup (SqT.of h9) .nil, rfl, rfl, ?_⟩
      exact k _
end
end Own
set_option Elab.async false
set_option linter.all false
set_option maxRecDepth 100000
set_option maxHeartbeats 400000
namespace Own
open PySem PySem.Spec PyProof.Rows L2
/-! ### a hook that looks at chosen objects only -/
abbrev Sel : Type := (Addr → Option Obj) → List Addr
/-- the objects that the names stand for -/
def atNames (g : Addr → Option Obj) (xs : List Str) : List Addr := xs.map (He.ga (He.frG g [mainGlobals]))
def growN (g : Addr → Option Obj) : Nat → List Addr → List Addr
  | 0, l => l
  | n + 1, l => growN g n (He.growD g l)
/-- the defs with their code, the classes and tables so many steps deep -/
def selZ (defs : List Str) (deep : List (Nat × List Str)) : Sel := fun g => mainGlobals :: (growN g 1 (atNames g defs) ++ deep.flatMap fun q => growN g q.1 (atNames g q.2))
def KZ (sel : Sel) (g : Addr → Option Obj) : PySem.W.Frag := He.frT g (sel g)
def obsZ (sel : Sel) (fa : List He.Fa) (fn : List He.DefD) (ts : List He.Tab) (tf : List He.Defn) (ex : PySem.W.Frag → Bool) (g : Addr → Option Obj) : He.AlX :=
  (He.obsT fa fn ts (KZ sel g), ex (KZ sel g) && He.tabsB g tf (KZ sel g))
theorem saysZ_of {sel : Sel} {fa : List He.Fa} {fn : List He.DefD} {ts : List He.Tab} {tf : List He.Defn} {ex : PySem.W.Frag → Bool} {w : World} {h : Heap} (e : obsZ sel fa fn ts tf ex h.get? = He.valX fn ts w) : He.SaysX fa fn ts tf ex w h (KZ sel h.get?) := by
  have eT : He.obsT fa fn ts (KZ sel h.get?) = He.valT fn ts w := congrArg (fun z : He.AlX => z.1) e
  have eB : (ex (KZ sel h.get?) && He.tabsB h.get? tf (KZ sel h.get?)) = true := congrArg (fun z : He.AlX => z.2) e
  obtain ⟨b1, b2⟩ := He.ba eB
  have one : ∀ p ∈ tf, PySem.W.codeHdIn (KZ sel h.get?) (He.cT (KZ sel h.get?) p).1 (He.cT (KZ sel h.get?) p).2 = true ∧ ∃ o, h.get? (He.cT (KZ sel h.get?) p).2 = some o ∧ He.emptyTab o = true := fun p hp => by
    obtain ⟨c1, c2⟩ := He.ba (List.all_eq_true.mp b2 p hp)
    refine ⟨c1, ?_⟩
    cases q : h.get? (He.cT (KZ sel h.get?) p).2 with
    | none => rw [q] at c2; cases c2
    | some o => rw [q] at c2; exact ⟨o, rfl, c2⟩
  refine ⟨eT, b1, fun p hp => (one p hp).1, fun p hp => ?_, fun p hp => ?_⟩
  · obtain ⟨_, o, q, z⟩ := one p hp
    exact He.frT_none q z
  · obtain ⟨_, o, q, z⟩ := one p hp
    rw [q, He.emptyTab_eq z]
def hookZ (sel : Sel) (fa : List He.Fa) (fn : List He.DefD) (ts : List He.Tab) (tf : List He.Defn) (ex : PySem.W.Frag → Bool) : PySem.W.Hook where
  α := He.AlX
  obs := fun s => obsZ sel fa fn ts tf ex s.heap.get?
  val := fun w => He.valX fn ts w
  says := fun w h => ∃ K : PySem.W.Frag, K.In h ∧ He.SaysX fa fn ts tf ex w h K
  of := fun _ _ e => ⟨_, He.frT_in, saysZ_of e⟩
  keeps := fun _ _ _ z k => by
    obtain ⟨K, inK, c⟩ := z
    exact ⟨K, PySem.W.Frag.In.keeps inK k, ⟨c.t, c.more, c.hd, c.out, fun p hp => k _ _ (c.empty p hp)⟩⟩
theorem obsZ_eq {sel : Sel} {fa : List He.Fa} {fn : List He.DefD} {ts : List He.Tab} {tf : List He.Defn} {ex : PySem.W.Frag → Bool} {g : Addr → Option Obj} {s : Shared} (h : ∀ a, g a = s.heap.get? a) : obsZ sel fa fn ts tf ex g = (hookZ sel fa fn ts tf ex).obs s := by
  have e : g = s.heap.get? := funext h
  subst e
  rfl
end Own
set_option Elab.async false
set_option linter.all false
set_option maxRecDepth 100000
set_option maxHeartbeats 1000000
namespace Own
open PySem PySem.Spec PyProof.Rows L2
/-! ### a hook that also holds the statics, and tells of functions with closures -/
abbrev InitW : Type := Option (Str × Str × Arguments × FuncBody × Scope × Addr × List Str × Addr)
def initW (K : PySem.W.Frag) (p : He.Defn) : InitW := match K.lookup (He.fAd K p) with
  | some ⟨_, _, .func fd, _⟩ => some (fd.name, fd.qualname, fd.params, fd.body, fd.scope, fd.globals, fd.closure.map (·.1), fd.builtins)
  | _ => none
def KOf (n : Nat) (g : Addr → Option Obj) : PySem.W.Frag := He.frT g (cStatics :: He.asD g n)
abbrev AlY : Type := He.AlX × List InitW
def obsY (n : Nat) (fa : List He.Fa) (fn : List He.DefD) (tf : List He.Defn) (ex : PySem.W.Frag → Bool) (ini : List (He.Defn × InitW)) (g : Addr → Option Obj) : AlY :=
  ((He.obsT fa fn [] (KOf n g), ex (KOf n g) && He.tabsB g tf (KOf n g)), ini.map fun p => initW (KOf n g) p.1)
def valY (fn : List He.DefD) (ini : List (He.Defn × InitW)) (w : World) : AlY := (He.valX fn [] w, ini.map (·.2))
structure SaysY (fa : List He.Fa) (fn : List He.DefD) (tf : List He.Defn) (ex : PySem.W.Frag → Bool) (ini : List (He.Defn × InitW)) (w : World) (h : Heap) (K : PySem.W.Frag) : Prop where
  x : He.SaysX fa fn [] tf ex w h K
  i : ∀ p ∈ ini, initW K p.1 = p.2
theorem map_mem_eq {α β : Type} {f g : α → β} : ∀ {l : List α}, l.map f = l.map g → ∀ p ∈ l, f p = g p
  | [], _, p, hp => by cases hp
  | a :: r, h, p, hp => by
    injection h with h1 h2
    rcases List.mem_cons.mp hp with rfl | hp
    · exact h1
    · exact map_mem_eq h2 p hp
theorem saysY_of {n : Nat} {fa : List He.Fa} {fn : List He.DefD} {tf : List He.Defn} {ex : PySem.W.Frag → Bool} {ini : List (He.Defn × InitW)} {w : World} {h : Heap} (e : obsY n fa fn tf ex ini h.get? = valY fn ini w) : SaysY fa fn tf ex ini w h (KOf n h.get?) := by
  have eT : He.obsT fa fn [] (KOf n h.get?) = He.valT fn [] w := congrArg (fun z : AlY => z.1.1) e
  have eB : (ex (KOf n h.get?) && He.tabsB h.get? tf (KOf n h.get?)) = true := congrArg (fun z : AlY => z.1.2) e
  have eI : ini.map (fun p => initW (KOf n h.get?) p.1) = ini.map (·.2) := congrArg (fun z : AlY => z.2) e
  obtain ⟨b1, b2⟩ := He.ba eB
  have one : ∀ p ∈ tf, PySem.W.codeHdIn (KOf n h.get?) (He.cT (KOf n h.get?) p).1 (He.cT (KOf n h.get?) p).2 = true ∧ ∃ o, h.get? (He.cT (KOf n h.get?) p).2 = some o ∧ He.emptyTab o = true := fun p hp => by
    obtain ⟨c1, c2⟩ := He.ba (List.all_eq_true.mp b2 p hp)
    refine ⟨c1, ?_⟩
    cases q : h.get? (He.cT (KOf n h.get?) p).2 with
    | none => rw [q] at c2; cases c2
    | some o => rw [q] at c2; exact ⟨o, rfl, c2⟩
  refine ⟨⟨eT, b1, fun p hp => (one p hp).1, fun p hp => ?_, fun p hp => ?_⟩, fun p hp => map_mem_eq eI p hp⟩
  · obtain ⟨_, o, q, z⟩ := one p hp
    exact He.frT_none q z
  · obtain ⟨_, o, q, z⟩ := one p hp
    rw [q, He.emptyTab_eq z]
def hookY (n : Nat) (fa : List He.Fa) (fn : List He.DefD) (tf : List He.Defn) (ex : PySem.W.Frag → Bool) (ini : List (He.Defn × InitW)) : PySem.W.Hook where
  α := AlY
  obs := fun s => obsY n fa fn tf ex ini s.heap.get?
  val := fun w => valY fn ini w
  says := fun w h => ∃ K : PySem.W.Frag, K.In h ∧ SaysY fa fn tf ex ini w h K
  of := fun _ _ e => ⟨_, He.frT_in, saysY_of e⟩
  keeps := fun _ _ _ z k => by
    obtain ⟨K, inK, c⟩ := z
    exact ⟨K, PySem.W.Frag.In.keeps inK k, ⟨⟨c.x.t, c.x.more, c.x.hd, c.x.out, fun p hp => k _ _ (c.x.empty p hp)⟩, c.i⟩⟩
theorem obsY_eq {n : Nat} {fa : List He.Fa} {fn : List He.DefD} {tf : List He.Defn} {ex : PySem.W.Frag → Bool} {ini : List (He.Defn × InitW)} {g : Addr → Option Obj} {s : Shared} (h : ∀ a, g a = s.heap.get? a) : obsY n fa fn tf ex ini g = (hookY n fa fn tf ex ini).obs s := by
  have e : g = s.heap.get? := funext h
  subst e
  rfl
/-! ### what the head says of an error class with one field -/
def clsB (K : PySem.W.Frag) (C : Addr) : Bool := match K.lookup C with
  | some ⟨.type "type", _, .cls cd, sl⟩ => (match cd.mro, sl.toList with
    | .ref C2 :: bm, [_, _, _, _, some (.builtin m), _] => decide (C2 = C) && (decide (m = "ValueError.__new__") && (!cd.hasDel && (cd.hasDict && PySem.HandSPX.refsVE bm)))
    | _, _ => false)
  | _ => false
theorem clsB_ok {K : PySem.W.Frag} {C : Addr} (h : clsB K C = true) : ∃ nm q N bs bm sn sub ab col dd k0 k1 k2 k3 k5, K.lookup C = some (PySem.excClassObj nm q C N bs bm true sn sub ab col dd k0 k1 k2 k3 k5 "ValueError.__new__") ∧ PySem.HandSPX.refsVE bm = true := by
  unfold clsB at h
  split at h
  · rename_i dd cd sl ho
    split at h
    · rename_i C2 bm k0 k1 k2 k3 m k5 hm hs
      obtain ⟨h1, h⟩ := He.ba h
      obtain ⟨h2, h⟩ := He.ba h
      obtain ⟨h3, h⟩ := He.ba h
      obtain ⟨h4, h5⟩ := He.ba h
      have e1 := of_decide_eq_true h1
      have e2 := of_decide_eq_true h2
      subst e1 e2
      obtain ⟨nm, bs, mro, ns, qn, hd, sn, sub, ab, col, del⟩ := cd
      dsimp only at hm h3 h4
      have h3' : del = false := by simpa using h3
      subst hm h3' h4
      obtain ⟨l⟩ := sl
      dsimp only at hs
      subst hs
      exact ⟨nm, qn, ns, bs, bm, sn, sub, ab, col, dd, k0, k1, k2, k3, k5, ho, h5⟩
    · cases h
  · cases h
def fileB (K : PySem.W.Frag) (a : Addr) (file : Str) : Bool := match K.lookup a with
  | some ⟨_, _, .fields vs, _⟩ => (match vs[(2 : Nat)]? with
    | some (Value.str f _) => decide (f = file)
    | _ => false)
  | _ => false
theorem fileB_ok {K : PySem.W.Frag} {a : Addr} {file : Str} (h : fileB K a file = true) : ∃ c d vs sl t, K.lookup a = some ⟨c, d, .fields vs, sl⟩ ∧ vs[2]? = some (.str file t) := by
  unfold fileB at h
  split at h
  · rename_i c d vs sl ho
    split at h
    · rename_i f t hv
      have e := of_decide_eq_true h
      subst e
      exact ⟨c, d, vs, sl, t, ho, hv⟩
    · cases h
  · cases h
def cellB (K : PySem.W.Frag) (a C : Addr) : Bool := match K.lookup a with
  | some ⟨_, _, .cell (some (.ref c)), _⟩ => decide (c = C)
  | _ => false
theorem cellB_ok {K : PySem.W.Frag} {a C : Addr} (h : cellB K a C = true) : ∃ c d sl, K.lookup a = some ⟨c, d, .cell (some (.ref C)), sl⟩ := by
  unfold cellB at h
  split at h
  · rename_i c d c2 sl ho
    have e := of_decide_eq_true h
    subst e
    exact ⟨c, d, sl, ho⟩
  · cases h
def fnB (K : PySem.W.Frag) (C fI : Addr) (file : Str) : Bool := match K.lookup fI with
  | some ⟨_, _, .func fd, _⟩ => (match fd.defaults, fd.code, fd.closure with
    | .none, .ref cda, [(_, cc)] => PySem.W.codeIn K (.ref cda) fd.qualname && (fileB K cda file && cellB K cc C)
    | _, _, _ => false)
  | _ => false
theorem fnB_ok {K : PySem.W.Frag} {C : Addr} {p : He.Defn} {file qual : Str} {params : Arguments} {body : List Stmt} {scope : Scope} (h : fnB K C (He.fAd K p) file = true) (hi : initW K p = some (("__init__" : Str), qual, params, FuncBody.stmts body, scope, mainGlobals, [("__class__" : Str)], builtinsNs)) :
    ∃ (cc cda : Addr) (oc ccl cl : Value) (od cdd cld : Option Addr) (kV doc pm : Value) (an : Option Addr) (ct : Value) (osl ccs csl : Array (Option Value)) (vs : Array Value) (tf : Tok),
      K.lookup (He.fAd K p) = some ⟨oc, od, .func (PySem.W.fnX "__init__" qual params body scope [("__class__", cc)] .none kV doc pm an (.ref cda) ct), osl⟩ ∧ PySem.W.codeIn K (.ref cda) qual = true ∧
      K.lookup cda = some ⟨ccl, cdd, .fields vs, ccs⟩ ∧ vs[2]? = some (.str file tf) ∧ K.lookup cc = some ⟨cl, cld, .cell (some (.ref C)), csl⟩ := by
  unfold fnB at h
  unfold initW at hi
  split at h
  · rename_i oc od fd osl ho
    rw [ho] at hi
    have hi2 : (fd.name, fd.qualname, fd.params, fd.body, fd.scope, fd.globals, fd.closure.map (·.1), fd.builtins) = (("__init__" : Str), qual, params, FuncBody.stmts body, scope, mainGlobals, [("__class__" : Str)], builtinsNs) := Option.some.inj hi
    split at h
    · rename_i cda n cc h1 h2 h3
      obtain ⟨g1, g⟩ := He.ba h
      obtain ⟨g2, g3⟩ := He.ba g
      obtain ⟨ccl, cdd, vs, ccs, tf, q1, q2⟩ := fileB_ok g2
      obtain ⟨cl, cld, csl, q3⟩ := cellB_ok g3
      obtain ⟨nm, qn, pr, bd, sc, gb, clo, df, kV, doc, pm, an, cd, ct, bi⟩ := fd
      dsimp only at h1 h2 h3 hi2 g1
      subst h1 h2 h3
      injection hi2 with i1 hi2
      injection hi2 with i2 hi2
      injection hi2 with i3 hi2
      injection hi2 with i4 hi2
      injection hi2 with i5 hi2
      injection hi2 with i6 hi2
      injection hi2 with i7 i8
      have en : n = ("__class__" : Str) := by
        have : [n] = [("__class__" : Str)] := i7
        injection this
      subst i1 i2 i3 i4 i5 i6 i8 en
      exact ⟨cc, cda, oc, ccl, cl, od, cdd, cld, kV, doc, pm, an, ct, osl, ccs, csl, vs, tf, ho, g1, q1, q2, q3⟩
    · cases h
  · cases h
def supB (K : PySem.W.Frag) (t : SupX.Txt) (file : Str) : Bool :=
  He.eqO (PySem.W.findIn K (.ref (He.ga K t.x)) "__setattr__") (some (some (.builtin "object.__setattr__"))) && (He.eqO (PySem.W.findIn K (.ref (He.ga K t.x)) t.f) (some none) && (He.eqO (PySem.W.findIn K (.ref (He.ga K t.x)) "__init__") (some (some (.ref (He.fAd K (t.x, some "__init__"))))) &&
  (decide (PySem.W.typeIn K (.ref (He.fAd K (t.x, some "__init__"))) = some (.type "function")) && (PySem.W.keepIn K (.ref (He.ga K t.x)) && (decide (PySem.W.subIn K (.ref (He.ga K t.x)) (.type "BaseException") = some true) && (decide (PySem.W.typeIn K (.ref (He.ga K t.x)) = some (.type "type")) &&
  (decide (PySem.W.subIn K (.ref (He.ga K t.x)) (.type "ValueError") = some true) && (decide (PySem.W.mroIn K (He.ga K t.x) (.ref (He.ga K t.x)) = some true) && (He.eqO (PySem.W.ks_superIn K (He.ga K t.x) (He.ga K t.x) "__init__") (some (some (.builtin "ValueError.__init__"))) &&
  (PySem.W.excInitIn K (He.ga K t.x) He.veBase "ValueError.__new__" && (He.eqO (PySem.W.nsIn K cStatics "thirdparty.any") (some none) && (clsB K (He.ga K t.x) && fnB K (He.ga K t.x) (He.fAd K (t.x, some "__init__")) file))))))))))))
theorem has_of {prog : Program} {K : PySem.W.Frag} {mg : Str → Option Value} {t : SupX.Txt} {file qual : Str} {j : Nat} {p1 p2 q1 q2 q3 q4 q5 q6 q7 q8 q9 q10 : Pos} (h : supB K t file = true) (gC : mg t.x = some (.ref (He.ga K t.x))) (gS : mg "super" = none) (hfile : ((prog.main.file : Str) == file) = true)
    (htop : (prog.main.scope.names.lookup ("super" : Str)).isSome = false) (hi : initW K (t.x, some "__init__") = some (("__init__" : Str), qual, SupX.iA t p1 p2, FuncBody.stmts (SupX.iB t j q1 q2 q3 q4 q5 q6 q7 q8 q9 q10), SupX.iS t, mainGlobals, [("__class__" : Str)], builtinsNs))
    (pn : (t.p == ("__debug__" : Str)) = false ∧ t.p ≠ "self") (l1 : (SupX.iS t).names.lookup ("self" : Str) = some .local) (l2 : (SupX.iS t).names.lookup t.p = some .local) (l3 : (SupX.iS t).names.lookup ("__class__" : Str) = some .free) (l4 : (SupX.iS t).names.lookup ("super" : Str) = some .globalImplicit)
    (hbind : ∀ (cl : List (Str × Addr)) (kV doc pm : Value) (an : Option Addr) (cdv ct a b : Value), bindArgs (PySem.W.fnX "__init__" qual (SupX.iA t p1 p2) (SupX.iB t j q1 q2 q3 q4 q5 q6 q7 q8 q9 q10) (SupX.iS t) cl .none kV doc pm an cdv ct) ⟨[a, b], []⟩ = pure [(("self" : Str), a), (t.p, b)])
    (hev : ∀ env : Env, ∃ pl : Sem Bool, eval (.Call (.Attribute (.Call (.Name "super" q1) [] [] q2) "__init__" q3) [.Constant (.str t.m) j q4] [] q5) env = (do
        let ov ← attributeBase (.Call (.Name "super" q1) [] [] q2) "__init__" env (eval (.Call (.Name "super" q1) [] [] q2) env)
        standAt q3.atName
        let (f, first) ← holding [ov] (getMethod ov "__init__" pl)
        callWith q5 f first (backTo q5 (starEach [.Constant (.str t.m) j q4] env)) [])) :
    SupX.Has prog K mg t (He.ga K t.x) (He.fAd K (t.x, some "__init__")) := by
  unfold supB at h
  obtain ⟨h1, h⟩ := He.ba h
  obtain ⟨h2, h⟩ := He.ba h
  obtain ⟨h3, h⟩ := He.ba h
  obtain ⟨h4, h⟩ := He.ba h
  obtain ⟨h5, h⟩ := He.ba h
  obtain ⟨h6, h⟩ := He.ba h
  obtain ⟨h7, h⟩ := He.ba h
  obtain ⟨h8, h⟩ := He.ba h
  obtain ⟨h9, h⟩ := He.ba h
  obtain ⟨h10, h⟩ := He.ba h
  obtain ⟨h11, h⟩ := He.ba h
  obtain ⟨h12, h⟩ := He.ba h
  obtain ⟨h13, h14⟩ := He.ba h
  obtain ⟨cc, cda, oc, ccl, cl, od, cdd, cld, kV, doc, pm, an, ct, osl, ccs, csl, vs, tf, r1, r2, r3, r4, r5⟩ := fnB_ok h14 hi
  exact { gC := gC, cls := clsB_ok h13, sa := He.eqO_ok h1, noN := He.eqO_ok h2, iC := He.eqO_ok h3, tC := of_decide_eq_true h4, kC := h5, exC := of_decide_eq_true h6, tyC := of_decide_eq_true h7, sVE := of_decide_eq_true h8, mro := of_decide_eq_true h9,
          sup := He.eqO_ok h10, ini := h11, tp := He.eqO_ok h12, gS := gS, pn := pn, lself := l1, lp := l2, lcls := l3, lsup := l4,
          fn := ⟨cc, cda, oc, ccl, cl, od, cdd, cld, kV, doc, pm, an, ct, osl, ccs, csl, vs, file, tf, qual, j, p1, p2, q1, q2, q3, q4, q5, q6, q7, q8, q9, q10, r1, r2, r3, r4, hfile, r5, fun a b => hbind _ _ _ _ _ _ _ a b, hev⟩, top := htop }
end Own
set_option Elab.async false
set_option linter.all false
set_option maxRecDepth 100000
set_option maxHeartbeats 400000
namespace Own
open PySem PySem.Spec PyProof.Rows L2
/-! ### a hook that looks at chosen objects, and tells of functions with closures -/
def obsW (sel : Sel) (fa : List He.Fa) (fn : List He.DefD) (ts : List He.Tab) (tf : List He.Defn) (ex : PySem.W.Frag → Bool) (ini : List (He.Defn × InitW)) (g : Addr → Option Obj) : AlY :=
  (obsZ sel fa fn ts tf ex g, ini.map fun p => initW (KZ sel g) p.1)
def valW (fn : List He.DefD) (ts : List He.Tab) (ini : List (He.Defn × InitW)) (w : World) : AlY := (He.valX fn ts w, ini.map (·.2))
structure SaysW (fa : List He.Fa) (fn : List He.DefD) (ts : List He.Tab) (tf : List He.Defn) (ex : PySem.W.Frag → Bool) (ini : List (He.Defn × InitW)) (w : World) (h : Heap) (K : PySem.W.Frag) : Prop where
  x : He.SaysX fa fn ts tf ex w h K
  i : ∀ p ∈ ini, initW K p.1 = p.2
theorem saysW_of {sel : Sel} {fa : List He.Fa} {fn : List He.DefD} {ts : List He.Tab} {tf : List He.Defn} {ex : PySem.W.Frag → Bool} {ini : List (He.Defn × InitW)} {w : World} {h : Heap} (e : obsW sel fa fn ts tf ex ini h.get? = valW fn ts ini w) : SaysW fa fn ts tf ex ini w h (KZ sel h.get?) := by
  have e1 : obsZ sel fa fn ts tf ex h.get? = He.valX fn ts w := congrArg (fun z : AlY => z.1) e
  have e2 : ini.map (fun p => initW (KZ sel h.get?) p.1) = ini.map (·.2) := congrArg (fun z : AlY => z.2) e
  exact ⟨saysZ_of e1, fun p hp => map_mem_eq e2 p hp⟩
def hookW (sel : Sel) (fa : List He.Fa) (fn : List He.DefD) (ts : List He.Tab) (tf : List He.Defn) (ex : PySem.W.Frag → Bool) (ini : List (He.Defn × InitW)) : PySem.W.Hook where
  α := AlY
  obs := fun s => obsW sel fa fn ts tf ex ini s.heap.get?
  val := fun w => valW fn ts ini w
  says := fun w h => ∃ K : PySem.W.Frag, K.In h ∧ SaysW fa fn ts tf ex ini w h K
  of := fun _ _ e => ⟨_, He.frT_in, saysW_of e⟩
  keeps := fun _ _ _ z k => by
    obtain ⟨K, inK, c⟩ := z
    exact ⟨K, PySem.W.Frag.In.keeps inK k, ⟨⟨c.x.t, c.x.more, c.x.hd, c.x.out, fun p hp => k _ _ (c.x.empty p hp)⟩, c.i⟩⟩
theorem obsW_eq {sel : Sel} {fa : List He.Fa} {fn : List He.DefD} {ts : List He.Tab} {tf : List He.Defn} {ex : PySem.W.Frag → Bool} {ini : List (He.Defn × InitW)} {g : Addr → Option Obj} {s : Shared} (h : ∀ a, g a = s.heap.get? a) : obsW sel fa fn ts tf ex ini g = (hookW sel fa fn ts tf ex ini).obs s := by
  have e : g = s.heap.get? := funext h
  subst e
  rfl
end Own
set_option Elab.async false
set_option linter.all false
set_option maxRecDepth 100000
set_option maxHeartbeats 0
namespace Own
open PySem PySem.Spec PyProof.Rows L2 LamX
/-! ### the head: what the top has left -/
def dF (q : Str × Stmt) : He.DefD := ⟨(q.1, none), q.1, q.1, defArgs q.2, defBody q.2, defScope q.2, [], []⟩
def pTow (K : PySem.W.Frag) : Addr := He.dflAt ("Tower", some "__init__") 0 K
def dTow : He.DefD := ⟨("Tower", some "__init__"), "__init__", "Tower.__init__", defArgs sTowI, defBody sTowI, defScope sTowI, [.adr pTow, .non], []⟩
def dNum : He.DefD := ⟨("Number", some "__init__"), "__init__", "Number.__init__", defArgs sNumI, defBody sNumI, defScope sNumI, [.non], []⟩
def dFra : He.DefD := ⟨("fraction", none), "fraction", "fraction", defArgs sFrac, defBody sFrac, defScope sFrac, [.int 1], []⟩
def fn : List He.DefD := FNS.map dF ++ [dTow, dNum, dFra]
abbrev cNoName : Stmt := top 9
abbrev sInit : Stmt := (clsBody cNoName).getD 0 (.Pass ⟨0, 0, 0, 0⟩)
abbrev qInit : Str := "NoName.__init__"
def ini : List (He.Defn × InitW) := [(("NoName", some "__init__"), some (("__init__" : Str), qInit, defArgs sInit, FuncBody.stmts (defBody sInit), defScope sInit, mainGlobals, [("__class__" : Str)], builtinsNs))]
def fa : List He.Fa := [.free "isinstance", .free "int", .free "bool", .free "str", .free "tuple", .free "abs", .free "len", .free "range", .free "list", .free "min", .free "max", .free "enumerate", .free "sorted", .free "dict", .free "repr", .free "reversed", .free "set", .free "super",
  .glo "BadDeed", .glo "BadDrawing", .glo "BadNames", .glo "NoName", .glo "RulerError", .glo "Tower", .glo "Number", .glo "fraction", .glo "FORMS", .glo "OTHERS", .glo "TOOLS",
  .int "MOST" 6, .str "LETTERS" "abcdefghijklmnopqrstuvwxyz", .str "DIGITS" "0123456789",
  .exc "BadDeed", .exc "BadDrawing", .exc "BadNames", .exm "BadDeed" "RulerError" true, .exm "BadDrawing" "RulerError" true, .exm "BadNames" "RulerError" true, .exm "NoName" "RulerError" true,
  .cls "Tower", .cls "Number", .mkr "Tower", .mkr "Number", .noat "Tower" "rows", .noat "Tower" "squares", .noat "Number" "tower", .noat "Number" "vector"] ++ FNS.map fun q => He.Fa.glo q.1
def excCB (K : PySem.W.Frag) (D : Addr) : Bool := He.eqO (PySem.W.findIn K (.ref D) "__getattribute__") (some (some (.builtin "BaseException.__getattribute__"))) && (He.eqO (PySem.W.findIn K (.ref D) "__getattr__") (some none) && (decide (PySem.W.subIn K (.ref D) (.type "BaseException") = some true) &&
  (PySem.W.hasDictIn K D && (He.eqO (PySem.W.findIn K (.ref D) "__class__") (some (some (.builtin "object.__class__"))) && (He.eqO (PySem.W.specialIn K (.builtin "object.__class__") "__get__") (some (some (.builtin "getset_descriptor.__get__"))) &&
  (decide (PySem.W.takesIn K (.builtin "object.__class__") = some true) && decide (PySem.W.mroIn K D (.type "object") = some true)))))))
theorem excC_of {K : PySem.W.Frag} {D : Addr} (h : excCB K D = true) : ExcC K D := by
  obtain ⟨h1, h⟩ := He.ba h
  obtain ⟨h2, h⟩ := He.ba h
  obtain ⟨h3, h⟩ := He.ba h
  obtain ⟨h4, h⟩ := He.ba h
  obtain ⟨h5, h⟩ := He.ba h
  obtain ⟨h6, h⟩ := He.ba h
  obtain ⟨h7, h8⟩ := He.ba h
  exact ⟨He.eqO_ok h1, He.eqO_ok h2, of_decide_eq_true h3, h4, He.eqO_ok h5, He.eqO_ok h6, of_decide_eq_true h7, of_decide_eq_true h8⟩
/-- a tuple of these stands at a -/
def tupAt (K : PySem.W.Frag) (a : Addr) (vs : List V) : Bool := match K.lookup a with
  | some o => decide (o.cls = .type "tuple") && (match o.data with
    | .seq its _ => decide (its.size ≤ sizeLine) && He.relAll vs its.toList
    | _ => false)
  | none => false
theorem tupAt_ok {K : PySem.W.Frag} {a : Addr} {vs : List V} (h : tupAt K a vs = true) : (∃ o, K.lookup a = some o ∧ o.cls = .type "tuple") ∧ ∀ H, SqT K H a vs := by
  unfold tupAt at h
  cases q : K.lookup a with
  | none =>
    rw [q] at h
    cases h
  | some o =>
    rw [q] at h
    obtain ⟨h1, h2⟩ := He.ba h
    obtain ⟨oc, od, dt, osl⟩ := o
    cases dt with
    | seq its n =>
      obtain ⟨h3, h4⟩ := He.ba h2
      exact ⟨⟨_, rfl, of_decide_eq_true h1⟩, fun H => .inr ⟨_, its, n, q, of_decide_eq_true h1, rfl, of_decide_eq_true h3, He.relAll_ok h4⟩⟩
    | _ => cases h2
def plainB (K : PySem.W.Frag) (a : Addr) : Bool := match K.lookup a with
  | some o => decide (o.cls = .type "tuple") && o.dict.isNone
  | none => false
theorem plainB_ok {K : PySem.W.Frag} {a : Addr} (h : plainB K a = true) : ∃ o, K.lookup a = some o ∧ o.cls = .type "tuple" ∧ o.dict = none := by
  unfold plainB at h
  cases q : K.lookup a with
  | none =>
    rw [q] at h
    cases h
  | some o =>
    rw [q] at h
    obtain ⟨h1, h2⟩ := He.ba h
    exact ⟨o, rfl, of_decide_eq_true h1, by
      cases e : o.dict with
      | none => rfl
      | some d =>
        rw [e] at h2
        cases h2⟩
def formB (K : PySem.W.Frag) : Bool := FORM.all fun t => match PySem.W.nsIn K (He.ga K "FORMS") t.1 with
  | some (some (.ref q)) => tupAt K q [.int t.2.1, .int t.2.2]
  | _ => false
theorem formB_ok {K : PySem.W.Frag} (h : formB K = true) : ∀ t ∈ FORM, ∃ q, PySem.W.nsIn K (He.ga K "FORMS") t.1 = some (some (.ref q)) ∧ ∀ H, SqT K H q [.int t.2.1, .int t.2.2] := fun t ht => by
  have h1 := List.all_eq_true.mp h t ht
  split at h1
  · rename_i q e
    exact ⟨q, e, (tupAt_ok h1).2⟩
  · cases h1
def othB (K : PySem.W.Frag) : Bool := FORM.all fun t => match OTHL.lookup t.1 with
  | some z => (match PySem.W.nsIn K (He.ga K "OTHERS") t.1 with
    | some (some (.str y _)) => decide (y = z)
    | _ => false)
  | none => He.eqO (PySem.W.nsIn K (He.ga K "OTHERS") t.1) (some none)
theorem othB_ok {K : PySem.W.Frag} (h : othB K = true) : ∀ t ∈ FORM, (∃ z u, OTHL.lookup t.1 = some z ∧ PySem.W.nsIn K (He.ga K "OTHERS") t.1 = some (some (.str z u))) ∨ (OTHL.lookup t.1 = none ∧ PySem.W.nsIn K (He.ga K "OTHERS") t.1 = some none) := fun t ht => by
  have h1 := List.all_eq_true.mp h t ht
  cases e : OTHL.lookup t.1 with
  | none =>
    rw [e] at h1
    exact .inr ⟨rfl, He.eqO_ok h1⟩
  | some z =>
    rw [e] at h1
    dsimp only at h1
    split at h1
    · rename_i y u e2
      have := of_decide_eq_true h1
      subst this
      exact .inl ⟨_, u, rfl, e2⟩
    · cases h1
def insB (K : PySem.W.Frag) (C : Addr) : Bool := He.eqO (PySem.W.findIn K (.ref C) "__class__") (some (some (.builtin "object.__class__"))) && (He.eqO (PySem.W.specialIn K (.builtin "object.__class__") "__get__") (some (some (.builtin "getset_descriptor.__get__"))) &&
  (decide (PySem.W.takesIn K (.builtin "object.__class__") = some true) && decide (PySem.W.mroIn K C (.type "object") = some true)))
def nowB (K : PySem.W.Frag) : Bool := NOW.all fun z => He.eqO (PySem.W.nsIn K (He.ga K "FORMS") z) (some none)
abbrev qT : He.Defn := ("_law_needed_right", none)
abbrev qE : He.Defn := ("law", none)
def tf : List He.Defn := [qT, qE]
def ts : List He.Tab := [((fun K => He.ga K "FORMS"), FORM.map (·.1)), ((fun K => He.ga K "OTHERS"), OTHL.map (·.1))]
abbrev PRG : Program := PySem.Challenge.pw_rulerchest_k27_what_a_name_hangs_on
def ex (K : PySem.W.Frag) : Bool := supB K tNN PRG.main.file && (excCB K (He.ga K "BadDeed") && (excCB K (He.ga K "BadDrawing") && (excCB K (He.ga K "BadNames") && (excCB K (He.ga K "NoName") && (xfB K (He.ga K "NoName") &&
  (tupAt K (pTow K) [] && (tupAt K (He.ga K "TOOLS") (TOOLS.map V.str) && (formB K && (othB K && (nowB K && (insB K (He.ga K "Tower") && (insB K (He.ga K "Number") && (decide (PySem.W.kitOne K (.type "int") (.ref (He.ga K "Number")) = some false) &&
  decide ((He.cT K qT).2 ≠ (He.cT K qE).2))))))))))))))
abbrev LW : PySem.W.OpenLaw := PySem.Challenge.rw_rulerchest_k27_what_a_name_hangs_on
abbrev RW : PySem.W.OpenRow := PySem.W.OpenLaw.row PySem.Challenge.rw_rulerchest_k27_what_a_name_hangs_on
def sel0 : Sel := selZ ((FNS.map (·.1)) ++ ("fraction" : Str) :: []) [(4, ["Tower", "Number"]), (4, ["NoName"]), (2, ["RulerError", "BadDeed", "BadDrawing", "BadNames"]), (1, ["FORMS", "OTHERS", "TOOLS"])]
def sel : Sel := fun g => cStatics :: sel0 g
abbrev hk : PySem.W.Hook := hookW sel fa fn ts tf ex ini
def ob (s : PySem.W.SharedT) : AlY := obsW sel fa fn ts tf ex ini (HandSHeadRun.getT s)
theorem ob_eq (s : PySem.W.SharedT) : ob s = hk.obs s.abs := obsW_eq (HandSHeadRun.getT_eq s)
def loose : List Str := (["RulerError", "NotTower", "BadParts", "BadNumber", "BadDeed", "BadDrawing", "BadNames", "NoName", "LETTERS", "DIGITS", "is_whole", "is_fraction", "is_name", "GREAT", "are_parts", "vec_lowest", "common", "vec_small", "vec_of", "vec_parts", "vec_whole", "vec_unit", "vec_wide", "vec_low", "vec_high", "vec_both", "vec_negated", "vec_halved", "vec_plus", "vec_less"] : List Str) ++ (["vec_same", "scale_of", "raw_times", "vec_times", "rows_below", "vec_rest", "vec_norm", "vec_sign", "vec_turned", "whole_root", "plain_root", "even_root", "vec_root", "written", "rows_joined", "used_rows", "picked", "MOST", "rows_of", "Tower", "need_tower", "spared", "same_value", "Number", "fraction", "sheet", "FORMS", "TOOLS", "OTHERS", "is_deed"] : List Str) ++ (["need_deed", "names_of", "tool_of", "is_drawing", "are_names", "need_names", "need_drawing", "goes_on", "is_sequel", "chest_of", "needed", "_law_begun", "_law_stirred", "_law_draw", "_law_pick", "_law_shuffled", "_law_name", "_law_caught", "_law_deed_names", "_law_chained_steps", "_law_forms", "_law_has_way", "_law_deed", "_law_goes_on", "_law_is_name", "_law_is_deed", "_law_hung", "_law_needed_right", "_law_parts", "_law_changed"] : List Str)
abbrev rowG : String := "special-get-raises"
abbrev VQ : Program := PySem.W.view RW.prog [0, 100]
/-- the top's run -/
noncomputable def whole (w : World) := HandSHeadRun.wholeF (fun p => HandSHeadRun.stepQ (HandSHeadRun.denQ HandSHeadRun.tabQ) p w) HandSHeadRun.fenceQ 12000 RW.prog
/-- what is looked at behind it, one by one -/
structure Runs (w : World) : Prop where
  a : (whole w).map (fun x => HandSHeadRun.looksF RW.prog x.1.heap x.2.abs) = some true
  b : (whole w).map (fun x => HandSHeadRun.seenQ VQ loose (PySem.importedModules RW.prog.main.body) (fun s => PySem.W.xlAt VQ [] s && PySem.W.recOk RW.toRowW.records s) x.2.abs) = some (PySem.W.openGood VQ loose)
  c : (whole w).map (fun x => ob x.2) = some (hk.val w)
theorem Runs.join {w : World} (h : Runs w) : HandSHeadRun.RunEqI RW VQ hk ob 12000 loose w := by
  obtain ⟨a, b, c⟩ := h
  show (whole w).map (fun x => (HandSHeadRun.looksF RW.prog x.1.heap x.2.abs, HandSHeadRun.seenQ VQ loose (PySem.importedModules RW.prog.main.body) (fun s => PySem.W.xlAt VQ [] s && PySem.W.recOk RW.toRowW.records s) x.2.abs, ob x.2)) = some (true, PySem.W.openGood VQ loose, hk.val w)
  cases h : whole w with
  | none =>
    rw [h] at a
    cases a
  | some x =>
    rw [h] at a b c
    exact congrArg some (Prod.ext (Option.some.inj a) (Prod.ext (Option.some.inj b) (Option.some.inj c)))
theorem runA1 (w : World) : (whole (w.withFollow rowG true)).map (fun x => HandSHeadRun.looksF RW.prog x.1.heap x.2.abs) = some true := by
  kernel_rfl
theorem runB1 (w : World) : (whole (w.withFollow rowG true)).map (fun x => HandSHeadRun.seenQ VQ loose (PySem.importedModules RW.prog.main.body) (fun s => PySem.W.xlAt VQ [] s && PySem.W.recOk RW.toRowW.records s) x.2.abs) = some (PySem.W.openGood VQ loose) := by
  kernel_rfl
theorem runC1 (w : World) : (whole (w.withFollow rowG true)).map (fun x => ob x.2) = some (hk.val (w.withFollow rowG true)) := by
  kernel_rfl
theorem runA2 (w : World) : (whole (w.withFollow rowG false)).map (fun x => HandSHeadRun.looksF RW.prog x.1.heap x.2.abs) = some true := by
  kernel_rfl
theorem runB2 (w : World) : (whole (w.withFollow rowG false)).map (fun x => HandSHeadRun.seenQ VQ loose (PySem.importedModules RW.prog.main.body) (fun s => PySem.W.xlAt VQ [] s && PySem.W.recOk RW.toRowW.records s) x.2.abs) = some (PySem.W.openGood VQ loose) := by
  kernel_rfl
theorem runC2 (w : World) : (whole (w.withFollow rowG false)).map (fun x => ob x.2) = some (hk.val (w.withFollow rowG false)) := by
  kernel_rfl
theorem run (w : World) : HandSHeadRun.RunEqI RW VQ hk ob 12000 loose w := by
  have h : HandSHeadRun.RunEqI RW VQ hk ob 12000 loose (w.withFollow rowG (w.params.followText rowG)) := by
    cases w.params.followText rowG with
    | true => exact Runs.join ⟨runA1 w, runB1 w, runC1 w⟩
    | false => exact Runs.join ⟨runA2 w, runB2 w, runC2 w⟩
  rwa [World.withFollow_self] at h
theorem facts {w : World} {K : PySem.W.Frag} {h : Heap} {mg : Str → Option Value} {f : Addr} (X : K.In h) (G : h.Ns mainGlobals mg) (hfa : mg ("law" : Str) = some (.ref f)) (cc : SaysW fa fn ts tf ex ini w h K) : LawAtG LW w K CX0 12 63 "_law_script" mg f h := by
  have c := cc.x
  have d := c.t.d
  have fr : ∀ x : Str, He.Fa.free x ∈ fa → mg x = none := fun x hx => He.free_ok X G (d.facts hx)
  have gl0 : ∀ x : Str, He.Fa.glo x ∈ fa → mg x = some (.ref (He.ga K x)) := fun x hx => He.glo_ok X G (d.facts hx)
  have gl : ∀ x st, (x, st) ∈ FNS → mg x = some (.ref (He.ga K x)) := fun x st hx => gl0 x (List.mem_append_right _ (List.mem_map.mpr ⟨_, hx, rfl⟩))
  have df : ∀ x st, (x, st) ∈ FNS → ∃ fd, FnP K x st (He.ga K x) fd := fun x st hx => d.defs (d := dF (x, st)) (List.mem_append_left _ (List.mem_map.mpr ⟨_, hx, rfl⟩))
  obtain ⟨m1, m⟩ := He.ba c.more
  obtain ⟨m2, m⟩ := He.ba m
  obtain ⟨m3, m⟩ := He.ba m
  obtain ⟨m4, m⟩ := He.ba m
  obtain ⟨m5, m⟩ := He.ba m
  obtain ⟨m6, m⟩ := He.ba m
  obtain ⟨m7, m⟩ := He.ba m
  obtain ⟨mT, m⟩ := He.ba m
  obtain ⟨m8, m⟩ := He.ba m
  obtain ⟨m9, m⟩ := He.ba m
  obtain ⟨m10, m⟩ := He.ba m
  obtain ⟨m11, m⟩ := He.ba m
  obtain ⟨m12, m⟩ := He.ba m
  obtain ⟨m13, m14⟩ := He.ba m
  obtain ⟨i1, i⟩ := He.ba m11
  obtain ⟨i2, i⟩ := He.ba i
  obtain ⟨i3, i4⟩ := He.ba i
  obtain ⟨j1, j⟩ := He.ba m12
  obtain ⟨j2, j⟩ := He.ba j
  obtain ⟨j3, j4⟩ := He.ba j
  obtain ⟨dL, FL⟩ := df "law" sLaw (by simp [FNS])
  have e := hfa.symm.trans (gl "law" sLaw (by simp [FNS]))
  cases e
  obtain ⟨x1, x2, x3, x4⟩ := He.exc_ok (d.facts (f := .exc "BadDeed") (by simp [fa]))
  obtain ⟨y1, y2, y3, y4⟩ := He.exc_ok (d.facts (f := .exc "BadDrawing") (by simp [fa]))
  obtain ⟨z1, z2, z3, z4⟩ := He.exc_ok (d.facts (f := .exc "BadNames") (by simp [fa]))
  obtain ⟨dT, FT⟩ := d.defs (d := dTow) (by simp [fn])
  obtain ⟨dN, FN⟩ := d.defs (d := dNum) (by simp [fn])
  obtain ⟨dFr, FFr⟩ := d.defs (d := dFra) (by simp [fn])
  obtain ⟨es1, n1, kd1⟩ := c.t.tab 0
  obtain ⟨es2, n2, kd2⟩ := c.t.tab 1
  have sup : SupX.Has LW.prog K mg tNN (He.ga K "NoName") (He.fAd K ("NoName", some "__init__")) :=
    has_of (qual := qInit) m1 (gl0 _ (by simp [fa])) (fr _ (by simp [fa])) (beq_self_eq_true _) (by kernel_rfl) (cc.i _ List.mem_cons_self) ⟨by decide +kernel, by decide +kernel⟩ rfl rfl rfl rfl (fun _ _ _ _ _ _ _ _ _ => rfl) (fun _ => ⟨_, rfl⟩)
  have clsT := He.cls_ok (d.facts (f := .cls "Tower") (by simp [fa]))
  have clsN := He.cls_ok (d.facts (f := .cls "Number") (by simp [fa]))
  have Z : All LW.prog w K mg ⟨He.ga K "BadDeed", He.ga K "BadDrawing", He.ga K "BadNames", He.ga K "NoName", He.ga K "RulerError", He.ga K "TOOLS"⟩ ⟨He.ga K "Tower", He.ga K "Number", He.ma K (He.ga K "Tower") "__init__", He.ma K (He.ga K "Number") "__init__", pTow K, He.fAd K ("NoName", some "__init__")⟩ dT dN :=
    { t := ⟨fr _ (by simp [fa]), fr _ (by simp [fa]), fr _ (by simp [fa]), fr _ (by simp [fa]), fr _ (by simp [fa]), fr _ (by simp [fa]), fr _ (by simp [fa]), fr _ (by simp [fa]), fr _ (by simp [fa]), fr _ (by simp [fa]), fr _ (by simp [fa]), fr _ (by simp [fa]), fr _ (by simp [fa]), fr _ (by simp [fa]), fr _ (by simp [fa]), fr _ (by simp [fa]), fr _ (by simp [fa])⟩
      c := { letters := He.str_ok X G (d.facts (f := .str "LETTERS" "abcdefghijklmnopqrstuvwxyz") (by simp [fa])), digits := He.str_ok X G (d.facts (f := .str "DIGITS" "0123456789") (by simp [fa])) }
      d := ⟨⟨_, es1, n1, gl0 "FORMS" (by simp [fa]), kd1, formB_ok m8, fun z hz => He.eqO_ok (List.all_eq_true.mp m10 z hz)⟩, ⟨_, es2, n2, gl0 "OTHERS" (by simp [fa]), kd2, othB_ok m9⟩⟩
      o := { gT := gl0 _ (by simp [fa]), gN := gl0 _ (by simp [fa]), kT := He.mkr_ok (d.facts (f := .mkr "Tower") (by simp [fa])), kN := He.mkr_ok (d.facts (f := .mkr "Number") (by simp [fa]))
             iT := ⟨clsT, He.eqO_ok i1, He.eqO_ok i2, of_decide_eq_true i3, of_decide_eq_true i4, kit_self _⟩
             cN := clsN, iN := ⟨clsN, He.eqO_ok j1, He.eqO_ok j2, of_decide_eq_true j3, of_decide_eq_true j4, kit_self _⟩, intN := of_decide_eq_true m13
             n1 := He.noat_ok (d.facts (f := .noat "Tower" "rows") (by simp [fa])), n2 := He.noat_ok (d.facts (f := .noat "Tower" "squares") (by simp [fa]))
             n3 := He.noat_ok (d.facts (f := .noat "Number" "tower") (by simp [fa])), n4 := He.noat_ok (d.facts (f := .noat "Number" "vector") (by simp [fa]))
             eE := (tupAt_ok m7).1, sE := (tupAt_ok m7).2, most := He.int_ok X G (d.facts (f := .int "MOST" 6) (by simp [fa])), FT := FT, FN := FN }
      fns := df, gl := gl, frac := ⟨dFr, FFr⟩, gFr := gl0 _ (by simp [fa]), gTo := gl0 "TOOLS" (by simp [fa]), hTo := (tupAt_ok mT).2
      eD := ⟨⟨gl0 _ (by simp [fa]), x1, x2, x3, x4⟩, excC_of m2, He.exm_ok (d.facts (f := .exm "BadDeed" "RulerError" true) (by simp [fa]))⟩
      eW := ⟨⟨gl0 _ (by simp [fa]), y1, y2, y3, y4⟩, excC_of m3, He.exm_ok (d.facts (f := .exm "BadDrawing" "RulerError" true) (by simp [fa]))⟩
      eN := ⟨⟨gl0 _ (by simp [fa]), z1, z2, z3, z4⟩, excC_of m4, He.exm_ok (d.facts (f := .exm "BadNames" "RulerError" true) (by simp [fa]))⟩
      sn := sup, cS := excC_of m5, fS := xfB_ok m6, xS := He.exm_ok (d.facts (f := .exm "NoName" "RulerError" true) (by simp [fa])), gR := gl0 _ (by simp [fa]) }
  have b := FunD.bindsA (ps := ["_law_script"]) FL fun _ _ _ _ _ _ us hl => match us, hl with | [_], _ => rfl
  have all : ∀ {p : Addr × Addr}, p ∈ [He.cT K qT, He.cT K qE] → ∃ q ∈ tf, p = He.cT K q := fun {p} hp => by
    rcases List.mem_cons.mp hp with e | hp
    · exact ⟨_, List.mem_cons_self, e⟩
    · exact ⟨_, List.mem_cons_of_mem _ List.mem_cons_self, List.mem_singleton.mp hp⟩
  have l1 : He.cT K qT ∈ [He.cT K qT, He.cT K qE] := List.mem_cons_self
  have l2 : He.cT K qE ∈ [He.cT K qT, He.cT K qE] := List.mem_cons_of_mem _ List.mem_cons_self
  refine ⟨dL, [He.cT K qT, He.cT K qE], spLaw K (He.cT K qT).2 (He.cT K qE).2, fun p hp => ?_, fun p hp => ?_, fun p hp => ?_, fun s v => b s [v] rfl,
    fun H a ns hl _ hT hS => ⟨a, ns, rfl, hS, hl, hT _ l1, hT _ l2, fun _ => rfl⟩, fun base hK hG hTB => ?_⟩
  · obtain ⟨q, hq, rfl⟩ := all hp
    exact c.empty _ hq
  · obtain ⟨q, hq, rfl⟩ := all hp
    exact c.out _ hq
  · obtain ⟨q, hq, rfl⟩ := all hp
    exact PySem.W.codeHd_of_K X (c.hd _ hq)
  · exact ok_law FL rfl rfl Z (of_decide_eq_true m14) (hTB _ l1) (hTB _ l2)
end Own
open PySem PySem.W PySem.Calls PyProof.Rows
theorem PySem.Challenge.cw_rulerchest_k27_what_a_name_hangs_on_holds : PySem.Challenge.rw_rulerchest_k27_what_a_name_hangs_on.Holds := by
  w_on; o_law
  refine HandSHeadRun.head_imp (r := OpenLaw.row PySem.Challenge.rw_rulerchest_k27_what_a_name_hangs_on) (q := view (OpenLaw.row PySem.Challenge.rw_rulerchest_k27_what_a_name_hangs_on).prog [0, 100]) (H := Own.hk) (ob := Own.ob) (M := 12000) (loose := Own.loose) (d := HandSHeadRun.topDef (OpenLaw.row PySem.Challenge.rw_rulerchest_k27_what_a_name_hangs_on).prog 100) (kwd := []) Own.ob_eq
    Own.run (by kernel_rfl) (by kernel_rfl) (by kernel_rfl) (by rfl) (by first | assumption | decide +kernel) (by decide +kernel) ⟨rfl, rfl, rfl, rfl, rfl, by decide +kernel⟩ ?hw ?hc
  case hw => w_witness2
  case hc =>
    refine Own.walk_ofG (l := PySem.Challenge.rw_rulerchest_k27_what_a_name_hangs_on) (n := 63) (k := 12) (x := "_law_script") (CX := fun _ => L2.CX0) rfl (by decide) (by kernel_rfl) ⟨rfl, by decide, by decide⟩ ?F (fun _ _ _ _ _ z => z)
    intro w mg fa h Y G hmg0
    obtain ⟨K, KX, c⟩ := Y
    have hmg : mg ("law" : PySem.Str) = some (.ref fa) := by
      have e : (HandSHeadRun.topDef (OpenLaw.row PySem.Challenge.rw_rulerchest_k27_what_a_name_hangs_on).prog 100).name = ("law" : PySem.Str) := by kernel_rfl
      rw [← e]
      exact hmg0
    exact ⟨K, KX, Own.facts KX G hmg c⟩
#print axioms PySem.Challenge.cw_rulerchest_k27_what_a_name_hangs_on_holds
