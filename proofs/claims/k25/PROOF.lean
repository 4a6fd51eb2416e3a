import PyProof.Rows.All
import Wide.All
import OpenK.AllK
import Wide.FinOn
import HandS.HeadHook4
import KE.KStateDown
import KE.KMathG
import HandS.ForMost
import HandS.Ends
import HandS.Exc
import HandS.ExcOwn
import HandS.ExcIs
import HandS.TryOnly
import HandS.Defaults
import HandS.Lambda
import HandS.EndBits
import HandS.EndTab
import HandS.IsInst
import HandS.Gcd
import HandS.Wide
import HandS.WideMore
import HandS.WordsExc
import KE.KExcSuper
import KE.KSuper
import HandS.HeadHook1
import HandS.ExcField
import HandS.Conv
import HandS.Flow
import HandS.Text
import Lean
import KE.KNestM
import HandS.Head0
import HandS.Head1
import HandS.Head2
import HandS.Head3
import HandS.HeadWalk
import HandS.Walk
import HandS.TupMul
import HandS.SlotsOwn
import PyProof.WalksMore
import PyProof.ConsumeWalk
import HandS.Steps
import HandS.More
import HandS.Dict
import KE.GoesEnum
import HandS.Iter
import HandS.Codes
import HandS.Style
import HandS.TupAny
import HandS.TupLe
import HandS.WideBits
import HandS.Zip
import HandS.Star
import HandS.IterVal
import HandS.DictComp
import HandS.Replace
import HandS.ReplaceLit
import HandS.RaiseMore
import PyProof.ReprRoads
import HandS.Rev
import PyProof.ReprLen
import HandS.DeepEq
import PySem.Challenge.RW_rulerchest_k25_names_exchanged
set_option Elab.async false
set_option linter.all false
set_option maxRecDepth 100000
set_option maxHeartbeats 400000
namespace Own
open PySem PySem.Spec PyProof.Rows L2
/-! ### a hook that looks at chosen objects only -/
abbrev Sel : Type := (Addr → Option Obj) → List Addr
/-- the objects that the names stand for -/
def atNames (g : Addr → Option Obj) (xs : List Str) : List Addr := xs.map (He.ga (He.frG g [mainGlobals]))
def growN (g : Addr → Option Obj) : Nat → List Addr → List Addr
  | 0, l => l
  | n + 1, l => growN g n (He.growD g l)
/-- the defs with their code, the classes and tables so many steps deep -/
def selZ (defs : List Str) (deep : List (Nat × List Str)) : Sel := fun g => mainGlobals :: (growN g 1 (atNames g defs) ++ deep.flatMap fun q => growN g q.1 (atNames g q.2))
def KZ (sel : Sel) (g : Addr → Option Obj) : PySem.W.Frag := He.frT g (sel g)
def obsZ (sel : Sel) (fa : List He.Fa) (fn : List He.DefD) (ts : List He.Tab) (tf : List He.Defn) (ex : PySem.W.Frag → Bool) (g : Addr → Option Obj) : He.AlX :=
  (He.obsT fa fn ts (KZ sel g), ex (KZ sel g) && He.tabsB g tf (KZ sel g))
theorem saysZ_of {sel : Sel} {fa : List He.Fa} {fn : List He.DefD} {ts : List He.Tab} {tf : List He.Defn} {ex : PySem.W.Frag → Bool} {w : World} {h : Heap} (e : obsZ sel fa fn ts tf ex h.get? = He.valX fn ts w) : He.SaysX fa fn ts tf ex w h (KZ sel h.get?) := by
  have eT : He.obsT fa fn ts (KZ sel h.get?) = He.valT fn ts w := congrArg (fun z : He.AlX => z.1) e
  have eB : (ex (KZ sel h.get?) && He.tabsB h.get? tf (KZ sel h.get?)) = true := congrArg (fun z : He.AlX => z.2) e
  obtain ⟨b1, b2⟩ := He.ba eB
  have one : ∀ p ∈ tf, PySem.W.codeHdIn (KZ sel h.get?) (He.cT (KZ sel h.get?) p).1 (He.cT (KZ sel h.get?) p).2 = true ∧ ∃ o, h.get? (He.cT (KZ sel h.get?) p).2 = some o ∧ He.emptyTab o = true := fun p hp => by
    obtain ⟨c1, c2⟩ := He.ba (List.all_eq_true.mp b2 p hp)
    refine ⟨c1, ?_⟩
    cases q : h.get? (He.cT (KZ sel h.get?) p).2 with
    | none => rw [q] at c2; cases c2
    | some o => rw [q] at c2; exact ⟨o, rfl, c2⟩
  refine ⟨eT, b1, fun p hp => (one p hp).1, fun p hp => ?_, fun p hp => ?_⟩
  · obtain ⟨_, o, q, z⟩ := one p hp
    exact He.frT_none q z
  · obtain ⟨_, o, q, z⟩ := one p hp
    rw [q, He.emptyTab_eq z]
def hookZ (sel : Sel) (fa : List He.Fa) (fn : List He.DefD) (ts : List He.Tab) (tf : List He.Defn) (ex : PySem.W.Frag → Bool) : PySem.W.Hook where
  α := He.AlX
  obs := fun s => obsZ sel fa fn ts tf ex s.heap.get?
  val := fun w => He.valX fn ts w
  says := fun w h => ∃ K : PySem.W.Frag, K.In h ∧ He.SaysX fa fn ts tf ex w h K
  of := fun _ _ e => ⟨_, He.frT_in, saysZ_of e⟩
  keeps := fun _ _ _ z k => by
    obtain ⟨K, inK, c⟩ := z
    exact ⟨K, PySem.W.Frag.In.keeps inK k, ⟨c.t, c.more, c.hd, c.out, fun p hp => k _ _ (c.empty p hp)⟩⟩
theorem obsZ_eq {sel : Sel} {fa : List He.Fa} {fn : List He.DefD} {ts : List He.Tab} {tf : List He.Defn} {ex : PySem.W.Frag → Bool} {g : Addr → Option Obj} {s : Shared} (h : ∀ a, g a = s.heap.get? a) : obsZ sel fa fn ts tf ex g = (hookZ sel fa fn ts tf ex).obs s := by
  have e : g = s.heap.get? := funext h
  subst e
  rfl
end Own
set_option Elab.async false
set_option linter.all false
set_option maxRecDepth 100000
set_option maxHeartbeats 4000000
namespace Own
open PySem PySem.Spec PyProof.Rows L2 LamX
/-! ### a caught error that is kept as a value -/
/-- an exception object of the class cls (own dict at d) stands at a -/
def Caught (cls : Value) (d : Option Addr) (a : Addr) : HO := .ext fun h => ∃ oe : Obj, h.get? a = some oe ∧ Zc cls d oe ∧ ∃ vs, oe.data = .fields vs
theorem caught_ok {P : Program} {w : World} {H : Hp} {h : Heap} {a : Addr} {cls : Value} {d : Option Addr} {oe : Obj} (e : h.get? a = some oe) (z : Zc cls d oe) (k : ∃ vs, oe.data = .fields vs) : ObjOk P w H h a (Caught cls d a) :=
  ⟨⟨oe, e, z, k⟩, ⟨oe, e⟩, fun _ _ ⟨o1, e1, z1, k1⟩ st => ⟨o1, st _ e1, z1, k1⟩⟩
section
variable {X : Cx} {pins : List (Addr × Obj)}
/-- a new address gets known: nothing of the entry, no cell, no pin stands there -/
theorem note_new {σ : L2.St} {H : Hp} {s : Shared} {a : Addr} {u : HO} (I : Inv X pins σ H s) (na : H a = none) (n0 : X.s_0.heap.get? a = none) (nL : a ≠ X.env.locals) (nC : ∀ x c, X.env.cells.lookup x = some c → c ≠ a) (nP : ∀ p ∈ X.pn ++ pins, p.1 ≠ a)
    (new : ObjOk X.prog X.w (upd H a u) s.heap a u) : Inv X pins σ (upd H a u) s := by
  have apart : ∀ {b : Addr} {o : Obj}, X.s_0.heap.get? b = some o → b ≠ a := fun {b o} e z => by
    rw [z, n0] at e
    cases e
  refine ⟨I.ok, I.os, I.bare, ?_, I.loc, I.cell, ?_, ?_, ?_, ?_, I.len⟩
  · refine ⟨I.base.keep, I.base.slot, fun b o e n hx => ?_, I.base.there, fun b xs e => ?_, fun b o xs e => ?_, fun b ps e => ?_⟩
    · rw [upd_ne (apart e)]
      exact I.base.free b o e n hx
    · have q := I.base.tups b xs e
      rw [upd_ne (ne_of_none q na)]
      exact q
    · have q := I.base.frzs b o xs e
      rw [upd_ne (ne_of_none q na)]
      exact q
    · obtain ⟨more, q⟩ := I.base.tbls b ps e
      exact ⟨more, by rw [upd_ne (ne_of_none q na)]; exact q⟩
  · rw [upd_ne nL.symm]
    exact I.free
  · intro x c e
    rw [upd_ne (nC x c e)]
    exact I.freeC x c e
  · intro p hp
    obtain ⟨h1, h2, h3⟩ := I.pin p hp
    exact ⟨h1, by rw [upd_ne (nP p hp)]; exact h2, h3⟩
  · intro b o e
    by_cases hb : b = a
    · subst hb
      rw [upd_same] at e
      cases e
      exact new
    · rw [upd_ne hb] at e
      exact (I.hok b o e).stay (fun c v _ q => q) (fun c q => by rw [upd_ne (ne_of_none q na)]; exact q) fun c xs q => by rw [upd_ne (ne_of_none q na)]; exact q
/-- what is wished of an error that the clause takes and keeps -/
def wKeep (K : PySem.W.Frag) (c : Value) (i : Nat) (ts : Addr → Value → Option Addr → TS) (D : Ends) : WX := fun cls d σ H =>
  ∃ b, PySem.W.exmOne K cls c = some b ∧ (b = true → ∀ a, H a = none → ts a cls d { nx := fun σ' H' => H' a = none → D.nx (σ'.set i none) (upd H' a (Caught cls d a)), rt := fun _ _ => False } (σ.set i (some (.ref a))) H) ∧ (b = false → False)
/-- try: body / except x as n: suite, the error being known behind it; every error is of that class -/
theorem ps_try_keep {x n : Str} {c : Value} {i : Nat} {body suite : List Stmt} {b0 : Stmt} {np pos pos1 : Pos} {tb : WX → TS} {ts : Addr → Value → Option Addr → TS}
    (hs : X.stack = X.env :: X.outer) (hex : X.ex = []) (hf : X.env.frame = some X.env.locals) (hN : X.N.Nodup) (hi : X.N[i]? = some n) (hln : X.env.kindOf n = some .local) (hc : Names X x c)
    (hb : ∀ (W : WX) (pn : List (Addr × Obj)) (xe : Value → Shared → Prop), Takes (X.tr pn xe) W → PassesOwn (model X.prog X.w) X.A X.env xe → PSs (X.tr pn xe) body (tb W))
    (hsu : ∀ (a : Addr) (oe : Obj) (cls : Value) (d : Option Addr) (pn : List (Addr × Obj)), Zc cls d oe → (∃ vs, oe.data = .fields vs) → PSs (X.suite a ((a, oe) :: pn)) (b0 :: suite) (ts a cls d)) :
    PS X (.Try body [.ExceptHandler (some (.Name x np)) (some n) (b0 :: suite) pos1] [] [] pos) (fun D σ H => tb (wKeep X.K c i ts D) D σ H) := by
  constructor
  intro pins s σ H D I h
  have ok := I.ok
  have frm : X.A.frames = some (X.env :: X.outer) := ok.frames.trans (congrArg some hs)
  refine wpAny_Try_except (wpAny_mono (hb (wKeep X.K c i ts D) (X.pn ++ pins) (fun e t1 => wpAny (model X.prog X.w) X.A (noteFrame e X.env) (fun _ t2 => wpAny (model X.prog X.w) X.A (setFlight e none) (fun _ t3 =>
    wpAny (model X.prog X.w) X.A (handleBy e X.env [.ExceptHandler (some (.Name x np)) (some n) (b0 :: suite) pos1]) (SP X pins D) X.xe t3) X.xe t2) X.xe t1) (fun u t hx => ?_) PassesOwn.looking |>.run [] s σ H D (I.toTry _) h) (fun fl t hq => ?_) (fun _ _ he => he))
  · obtain ⟨a, B, s2, p2, σ2, H2, cls, d, rfl, Jt, nb, up, sky, na, os, ag, b, hb1, hyes, hno⟩ := hx
    have J : Inv X pins σ2 H2 s2 := Jt.ofTry ok
    rw [hs] at sky
    refine Sky.land Zc.steady frm hf sky fun h3 fl3 up3 => ?_
    have J3 : Inv X pins σ2 H2 { t with heap := h3 } := J.landed nb fl3.1 (up.trans up3) os ag
    obtain ⟨oe3, vs3, he3, hz3, hd3⟩ := fl3.there
    have out : a ∉ frs (X.env :: X.outer) := fun hm => by
      obtain ⟨_, o1, e1, no⟩ := fl3.2.2.1.mem hm
      rw [he3] at e1
      cases e1
      exact no _ hd3
    have nL : a ≠ X.env.locals := fun z => out (List.mem_filterMap.mpr ⟨X.env, List.mem_cons_self, by rw [hf, z]⟩)
    have nF : a ∉ X.fs := fun hm => by
      obtain ⟨e1, he1, q⟩ := List.mem_filterMap.mp hm
      exact out (List.mem_filterMap.mpr ⟨e1, List.mem_cons_of_mem _ he1, q⟩)
    -- nothing stood at a when the body was entered
    have nB : B.get? a = none := fl3.2.1
    have n2 : s2.heap.get? a = none := by
      cases q : s2.heap.get? a with
      | none => rfl
      | some o =>
        have z := nb a o q (by rw [hs]; exact out)
        rw [nB] at z
        cases z
    have n0 : X.s_0.heap.get? a = none := by
      cases q : X.s_0.heap.get? a with
      | none => rfl
      | some o =>
        obtain ⟨o1, q1⟩ := J.base.there a o q (by rw [hex]; exact List.not_mem_nil)
        rw [n2] at q1
        cases q1
    have nC : ∀ y c, X.env.cells.lookup y = some c → c ≠ a := fun y c e z => by
      obtain ⟨v, o, q, _⟩ := J.cell y c e
      rw [z, n2] at q
      cases q
    have nP : ∀ p ∈ X.pn ++ pins, p.1 ≠ a := fun p hp z => by
      have q := (J.pin p hp).1
      rw [z, n2] at q
      cases q
    refine wpAny_handleBy_cons (codeAny_handlers_test ?_) (fun z => nomatch z)
    have inS := J3.suite he3 hd3 na nL nF
    have asked : ∀ {Q E : Value → Shared → Prop}, Q c { t with heap := h3 } → wpAny (model X.prog X.w) (X.A.mark (some (.ref a))) (eval (.Name x np) X.env) Q E { t with heap := h3 } := fun {Q E} q => by
      obtain ⟨hg, hdbg, hm⟩ := hc
      rcases hm with hm | ⟨hm, hv, hnn⟩
      · exact ld_glob (X := X.suite a ((a, oe3) :: (X.pn ++ pins))) inS hg hm q hdbg
      · exact ld_blt (X := X.suite a ((a, oe3) :: (X.pn ++ pins))) inS hg hm hv q hnn hdbg
    have kind : PySem.W.Looks (model X.prog X.w) h3 (typeOf (.ref a)) cls := fun A Q E s k q => wpAny_typeOf_ref (k _ _ he3) (by rw [hz3.1]; exact q)
    refine asked ((PySem.W.exm_one (M := model X.prog X.w) (J3.kIn) kind hb1).here ?_)
    cases b with
    | false => exact (hno rfl).elim
    | true =>
      refine codeAny_handlers_suite_as (HandSPX.lands_againZ fl3 fun h4 fl4 up4 => ?_)
      have J4 : Inv X pins σ2 H2 { t with heap := h4 } := J.landed nb fl4.1 ((up.trans up3).trans up4) os ag
      obtain ⟨oe4, vs4, he4, hz4, hd4⟩ := fl4.there
      refine store_ok (X := X.suite a ((a, oe4) :: (X.pn ++ pins))) (v := .ref a) (J4.suite he4 hd4 na nL nF) hN hi (.inl hln) rfl (fun s5 S5 => ?_) (.inr hln)
      refine wpAny_mono ((hsu a oe4 cls d (X.pn ++ pins) hz4 ⟨_, hd4⟩).run [] s5 _ H2 _ S5 (hyes rfl a na)) (fun fl s6 hsp => ?_) (fun _ _ z => False.elim z)
      cases fl with
      | next =>
        obtain ⟨σ6, H6, S6, q6⟩ := hsp
        refine gone_ok (X := X.suite a ((a, oe4) :: (X.pn ++ pins))) S6 hN hi hln fun s7 S7 => ?_
        obtain ⟨e7, n7, _⟩ := S7.pin (a, oe4) (List.mem_append.mpr (.inl List.mem_cons_self))
        exact ⟨_, _, note_new (S7.unsuite ok) n7 n0 nL nC nP (caught_ok e7 hz4 ⟨_, hd4⟩), q6 n7⟩
      | brk =>
        obtain ⟨_, _, _, q6⟩ := hsp
        exact False.elim q6
      | cont =>
        obtain ⟨_, _, _, q6⟩ := hsp
        exact False.elim q6
      | ret u =>
        obtain ⟨_, _, _, _, _, q6⟩ := hsp
        exact False.elim q6
  · cases fl with
    | next =>
      obtain ⟨σ2, H2, J, q⟩ := hq
      exact wpAny_execs_nil ⟨σ2, H2, J.ofTry ok, q⟩
    | brk =>
      obtain ⟨σ2, H2, J, q⟩ := hq
      exact ⟨σ2, H2, J.ofTry ok, q⟩
    | cont =>
      obtain ⟨σ2, H2, J, q⟩ := hq
      exact ⟨σ2, H2, J.ofTry ok, q⟩
    | ret u =>
      obtain ⟨v, σ2, H2, J, r, q⟩ := hq
      exact ⟨v, σ2, H2, J.ofTry ok, r, q⟩
end
theorem tk_len {X : Cx} {W : WX} (tk : Takes X W) {n : Nat} (hn : X.N.length = n) : Takes X (fun cls d σ H => σ.length = n → W cls d σ H) := fun u s' ⟨a, B, sI, pins, σ, H, cls, d, e, I, h1, h2, h3, h4, h5, h6, w⟩ =>
  tk u s' ⟨a, B, sI, pins, σ, H, cls, d, e, I, h1, h2, h3, h4, h5, h6, w (I.len.trans hn)⟩
/-- isinstance(e, c), e an error that was caught and kept, c an own class; or a value of a known kind -/
def rIsX (K : PySem.W.Frag) : List V → Hp → VK → Prop := fun xs H Q => ∃ (a D : Addr) (dd : Option Addr) (c : V) (cv : Value) (b : Bool), xs = [.ref a, c] ∧ H a = some (Caught (.ref D) dd a) ∧ dd = none ∧ ExcC K D ∧ ClsV c cv ∧ PySem.W.kitOne K (.ref D) cv = some b ∧ Q (.bl b) H
theorem call_isX {X : Cx} : CallR X (.builtin "isinstance") (rIsX X.K) := by
  intro pins s σ H xs us Q I r h
  obtain ⟨a, D, dd, c, cv, b, rfl, ha, rfl, C, k, e, q⟩ := h
  obtain ⟨u1, u2, rfl, r1, r2⟩ := vals2 r
  have e2 := k.eq r2
  subst e2
  cases (show u1 = Value.ref a from r1)
  obtain ⟨⟨oe, ho, hz, vs, hv⟩, _, _⟩ := I.hok a _ ha
  have J : PySem.W.InstAt s.heap a oe D none := by
    obtain ⟨oc, od, oda, osl⟩ := oe
    obtain ⟨h1, h2⟩ := hz
    dsimp only at h1 h2 hv
    subst h1 h2 hv
    exact ⟨ho, rfl, rfl, trivial⟩
  exact PySem.W.kia_one (PySem.W.handS_kitx_exc C.hg C.hk C.hs C.hd C.ha C.hn C.ht C.hm) I.kIn J e (fun z => nomatch z) fun tk => ⟨.bl b, H, I.tok tk, rfl, q⟩
/-- f(e, ..) by either of two readings -/
theorem CallR.either {X : Cx} {f : Value} {r1 r2 : List V → Hp → VK → Prop} (h1 : CallR X f r1) (h2 : CallR X f r2) : CallR X f (fun xs H Q => r1 xs H Q ∨ r2 xs H Q) := by
  intro pins s σ H xs us Q I r h
  rcases h with h | h
  · exact h1 pins s σ H xs us Q I r h
  · exact h2 pins s σ H xs us Q I r h
/-! ### the law's own catcher: found = None; try: action() / except E as error: found = error; return found -/
def TKeep (K : PySem.W.Frag) (CS : Addr) : (XK → Hp → VK → Prop) → Hp → VK → Prop := fun tl H Q =>
  tl (fun cls d H' => ∃ b, PySem.W.exmOne K cls (.ref CS) = some b ∧ (b = true → ∀ a, H' a = none → Q (.ref a) (upd H' a (Caught cls d a))) ∧ (b = false → False)) H (fun _ H' => ∃ v, (some (some V.non) : Option (Option V)) = some (some v) ∧ Q v H')
theorem keep_gives {X : Cx} {Ng : List Str} {x a e n f q : Str} {sg : Scope} {g CS : Addr} {cdg : Value} {k1 : Nat} {p1 p2 p3 p4 p5 p6 p7 p8 p9 p10 p11 p12 p13 p14 : Pos}
    (hN : Ng = [a, f, n]) (nd : Ng.Nodup) (hlf : sg.names.lookup f = some .local) (hln : sg.names.lookup n = some .local) (hge : sg.names.lookup e = some .globalImplicit) (hme : X.mg e = some (.ref CS)) (hde : (e == ("__debug__" : Str)) = false)
    (hdf : (f == ("__debug__" : Str)) = false) (hcf : (f == ("__classdict__" : Str)) = false) (hdn : (n == ("__debug__" : Str)) = false) (hcn : (n == ("__classdict__" : Str)) = false) :
    GivesTo X Ng x sg g cdg [.Assign [.Name f p1] (.Constant .none k1 p2) p3, .Try [.Expr (.Call (.Name a p4) [] [] p5) p6] [.ExceptHandler (some (.Name e p7)) (some n) [.Assign [.Name f p8] (.Name n p9) p10] p11] [] [] p12, .Return (some (.Name f p13)) p14] a q (TKeep X.K CS) := by
  subst hN
  intro fa c' s H Q tl act hc h
  have hgl : Gl (cxOf C8.CX0 X.prog X.w X.K X.mg X.base [a, f, n] x sg g cdg X.A X.stack s H C8.E0).nox e := hge
  refine ⟨_, pss_cons (ps_set (X := (cxOf C8.CX0 X.prog X.w X.K X.mg X.base [a, f, n] x sg g cdg X.A X.stack s H C8.E0).nox) (i := 1) nd rfl (Or.inl hlf) pe_non (hf := Or.inr hlf))
    (pss_cons (ps_try_keep (X := (cxOf C8.CX0 X.prog X.w X.K X.mg X.base [a, f, n] x sg g cdg X.A X.stack s H C8.E0).nox) (i := 2) (c := .ref CS)
      (tb := fun W D σ H => ∃ Ech : XK, (∀ cls d σ' H', Ech cls d H' → σ'.length = 3 → W cls d σ' H') ∧ σ[0]? = some (some (.ref fa)) ∧ H c' = some (CodeO c' q) ∧ tl Ech H fun _ H1 => D.nx σ H1)
      (ts := fun a cls d => tAsg (tVar 2) (gName 1))
      rfl rfl rfl nd rfl hln ⟨hgl, hde, .inl hme⟩ (fun W pn xe tk _ => ?_) (fun a oe cls d pn _ _ => pss_one (ps_set (i := 1) nd rfl (Or.inl hlf) (pe_var rfl (Or.inl hln) hdn hcn) (hf := Or.inr hlf))))
    (pss_one (ps_ret (pe_var (i := 1) rfl (Or.inl hlf) hdf hcf)))), ?_⟩
  · refine ⟨fun pins s' σ H' D I h' => ?_⟩
    obtain ⟨Ech, hW, h1, h2, h3⟩ := h'
    have tk2 := tk_len tk (n := 3) rfl
    exact (pss_one (ps_expr (pos := p6) (act (fun cls d σ H => σ.length = 3 → W cls d σ H) pn xe Ech p4 p5 tk2 hW))).run pins s' σ H' D I ⟨h1, h2, h3⟩
  · refine ⟨fun cls d H' => ∃ b, PySem.W.exmOne X.K cls (.ref CS) = some b ∧ (b = true → ∀ a, H' a = none → Q (.ref a) (upd H' a (Caught cls d a))) ∧ (b = false → False), fun cls d σ' H' hE hl => ?_, rfl, hc, h⟩
    obtain ⟨b, e1, e2, e3⟩ := hE
    refine ⟨b, e1, fun hb a na => ?_, e3⟩
    match σ', hl with
    | [u1, u2, u3], _ => exact ⟨_, rfl, fun na => ⟨_, rfl, e2 hb a na⟩⟩
end Own
set_option Elab.async false
set_option linter.all false
set_option maxRecDepth 100000
set_option maxHeartbeats 4000000
/-! ### an own error with one field: def __init__(self, p): super().__init__('..'); self.f = p -/
namespace PySem
namespace SupX
open PySem.W PySem.Calls PyProof.Rows PySem.HandSPX
/-- what is fixed of the text: the class's name, the parameter, the field, the message -/
structure Txt where
  x : Str
  p : Str
  f : Str
  m : Str
def iA (t : Txt) (p1 p2 : Pos) : Arguments := { posonlyargs := [], args := [{ arg := "self", annotation := none, pos := p1 }, { arg := t.p, annotation := none, pos := p2 }], vararg := none, kwonlyargs := [], kw_defaults := [], kwarg := none, defaults := [] }
def iB (t : Txt) (j : Nat) (q1 q2 q3 q4 q5 q6 q7 q8 q9 q10 : Pos) : List Stmt := [.Expr (.Call (.Attribute (.Call (.Name "super" q1) [] [] q2) "__init__" q3) [.Constant (.str t.m) j q4] [] q5) q6, .Assign [.Attribute (.Name "self" q7) t.f q8] (.Name t.p q9) q10]
def iS (t : Txt) : Scope := { kind := .function, names := [(PySem.Str.ofString "self", .local), (t.p, .local), (PySem.Str.ofString "__class__", .free), (PySem.Str.ofString "super", .globalImplicit)], isGenerator := false, isCoroutine := false, more := [] }
/-- what the written part says of the class at C, of its __init__ at fI, of the cell at cc -/
structure Has (prog : Program) (K : Frag) (mg : Str → Option Value) (t : Txt) (C fI : Addr) : Prop where
  gC : mg t.x = some (.ref C)
  cls : ∃ nm q N bs bm sn sub ab col dd k0 k1 k2 k3 k5, K.lookup C = some (excClassObj nm q C N bs bm true sn sub ab col dd k0 k1 k2 k3 k5 "ValueError.__new__") ∧ refsVE bm = true
  sa : findIn K (.ref C) "__setattr__" = some (some (.builtin "object.__setattr__"))
  noN : findIn K (.ref C) t.f = some none
  iC : findIn K (.ref C) "__init__" = some (some (.ref fI))
  tC : typeIn K (.ref fI) = some (.type "function")
  kC : keepIn K (.ref C) = true
  exC : subIn K (.ref C) (.type "BaseException") = some true
  tyC : typeIn K (.ref C) = some (.type "type")
  sVE : subIn K (.ref C) (.type "ValueError") = some true
  mro : mroIn K C (.ref C) = some true
  sup : ks_superIn K C C "__init__" = some (some (.builtin "ValueError.__init__"))
  ini : excInitIn K C He.veBase "ValueError.__new__" = true
  tp : nsIn K cStatics "thirdparty.any" = some none
  gS : mg "super" = none
  pn : (t.p == ("__debug__" : Str)) = false ∧ t.p ≠ "self"
  lself : (iS t).names.lookup ("self" : Str) = some .local
  lp : (iS t).names.lookup t.p = some .local
  lcls : (iS t).names.lookup ("__class__" : Str) = some .free
  lsup : (iS t).names.lookup ("super" : Str) = some .globalImplicit
  fn : ∃ (cc cda : Addr) (oc ccl cl : Value) (od cdd cld : Option Addr) (kV doc pm : Value) (an : Option Addr) (ct : Value) (osl ccs csl : Array (Option Value)) (vs : Array Value) (file : Str) (tf : Tok) (qual : Str) (j : Nat) (p1 p2 q1 q2 q3 q4 q5 q6 q7 q8 q9 q10 : Pos),
    K.lookup fI = some ⟨oc, od, .func (fnX "__init__" qual (iA t p1 p2) (iB t j q1 q2 q3 q4 q5 q6 q7 q8 q9 q10) (iS t) [("__class__", cc)] .none kV doc pm an (.ref cda) ct), osl⟩ ∧ codeIn K (.ref cda) qual = true ∧
      K.lookup cda = some ⟨ccl, cdd, .fields vs, ccs⟩ ∧ vs[2]? = some (.str file tf) ∧ ((prog.main.file : Str) == file) = true ∧ K.lookup cc = some ⟨cl, cld, .cell (some (.ref C)), csl⟩ ∧
      (∀ a b : Value, bindArgs (fnX "__init__" qual (iA t p1 p2) (iB t j q1 q2 q3 q4 q5 q6 q7 q8 q9 q10) (iS t) [("__class__", cc)] .none kV doc pm an (.ref cda) ct) ⟨[a, b], []⟩ = pure [(("self" : Str), a), (t.p, b)]) ∧
      (∀ env : Env, ∃ pl : Sem Bool, eval (.Call (.Attribute (.Call (.Name "super" q1) [] [] q2) "__init__" q3) [.Constant (.str t.m) j q4] [] q5) env = (do
        let ov ← attributeBase (.Call (.Name "super" q1) [] [] q2) "__init__" env (eval (.Call (.Name "super" q1) [] [] q2) env)
        standAt q3.atName
        let (f, first) ← holding [ov] (getMethod ov "__init__" pl)
        callWith q5 f first (backTo q5 (starEach [.Constant (.str t.m) j q4] env)) []))
  top : (prog.main.scope.names.lookup ("super" : Str)).isSome = false
theorem one_size (v : Value) : [v].length ≤ sizeLine := by
  rw [sizeLine_eq]
  exact (by decide : 1 ≤ 16777216)
/-- what __init__ leaves of a fresh exception at x -/
structure InitEnd (h h' : Heap) (f : Str) (x C dx t1 : Addr) (v : Value) : Prop where
  keep : ∀ b o, b ≠ x → h.get? b = some o → h'.get? b = some o
  obj : h'.get? x = some { cls := .ref C, dict := some dx, data := .fields #[.ref t1, .none, .none, .none, .bool false, .none] }
  dbig : h.objs.size ≤ dx
  dne : dx ≠ x
  ns : h'.Ns1 dx (fun y => if y = f then some v else none)
/-- a made error -/
structure OwnMade (h h' : Heap) (f : Str) (e C d : Addr) (v : Value) : Prop where
  keep : ∀ b o, h.get? b = some o → h'.get? b = some o
  new : h.objs.size ≤ e
  obj : ∃ oe vs, h'.get? e = some oe ∧ oe.cls = .ref C ∧ oe.dict = some d ∧ oe.data = .fields vs ∧ vs[1]? = some .none
  dbig : h.objs.size ≤ d
  dne : d ≠ e
  ns : h'.Ns1 d (fun y => if y = f then some v else none)
section
variable {prog : Program} {w : World} {A : Around} {E : Value → Shared → Prop} {R : Result → Shared → Prop} {s : Shared} {K : Frag} {mg mb : Str → Option Value} {t : Txt} {C fI : Addr}
theorem sup_init (T : Has prog K mg t C fI) {x t0 : Addr} {v : Value} (X : K.In s.heap) (hlim : s.heap.NoLimit) (hg : s.heap.Ns mainGlobals mg) (hb : s.heap.Ns builtinsNs mb) (hsb : mb "super" = some (.type "super")) (hx : s.heap.get? x = some (excO C t0)) (hnx : K.lookup x = none) (hroom : A.depth < recursionLimit)
    (hq : ∀ h' tk dx t1, InitEnd s.heap h' t.f x C dx t1 v → R (.ok (.ret .none)) { s with heap := h', toks := tk }) :
    codeAny (model prog w) A (.call (.ref fI) ⟨[.ref x, v], []⟩) R s := by
  obtain ⟨cc, cda, oc, ccl, cl, od, cdd, cld, kV, doc, pm, an, ct, osl, ccs, csl, vs, file, tf, qual, j, p1, p2, q1, q2, q3, q4, q5, q6, q7, q8, q9, q10, ho, hcd, hcode, hvs, hfile, hcell, hbind, hev⟩ := T.fn
  obtain ⟨nm, q, N, bs, bm, sn, sub, ab, col, dd, k0, k1, k2, k3, k5, hC, hbm⟩ := T.cls
  have hcl : clsIn K C = some { name := nm, bases := bs, mro := .ref C :: bm, ns := N, qualname := q, hasDict := true, slotNames := sn, subclasses := sub, abstract := ab, collection := col, hasDel := false } := by unfold clsIn; rw [hC] <;> rfl
  have nps : ((PySem.Str.ofString "self" : Str) == t.p) = false := by
    rw [beq_eq_false_iff_ne]
    exact fun e => T.pn.2 e.symm
  have nps2 : (t.p == (PySem.Str.ofString "self" : Str)) = false := by
    rw [beq_eq_false_iff_ne]
    exact T.pn.2
  have lself := T.lself
  have lp := T.lp
  refine ks_codeAny_call_defAt (binds := [("self", .ref x), (t.p, v)]) hroom (X _ _ ho) rfl hlim (codeRec_of X hcd) rfl (BindsTo.of_eq ?_) (by intro y hy; unfold iS at hy; simp at hy; rcases hy with rfl | rfl | rfl | rfl <;> simp) (by
    intro y hy
    rcases List.mem_cons.mp hy with e | hy
    · rw [e]; exact lself
    · rw [List.mem_singleton.mp hy]; exact lp) (fun h₁ hn k => ?_) rfl rfl rfl
  · exact hbind _ _
  have hxL : x ≠ s.heap.objs.size := Nat.ne_of_lt (Heap.lt_size hx)
  have F : Fr (hideAll s.heap [x]) s.heap.objs.size h₁ (fun y => ([(("self" : Str), Value.ref x), (t.p, v)] : List (Str × Value)).reverse.lookup y) := ⟨hn, fun b o e => k b o (of_hideAll _ e), Nat.le_of_eq (hideAll_size _ _)⟩
  have Nw : News (hideAll s.heap [x]) s.heap.objs.size h₁ [(x, excObj C t0 none .none)] := fun p hp => by
    rw [List.mem_singleton.mp hp]
    exact ⟨k _ _ hx, hxL, hideAll_none _ List.mem_cons_self⟩
  have X₀ : K.In (hideAll s.heap [x]) := fun a o e => hideAll_get _ (X a o e) fun m => by
    rw [List.mem_singleton.mp m, hnx] at e
    cases e
  have mself : (fun y => ([(("self" : Str), Value.ref x), (t.p, v)] : List (Str × Value)).reverse.lookup y) "self" = some (.ref x) := by
    show List.lookup ("self" : Str) [(t.p, v), (("self" : Str), Value.ref x)] = _
    simp only [List.lookup, nps, beq_self_eq_true]
  have mp : (fun y => ([(("self" : Str), Value.ref x), (t.p, v)] : List (Str × Value)).reverse.lookup y) t.p = some v := by
    show List.lookup t.p [(t.p, v), (("self" : Str), Value.ref x)] = _
    simp only [List.lookup, beq_self_eq_true]
  generalize (fun y => ([(("self" : Str), Value.ref x), (t.p, v)] : List (Str × Value)).reverse.lookup y) = mm at F mself mp hn
  have X₁ : K.In h₁ := X₀.keeps F.keep
  have I : InstAt h₁ x (excObj C t0 none .none) C none := ⟨k _ _ hx, rfl, rfl, trivial⟩
  have hC1 := X₁ _ _ hC
  -- super()
  obtain ⟨oD, hD1, hD2⟩ : ∃ oD, h₁.get? C = some oD ∧ oD.data = .cls { name := nm, bases := bs, mro := .ref C :: bm, ns := N, qualname := q, hasDict := true, slotNames := sn, subclasses := sub, abstract := ab, collection := col, hasDel := false } := ⟨_, hC1, rfl⟩
  obtain ⟨pl, hpl⟩ := hev (callEnv (fnX "__init__" qual (iA t p1 p2) (iB t j q1 q2 q3 q4 q5 q6 q7 q8 q9 q10) (iS t) [("__class__", cc)] .none kV doc pm an (.ref cda) ct) s.heap.objs.size fI)
  refine ks_wpAt_execs_cons (ks_wpAt_Expr_any (ks_wpAt_MethodCall (pl := pl) ?_ hpl))
  refine ks_wpAt_super_base T.lsup T.lcls rfl rfl (X₁ _ _ ho) rfl rfl rfl (X₁ _ _ hcode) rfl hvs hfile T.top ?_
  refine ks_loadName_global rfl T.lsup (loadGlobal_builtin (hg.keeps k) T.gS (hb.keeps k) hsb ⟨rfl, ?_⟩)
  refine wpAny_loadName_free rfl T.lcls rfl ⟨_, X₁ _ _ hcell, rfl⟩ ?_
  refine wpAny_loadName_local rfl lself hn mself ?_
  refine ks_wpAny_isType_cls hD1 hD2 ⟨rfl, ?_⟩
  refine ks_wpAny_call_super hD1 hD2 I.at_ I.cls (fun c e => by cases e) (looks_mroIn X₁ T.mro) (fun h₂ e2 kk => ?_)
  obtain ⟨F2, N2, _⟩ := ks_newsPush (s := { s with heap := h₁, toks := s.toks + 2 }) F Nw rfl e2 kk
  refine kxs_method (s := { s with heap := h₂, toks := s.toks + 2 }) kxs_ValueError F2 X₀ N2 List.mem_cons_self (ox := excObj C t0 none .none) (odx := none) ⟨kk _ _ I.at_, rfl, rfl, trivial⟩ T.tp T.sup T.sVE rfl (fun u h₃ F3 N3 _ => ?_)
  refine kxs_callWith1 N3 List.mem_cons_self ?_
  refine spliced_cons (Constant_str (k := j) (pos := q4) ?_)
  refine spliced_nil ⟨kxs_at N3 List.mem_cons_self, ?_⟩
  refine kxs_call F3 X₀ N3 PySem.F.excBase_ValueError T.ini List.mem_cons_self (.tail ?_ (.tail ?_ (.head (fun p hp => nomatch hp)))) (one_size _) (fun t1 h₄ F4 N4 _ => ?_)
  · exact fun e => by
      have q := (N3 (u, kxs_mw "ValueError.__init__" x) List.mem_cons_self).1
      have q2 := (N3 (x, excObj C t0 none .none) (by simp)).1
      rw [show u = x from e] at q
      rw [q] at q2
      cases q2
  · exact fun e => by
      have q := (N3 (_, ks_superObj C x C) (List.mem_cons_of_mem _ List.mem_cons_self)).1
      have q2 := (N3 (x, excObj C t0 none .none) (by simp)).1
      rw [show _ = x from e] at q
      rw [q] at q2
      cases q2
  · -- self.f = p
    have hx4 : h₄.get? x = some (excObj C t1 none .none) := (N4 (x, excObj C t1 none .none) (by simp)).1
    have X₄ : K.In h₄ := X₀.keeps F4.keep
    refine wpAt_of_wpAny (wpAny_execs_cons (plainObj_wpAny_Assign_Attribute ?_))
    refine wpAny_Name (wpAny_loadName_local rfl lp F4.ns mp ?_) T.pn.1
    refine wpAny_Name (wpAny_loadName_local rfl lself F4.ns mself ?_) (by decide)
    refine set_plain X₄ (ox := excObj C t1 none .none) (od := none) ⟨hx4, rfl, rfl, trivial⟩ T.sa ?_
    refine exc_osa X₄ hx4 hcl (show refsVE (.ref C :: bm) = true from hbm) rfl T.noN (fun h₅ tk₅ dx k₅ dn dne hx5 hn5 => ?_)
    refine wpAny_execs_nil (hq h₅ tk₅ dx t1 ⟨fun b o hb e => k₅ b o hb (F4.keep b o (hideAll_get _ e fun m => hb (List.mem_singleton.mp m))), hx5, ?_, dne, hn5⟩)
    have z : s.heap.objs.size < h₄.objs.size := F4.ns.lt
    exact Nat.le_of_lt (Nat.lt_of_lt_of_le z dn)
/-- C(e): a new error with its field -/
theorem sup_made (T : Has prog K mg t C fI) {v : Value} (X : K.In s.heap) (hlim : s.heap.NoLimit) (hg : s.heap.Ns mainGlobals mg) (hb : s.heap.Ns builtinsNs mb) (hsb : mb "super" = some (.type "super")) (hroom : A.depth + 1 < recursionLimit)
    (hq : ∀ h' tk e d, OwnMade s.heap h' t.f e C d v → R (.ok (.ret (.ref e))) { s with heap := h', toks := tk }) :
    codeAny (model prog w) A (.call (.ref C) ⟨[v], []⟩) R s := by
  obtain ⟨nm, q, N, bs, bm, sn, sub, ab, col, dd, k0, k1, k2, k3, k5, hC, hbm⟩ := T.cls
  obtain ⟨hp, g, dr, tk, os⟩ := s
  have k : ∀ b o, hp.get? b = some o → ((hp.push (kdv_tup [v])).push (excO C hp.objs.size)).get? b = some o := fun b o e => Heap.get?_push_of_some _ (Heap.get?_push_of_some _ e)
  have hget : ((hp.push (kdv_tup [v])).push (excO C hp.objs.size)).get? (hp.objs.size + 1) = some (excO C hp.objs.size) := by heap_get
  have hnx : K.lookup (hp.objs.size + 1) = none := by
    cases e : K.lookup (hp.objs.size + 1) with
    | none => rfl
    | some o =>
      have z : hp.get? (hp.objs.size + 1) = some o := X _ _ e
      exact absurd (Nat.lt_of_succ_lt (Heap.lt_size z)) (Nat.lt_irrefl _)
  refine call_own F.excBase_ValueError (fun X => refsVE_contains X bm hbm) (X _ _ hC) (looks_findIn X T.iC) (fun self => bind_fn X self T.tC) (one_size v) ?_
  refine sup_init (s := ⟨(hp.push (kdv_tup [v])).push (excO C hp.objs.size), g, dr, tk, os⟩) T (X.keeps k) (hlim.keeps k) (hg.keeps k) (hb.keeps k) hsb hget hnx ?_ fun h' tk' dx t1 ⟨k', hx, dn, dne, hns⟩ => ?_
  · show A.depth + 1 < recursionLimit
    exact hroom
  · have old : ∀ b o, hp.get? b = some o → h'.get? b = some o := fun b o e => k' b o (Nat.ne_of_lt (Nat.lt_succ_of_lt (Heap.lt_size e))) (k b o e)
    have z : hp.objs.size + 1 + 1 ≤ dx := by
      first
        | (simpa only [Heap.size_push] using dn)
        | exact dn
        | (have q := dn; rw [Heap.size_push, Heap.size_push] at q; exact q)
    exact ⟨rfl, hq h' tk' (hp.objs.size + 1) dx ⟨old, Nat.le_succ _, ⟨_, _, hx, rfl, rfl, rfl, rfl⟩, Nat.le_trans (Nat.le_trans (Nat.le_succ _) (Nat.le_succ _)) z, dne, hns⟩⟩
end
end SupX
end PySem
set_option Elab.async false
set_option linter.all false
set_option maxRecDepth 100000
set_option maxHeartbeats 4000000
namespace PySem.W
open PySem PySem.Spec PySem.Calls PyProof.Rows
section
variable {prog : Program} {w : World} {A : Around} {E : Value → Shared → Prop} {s : Shared} {K : Frag} {x D : Addr} {ox : Obj} {od : Option Obj}
theorem find_data_any {C : Addr} {name : Str} {a g : Value} (h1 : (clsIn K C).isSome = true) (h2 : findIn K (.ref C) name = some (some a)) (h3 : specialIn K a "__get__" = some (some g)) (h4 : takesIn K a = some true) : findObj K C od name = some (.bind g a) := by
  cases e : clsIn K C with
  | none =>
    rw [e] at h1
    cases h1
  | some cd =>
    unfold findObj
    rw [e, Option.bind_some, h2, Option.bind_some]
    simp [h3, h4]
theorem own_class_any {Q : Option Value → Shared → Prop} (C : L2.ExcC K D) (X : K.In s.heap) (I : InstAt s.heap x ox D od) (h : Q (some (.ref D)) { s with toks := s.toks + 1 }) : wpAny (model prog w) A (getAttr? (.ref x) "__class__") Q E s := by
  have hfo : findObj K D od "__class__" = some (.bind (.builtin "getset_descriptor.__get__") (.builtin "object.__class__")) := find_data_any (by
    obtain ⟨cd, hc, _⟩ := any_some C.hd
    rw [hc]
    rfl) C.ha C.hn C.ht
  obtain ⟨hp, g, d, t, os⟩ := s
  have la := I.type (M := model prog w)
  have lb := looks_findIn (M := model prog w) X C.hg
  have lc := looks_findIn (M := model prog w) X C.hk
  have ld := looks_find (M := model prog w) X I hfo
  have sub : Looks (model prog w) hp (isInstance (.ref x) (.type "BaseException")) true := la.andThen (looks_subIn X C.hs)
  have z0 : (false && onTheHeap (Value.builtin "BaseException.__getattribute__")) = false := rfl
  have z2 : (Value.builtin "BaseException.__getattribute__" == Value.builtin "object.__getattribute__") = false := by decide +kernel
  have z1 : (onTheHeap (Value.ref D) && Value.builtin "BaseException.__getattribute__" == Value.builtin "object.__getattribute__") = false := by
    rw [z2]
    rfl
  unfold getAttr?
  unfold getAttrBy?
  unfold getAttrBy
  refine wpAny_bind (wpAny_mkText (wpAny_bind (wpAny_attempt (wpAny_holding (wpAny_bind (la.at (wpAny_bind (lb.at ?_))))))))
  show wpAny _ _ (if (onTheHeap (Value.ref D) && Value.builtin "BaseException.__getattribute__" == Value.builtin "object.__getattribute__") = true then _ else _) _ _ _
  rw [z1, if_neg Bool.false_ne_true]
  unfold getAttrByItsOwn
  unfold hookBefore
  refine wpAny_bind ?_
  rw [if_pos (show onTheHeap (Value.ref D) = true from rfl)]
  refine lc.at (wpAny_bind (wpAny_attempt (wpAny_holding ?_)))
  unfold callGetattribute
  rw [z0, if_neg Bool.false_ne_true]
  unfold boundAndCalled
  rw [PySem.F.excAttr_ValueError.ga.bind (.ref x)]
  refine wpAny_bind (wpAny_pure ?_)
  show wpAny _ _ (call (.builtin "BaseException.__getattribute__") [.ref x, .str "__class__" t]) _ _ _
  refine wpAny_call (codeAny_call_builtin PySem.F.excAttr_ValueError.ga.plain PySem.F.entry_bexc_ga ?_)
  refine @check_slot (model prog w) _ _ ⟨hp, g, d, t + 1, os⟩ "BaseException.__getattribute__" "BaseException" "__getattribute__" (.ref x) [.str "__class__" t] [] _ (by decide +kernel) (by decide +kernel) sub (PySem.F.args_bexc_ga (.ref x) (.str "__class__" t)) ?_
  unfold Builtin.«object.__getattribute__»
  refine wpAny_bind (wpAny_of_eq (a := ((Value.ref x : Value), [Value.str "__class__" t])) (by first | rfl | (simp only [slotArgs]; rfl)) ?_)
  refine wpAny_bind (wpAny_pure (wpAny_bind (la.at (wpAny_bind (ld.at ?_)))))
  show wpAny _ _ (holding [Value.builtin "object.__class__"] (call (.builtin "getset_descriptor.__get__") [.builtin "object.__class__", .ref x, .ref D]) >>= ret) _ _ _
  refine wpAny_bind (wpAny_holding (wpAny_call (class_get (s := ⟨hp, g, d, t + 1, os⟩) (ox := ox) (od := od) X I C.hm ?_)))
  refine wpAny_pure ?_
  show wpAny _ _ (handedOut (.ref D)) _ _ _
  rw [handedOut_of (v := .ref D) rfl]
  first
    | exact wpAny_pure (wpAny_pure h)
    | exact wpAny_pure h
    | exact wpAny_pure (wpAny_bind (wpAny_pure (wpAny_pure h)))
theorem kit_exc_any (C : L2.ExcC K D) : KitX K (.ref x) (.ref D) (fun h => InstAt h x ox D od) where
  ty := fun _ _ _ I => I.type
  it := fun _ _ X _ => by
    obtain ⟨cd, hc, _⟩ := any_some C.hd
    unfold clsIn at hc
    split at hc
    · rename_i ho
      intro A' Q' E' s' k q
      unfold isType
      unfold loadHead
      exact wpAny_bind (wpAny_loadPart (k _ _ (X _ _ ho)) (wpAny_pure q))
    · cases hc
  ne := fun h tp dd its n sl X htp => by
    obtain ⟨cd, hc, _⟩ := any_some C.hd
    refine Bool.eq_false_iff.mpr fun q => ?_
    obtain rfl : D = tp := Value.ref.inj (beq_iff_eq.mp q)
    unfold clsIn at hc
    split at hc
    · rename_i ho
      have z := (X _ _ ho).symm.trans htp
      cases z
    · cases hc
  ca := fun X I k => own_class_any C X I k
end
end PySem.W
namespace Own
open PySem PySem.Spec PyProof.Rows L2 LamX
theorem relO_one {f : Str} {v : V} {u : Value} (r : RelV v u) (y : Str) : RelO (List.lookup y [(f, v)]) (if y = f then some u else none) := by
  by_cases h : y = f
  · subst h
    rw [if_pos rfl]
    have q : List.lookup y [(y, v)] = some v := by simp [List.lookup]
    rw [q]
    exact r
  · rw [if_neg h]
    have e : (y == f) = false := by simpa using h
    have q : List.lookup y [(f, v)] = none := by simp [List.lookup, e]
    rw [q]
    trivial
section
variable {X : Cx} {C fI : Addr}
/-- x(e), x such an error class -/
def tMkS (C : Addr) (f : Str) (ta : TA) : L2.St → Hp → XK → Prop := fun σ H Q => ta σ H fun vs H1 => ∃ v, vs = [v] ∧ ∀ d, H1 d = none → Q (.ref C) (some d) (upd H1 d (.xd [(f, v)]))
theorem pmk_sup {t : SupX.Txt} {a : Expr} {ta : TA} {p pos : Pos} {k : Nat} (T : SupX.Has X.prog X.K X.mg t C fI) (hr : Room k X.A) (ha : PA X [a] ta) (hg : Gl X t.x) (hdb : (t.x == ("__debug__" : Str)) = false)
    (he : starEach (a :: []) X.env = (false, eval a X.env) :: starEach [] X.env := by rfl) (hpl : (backTo pos (starEach [] X.env)).any (·.1) = false := by rfl) : PMk X (.Call (.Name t.x p) [a] [] pos) (tMkS C t.f ta) := by
  intro pins s σ H Q I h
  refine wpAny_Call_Name_kw (ld_glob I hg T.gC ?_ hdb)
  refine PySem.W.callWith_K (h₀ := X.base) I.ok.mod.kin T.kC (thn (ha.run pos pins s σ H _ I h) fun us s1 ⟨vs, H1, I1, r1, v, ev, q1⟩ => ?_) he hpl
  subst ev
  refine ⟨I1.kIn, ?_⟩
  obtain ⟨v1, rfl, rv⟩ := vals1 r1
  show wpAny _ _ (call (.ref C) [v1]) _ _ _
  have hlim := I1.nolimit
  obtain ⟨mb, hmb, hbo⟩ := I1.ok.mod.blt
  have hNs := I1.ok.mod.glob.keeps I1.bk
  have hBs := hmb.keeps I1.bk
  obtain ⟨hp, g, dr, tk, os⟩ := s1
  refine wpAny_call (SupX.sup_made T I1.kIn hlim hNs hBs ((hbo "super" (by decide)).trans (by decide +kernel)) (by have := hr.dp; omega) fun h1 tk1 e d M => ?_)
  show MkP X pins σ Q (.ref e) ⟨h1, g, dr, tk1, os⟩
  obtain ⟨oe, fv, hoe, hc, hd, hdat, hn1⟩ := M.obj
  have hns := M.ns
  obtain ⟨G1, g1, g2⟩ := restrict h1 fun b => decide (b ≠ e)
  have gk : ∀ b, b ≠ e → G1.get? b = h1.get? b := fun b hb => g1 b (decide_eq_true hb)
  have ge : G1.get? e = none := g2 e (by simp)
  have old : ∀ b o, hp.get? b = some o → G1.get? b = some o := fun b o q => (gk b (Nat.ne_of_lt (Nat.lt_of_lt_of_le (Heap.lt_size q) M.new))).trans (M.keep b o q)
  have ob : ObjOk X.prog X.w (upd H1 d (.xd [(t.f, v)])) G1 d (.xd [(t.f, v)]) := ⟨_, hns.at (fun o q => (gk d M.dne).trans q), fun y => relO_one rv y⟩
  have J : Inv X pins σ (upd H1 d (.xd [(t.f, v)])) ⟨G1, g, dr, tk1, os⟩ := I1.laid (t' := tk1) old M.dbig ob
  refine ⟨e, oe, fv, ⟨G1, g, dr, tk1, os⟩, _, .ref C, some d, rfl, J, fun b o q => ?_, ge, hoe, ⟨hc, hd⟩, hdat, hn1, ?_, rfl, I1.bare, raises_own T.exC T.tyC, q1 d (I1.hok.fresh M.dbig)⟩
  · by_cases hb : b = e
    · have q2 : G1.get? b = some o := q
      rw [hb, ge] at q2
      cases q2
    · exact (gk b hb).symm.trans q
  · rw [upd_ne (Ne.symm M.dne)]
    exact I1.hok.fresh M.new
/-- e.f, e an error that was caught and kept -/
def tKf (K : PySem.W.Frag) (f : Str) (te : TE) : TE := fun σ H Q => te σ H fun x H1 => ∃ (a C dd : Addr) (fs : List (Str × V)) (v : V), x = .ref a ∧ H1 a = some (Caught (.ref C) (some dd) a) ∧ XfC K C ∧ PySem.W.findIn K (.ref C) f = some none ∧ H1 dd = some (.xd fs) ∧ fs.lookup f = some v ∧ Q v H1
theorem pe_kf {e : Expr} {te : TE} {pos : Pos} {n : Str} (he : PE X e te) (hb : attributeBase e n X.env (eval e X.env) = eval e X.env := by rfl) : PE X (.Attribute e n pos) (tKf X.K n te) := by
  constructor
  intro pins s σ H Q I h
  refine attr_of hb (thn (he.run pins s σ H _ I h) fun u s1 ⟨x, H1, I1, rx, a, C, dd, fs, v, ex, ea, T, hno, ed, l, q⟩ => ?_)
  subst ex
  obtain rfl : u = Value.ref a := rx
  obtain ⟨⟨oe, ho, hz, vs, hd⟩, _, _⟩ := I1.hok a _ ea
  obtain ⟨mA, hns, hr⟩ := (show ObjOk X.prog X.w H1 s1.heap dd (.xd fs) from I1.hok dd _ ed)
  obtain ⟨od, hod, hl⟩ := lookIn_ns hns
  obtain ⟨u, hu, ru⟩ := RelO.some_of (v := v) (o := mA n) (by rw [← l]; exact hr n)
  have J : PySem.W.InstAt s1.heap a oe C (some od) := ⟨ho, hz.1, by unfold PySem.W.notCls; rw [hd] <;> rfl, by rw [hz.2]; exact hod⟩
  exact HandSPX.exc_get I1.kIn J T.ga T.gg T.exC (PySem.W.findObj_own T.hdC hno rfl (by rw [hl, hu])) (handed_of ru) ⟨v, H1, I1.tok _, ru, q⟩
/-- isinstance(e, c), e an error with fields that was caught and kept -/
def rIsD (K : PySem.W.Frag) : List V → Hp → VK → Prop := fun xs H Q => ∃ (a D dd : Addr) (fs : List (Str × V)) (c : V) (cv : Value) (b : Bool), xs = [.ref a, c] ∧ H a = some (Caught (.ref D) (some dd) a) ∧ H dd = some (.xd fs) ∧ ExcC K D ∧ ClsV c cv ∧ PySem.W.kitOne K (.ref D) cv = some b ∧ Q (.bl b) H
theorem call_isD : CallR X (.builtin "isinstance") (rIsD X.K) := by
  intro pins s σ H xs us Q I r h
  obtain ⟨a, D, dd, fs, c, cv, b, rfl, ha, hdd, C, k, e, q⟩ := h
  obtain ⟨u1, u2, rfl, r1, r2⟩ := vals2 r
  have e2 := k.eq r2
  subst e2
  cases (show u1 = Value.ref a from r1)
  obtain ⟨⟨oe, ho, hz, vs, hv⟩, _, _⟩ := I.hok a _ ha
  obtain ⟨mA, hns, hr⟩ := (show ObjOk X.prog X.w H s.heap dd (.xd fs) from I.hok dd _ hdd)
  obtain ⟨od, hod, hl⟩ := lookIn_ns hns
  have J : PySem.W.InstAt s.heap a oe D (some od) := ⟨ho, hz.1, by unfold PySem.W.notCls; rw [hv] <;> rfl, by rw [hz.2]; exact hod⟩
  exact PySem.W.kia_one (PySem.W.kit_exc_any C) I.kIn J e (fun z => nomatch z) fun tk => ⟨.bl b, H, I.tok tk, rfl, q⟩
end
end Own
set_option Elab.async false
set_option linter.all false
set_option maxRecDepth 100000
set_option maxHeartbeats 1000000
namespace Own
open PySem PySem.Spec PyProof.Rows L2
/-! ### a hook that also holds the statics, and tells of functions with closures -/
abbrev InitW : Type := Option (Str × Str × Arguments × FuncBody × Scope × Addr × List Str × Addr)
def initW (K : PySem.W.Frag) (p : He.Defn) : InitW := match K.lookup (He.fAd K p) with
  | some ⟨_, _, .func fd, _⟩ => some (fd.name, fd.qualname, fd.params, fd.body, fd.scope, fd.globals, fd.closure.map (·.1), fd.builtins)
  | _ => none
def KOf (n : Nat) (g : Addr → Option Obj) : PySem.W.Frag := He.frT g (cStatics :: He.asD g n)
abbrev AlY : Type := He.AlX × List InitW
def obsY (n : Nat) (fa : List He.Fa) (fn : List He.DefD) (tf : List He.Defn) (ex : PySem.W.Frag → Bool) (ini : List (He.Defn × InitW)) (g : Addr → Option Obj) : AlY :=
  ((He.obsT fa fn [] (KOf n g), ex (KOf n g) && He.tabsB g tf (KOf n g)), ini.map fun p => initW (KOf n g) p.1)
def valY (fn : List He.DefD) (ini : List (He.Defn × InitW)) (w : World) : AlY := (He.valX fn [] w, ini.map (·.2))
structure SaysY (fa : List He.Fa) (fn : List He.DefD) (tf : List He.Defn) (ex : PySem.W.Frag → Bool) (ini : List (He.Defn × InitW)) (w : World) (h : Heap) (K : PySem.W.Frag) : Prop where
  x : He.SaysX fa fn [] tf ex w h K
  i : ∀ p ∈ ini, initW K p.1 = p.2
theorem map_mem_eq {α β : Type} {f g : α → β} : ∀ {l : List α}, l.map f = l.map g → ∀ p ∈ l, f p = g p
  | [], _, p, hp => by cases hp
  | a :: r, h, p, hp => by
    injection h with h1 h2
    rcases List.mem_cons.mp hp with rfl | hp
    · exact h1
    · exact map_mem_eq h2 p hp
theorem saysY_of {n : Nat} {fa : List He.Fa} {fn : List He.DefD} {tf : List He.Defn} {ex : PySem.W.Frag → Bool} {ini : List (He.Defn × InitW)} {w : World} {h : Heap} (e : obsY n fa fn tf ex ini h.get? = valY fn ini w) : SaysY fa fn tf ex ini w h (KOf n h.get?) := by
  have eT : He.obsT fa fn [] (KOf n h.get?) = He.valT fn [] w := congrArg (fun z : AlY => z.1.1) e
  have eB : (ex (KOf n h.get?) && He.tabsB h.get? tf (KOf n h.get?)) = true := congrArg (fun z : AlY => z.1.2) e
  have eI : ini.map (fun p => initW (KOf n h.get?) p.1) = ini.map (·.2) := congrArg (fun z : AlY => z.2) e
  obtain ⟨b1, b2⟩ := He.ba eB
  have one : ∀ p ∈ tf, PySem.W.codeHdIn (KOf n h.get?) (He.cT (KOf n h.get?) p).1 (He.cT (KOf n h.get?) p).2 = true ∧ ∃ o, h.get? (He.cT (KOf n h.get?) p).2 = some o ∧ He.emptyTab o = true := fun p hp => by
    obtain ⟨c1, c2⟩ := He.ba (List.all_eq_true.mp b2 p hp)
    refine ⟨c1, ?_⟩
    cases q : h.get? (He.cT (KOf n h.get?) p).2 with
    | none => rw [q] at c2; cases c2
    | some o => rw [q] at c2; exact ⟨o, rfl, c2⟩
  refine ⟨⟨eT, b1, fun p hp => (one p hp).1, fun p hp => ?_, fun p hp => ?_⟩, fun p hp => map_mem_eq eI p hp⟩
  · obtain ⟨_, o, q, z⟩ := one p hp
    exact He.frT_none q z
  · obtain ⟨_, o, q, z⟩ := one p hp
    rw [q, He.emptyTab_eq z]
def hookY (n : Nat) (fa : List He.Fa) (fn : List He.DefD) (tf : List He.Defn) (ex : PySem.W.Frag → Bool) (ini : List (He.Defn × InitW)) : PySem.W.Hook where
  α := AlY
  obs := fun s => obsY n fa fn tf ex ini s.heap.get?
  val := fun w => valY fn ini w
  says := fun w h => ∃ K : PySem.W.Frag, K.In h ∧ SaysY fa fn tf ex ini w h K
  of := fun _ _ e => ⟨_, He.frT_in, saysY_of e⟩
  keeps := fun _ _ _ z k => by
    obtain ⟨K, inK, c⟩ := z
    exact ⟨K, PySem.W.Frag.In.keeps inK k, ⟨⟨c.x.t, c.x.more, c.x.hd, c.x.out, fun p hp => k _ _ (c.x.empty p hp)⟩, c.i⟩⟩
theorem obsY_eq {n : Nat} {fa : List He.Fa} {fn : List He.DefD} {tf : List He.Defn} {ex : PySem.W.Frag → Bool} {ini : List (He.Defn × InitW)} {g : Addr → Option Obj} {s : Shared} (h : ∀ a, g a = s.heap.get? a) : obsY n fa fn tf ex ini g = (hookY n fa fn tf ex ini).obs s := by
  have e : g = s.heap.get? := funext h
  subst e
  rfl
/-! ### what the head says of an error class with one field -/
def clsB (K : PySem.W.Frag) (C : Addr) : Bool := match K.lookup C with
  | some ⟨.type "type", _, .cls cd, sl⟩ => (match cd.mro, sl.toList with
    | .ref C2 :: bm, [_, _, _, _, some (.builtin m), _] => decide (C2 = C) && (decide (m = "ValueError.__new__") && (!cd.hasDel && (cd.hasDict && PySem.HandSPX.refsVE bm)))
    | _, _ => false)
  | _ => false
theorem clsB_ok {K : PySem.W.Frag} {C : Addr} (h : clsB K C = true) : ∃ nm q N bs bm sn sub ab col dd k0 k1 k2 k3 k5, K.lookup C = some (PySem.excClassObj nm q C N bs bm true sn sub ab col dd k0 k1 k2 k3 k5 "ValueError.__new__") ∧ PySem.HandSPX.refsVE bm = true := by
  unfold clsB at h
  split at h
  · rename_i dd cd sl ho
    split at h
    · rename_i C2 bm k0 k1 k2 k3 m k5 hm hs
      obtain ⟨h1, h⟩ := He.ba h
      obtain ⟨h2, h⟩ := He.ba h
      obtain ⟨h3, h⟩ := He.ba h
      obtain ⟨h4, h5⟩ := He.ba h
      have e1 := of_decide_eq_true h1
      have e2 := of_decide_eq_true h2
      subst e1 e2
      obtain ⟨nm, bs, mro, ns, qn, hd, sn, sub, ab, col, del⟩ := cd
      dsimp only at hm h3 h4
      have h3' : del = false := by simpa using h3
      subst hm h3' h4
      obtain ⟨l⟩ := sl
      dsimp only at hs
      subst hs
      exact ⟨nm, qn, ns, bs, bm, sn, sub, ab, col, dd, k0, k1, k2, k3, k5, ho, h5⟩
    · cases h
  · cases h
def fileB (K : PySem.W.Frag) (a : Addr) (file : Str) : Bool := match K.lookup a with
  | some ⟨_, _, .fields vs, _⟩ => (match vs[(2 : Nat)]? with
    | some (Value.str f _) => decide (f = file)
    | _ => false)
  | _ => false
theorem fileB_ok {K : PySem.W.Frag} {a : Addr} {file : Str} (h : fileB K a file = true) : ∃ c d vs sl t, K.lookup a = some ⟨c, d, .fields vs, sl⟩ ∧ vs[2]? = some (.str file t) := by
  unfold fileB at h
  split at h
  · rename_i c d vs sl ho
    split at h
    · rename_i f t hv
      have e := of_decide_eq_true h
      subst e
      exact ⟨c, d, vs, sl, t, ho, hv⟩
    · cases h
  · cases h
def cellB (K : PySem.W.Frag) (a C : Addr) : Bool := match K.lookup a with
  | some ⟨_, _, .cell (some (.ref c)), _⟩ => decide (c = C)
  | _ => false
theorem cellB_ok {K : PySem.W.Frag} {a C : Addr} (h : cellB K a C = true) : ∃ c d sl, K.lookup a = some ⟨c, d, .cell (some (.ref C)), sl⟩ := by
  unfold cellB at h
  split at h
  · rename_i c d c2 sl ho
    have e := of_decide_eq_true h
    subst e
    exact ⟨c, d, sl, ho⟩
  · cases h
def fnB (K : PySem.W.Frag) (C fI : Addr) (file : Str) : Bool := match K.lookup fI with
  | some ⟨_, _, .func fd, _⟩ => (match fd.defaults, fd.code, fd.closure with
    | .none, .ref cda, [(_, cc)] => PySem.W.codeIn K (.ref cda) fd.qualname && (fileB K cda file && cellB K cc C)
    | _, _, _ => false)
  | _ => false
theorem fnB_ok {K : PySem.W.Frag} {C : Addr} {p : He.Defn} {file qual : Str} {params : Arguments} {body : List Stmt} {scope : Scope} (h : fnB K C (He.fAd K p) file = true) (hi : initW K p = some (("__init__" : Str), qual, params, FuncBody.stmts body, scope, mainGlobals, [("__class__" : Str)], builtinsNs)) :
    ∃ (cc cda : Addr) (oc ccl cl : Value) (od cdd cld : Option Addr) (kV doc pm : Value) (an : Option Addr) (ct : Value) (osl ccs csl : Array (Option Value)) (vs : Array Value) (tf : Tok),
      K.lookup (He.fAd K p) = some ⟨oc, od, .func (PySem.W.fnX "__init__" qual params body scope [("__class__", cc)] .none kV doc pm an (.ref cda) ct), osl⟩ ∧ PySem.W.codeIn K (.ref cda) qual = true ∧
      K.lookup cda = some ⟨ccl, cdd, .fields vs, ccs⟩ ∧ vs[2]? = some (.str file tf) ∧ K.lookup cc = some ⟨cl, cld, .cell (some (.ref C)), csl⟩ := by
  unfold fnB at h
  unfold initW at hi
  split at h
  · rename_i oc od fd osl ho
    rw [ho] at hi
    have hi2 : (fd.name, fd.qualname, fd.params, fd.body, fd.scope, fd.globals, fd.closure.map (·.1), fd.builtins) = (("__init__" : Str), qual, params, FuncBody.stmts body, scope, mainGlobals, [("__class__" : Str)], builtinsNs) := Option.some.inj hi
    split at h
    · rename_i cda n cc h1 h2 h3
      obtain ⟨g1, g⟩ := He.ba h
      obtain ⟨g2, g3⟩ := He.ba g
      obtain ⟨ccl, cdd, vs, ccs, tf, q1, q2⟩ := fileB_ok g2
      obtain ⟨cl, cld, csl, q3⟩ := cellB_ok g3
      obtain ⟨nm, qn, pr, bd, sc, gb, clo, df, kV, doc, pm, an, cd, ct, bi⟩ := fd
      dsimp only at h1 h2 h3 hi2 g1
      subst h1 h2 h3
      injection hi2 with i1 hi2
      injection hi2 with i2 hi2
      injection hi2 with i3 hi2
      injection hi2 with i4 hi2
      injection hi2 with i5 hi2
      injection hi2 with i6 hi2
      injection hi2 with i7 i8
      have en : n = ("__class__" : Str) := by
        have : [n] = [("__class__" : Str)] := i7
        injection this
      subst i1 i2 i3 i4 i5 i6 i8 en
      exact ⟨cc, cda, oc, ccl, cl, od, cdd, cld, kV, doc, pm, an, ct, osl, ccs, csl, vs, tf, ho, g1, q1, q2, q3⟩
    · cases h
  · cases h
def supB (K : PySem.W.Frag) (t : SupX.Txt) (file : Str) : Bool :=
  He.eqO (PySem.W.findIn K (.ref (He.ga K t.x)) "__setattr__") (some (some (.builtin "object.__setattr__"))) && (He.eqO (PySem.W.findIn K (.ref (He.ga K t.x)) t.f) (some none) && (He.eqO (PySem.W.findIn K (.ref (He.ga K t.x)) "__init__") (some (some (.ref (He.fAd K (t.x, some "__init__"))))) &&
  (decide (PySem.W.typeIn K (.ref (He.fAd K (t.x, some "__init__"))) = some (.type "function")) && (PySem.W.keepIn K (.ref (He.ga K t.x)) && (decide (PySem.W.subIn K (.ref (He.ga K t.x)) (.type "BaseException") = some true) && (decide (PySem.W.typeIn K (.ref (He.ga K t.x)) = some (.type "type")) &&
  (decide (PySem.W.subIn K (.ref (He.ga K t.x)) (.type "ValueError") = some true) && (decide (PySem.W.mroIn K (He.ga K t.x) (.ref (He.ga K t.x)) = some true) && (He.eqO (PySem.W.ks_superIn K (He.ga K t.x) (He.ga K t.x) "__init__") (some (some (.builtin "ValueError.__init__"))) &&
  (PySem.W.excInitIn K (He.ga K t.x) He.veBase "ValueError.__new__" && (He.eqO (PySem.W.nsIn K cStatics "thirdparty.any") (some none) && (clsB K (He.ga K t.x) && fnB K (He.ga K t.x) (He.fAd K (t.x, some "__init__")) file))))))))))))
theorem has_of {prog : Program} {K : PySem.W.Frag} {mg : Str → Option Value} {t : SupX.Txt} {file qual : Str} {j : Nat} {p1 p2 q1 q2 q3 q4 q5 q6 q7 q8 q9 q10 : Pos} (h : supB K t file = true) (gC : mg t.x = some (.ref (He.ga K t.x))) (gS : mg "super" = none) (hfile : ((prog.main.file : Str) == file) = true)
    (htop : (prog.main.scope.names.lookup ("super" : Str)).isSome = false) (hi : initW K (t.x, some "__init__") = some (("__init__" : Str), qual, SupX.iA t p1 p2, FuncBody.stmts (SupX.iB t j q1 q2 q3 q4 q5 q6 q7 q8 q9 q10), SupX.iS t, mainGlobals, [("__class__" : Str)], builtinsNs))
    (pn : (t.p == ("__debug__" : Str)) = false ∧ t.p ≠ "self") (l1 : (SupX.iS t).names.lookup ("self" : Str) = some .local) (l2 : (SupX.iS t).names.lookup t.p = some .local) (l3 : (SupX.iS t).names.lookup ("__class__" : Str) = some .free) (l4 : (SupX.iS t).names.lookup ("super" : Str) = some .globalImplicit)
    (hbind : ∀ (cl : List (Str × Addr)) (kV doc pm : Value) (an : Option Addr) (cdv ct a b : Value), bindArgs (PySem.W.fnX "__init__" qual (SupX.iA t p1 p2) (SupX.iB t j q1 q2 q3 q4 q5 q6 q7 q8 q9 q10) (SupX.iS t) cl .none kV doc pm an cdv ct) ⟨[a, b], []⟩ = pure [(("self" : Str), a), (t.p, b)])
    (hev : ∀ env : Env, ∃ pl : Sem Bool, eval (.Call (.Attribute (.Call (.Name "super" q1) [] [] q2) "__init__" q3) [.Constant (.str t.m) j q4] [] q5) env = (do
        let ov ← attributeBase (.Call (.Name "super" q1) [] [] q2) "__init__" env (eval (.Call (.Name "super" q1) [] [] q2) env)
        standAt q3.atName
        let (f, first) ← holding [ov] (getMethod ov "__init__" pl)
        callWith q5 f first (backTo q5 (starEach [.Constant (.str t.m) j q4] env)) [])) :
    SupX.Has prog K mg t (He.ga K t.x) (He.fAd K (t.x, some "__init__")) := by
  unfold supB at h
  obtain ⟨h1, h⟩ := He.ba h
  obtain ⟨h2, h⟩ := He.ba h
  obtain ⟨h3, h⟩ := He.ba h
  obtain ⟨h4, h⟩ := He.ba h
  obtain ⟨h5, h⟩ := He.ba h
  obtain ⟨h6, h⟩ := He.ba h
  obtain ⟨h7, h⟩ := He.ba h
  obtain ⟨h8, h⟩ := He.ba h
  obtain ⟨h9, h⟩ := He.ba h
  obtain ⟨h10, h⟩ := He.ba h
  obtain ⟨h11, h⟩ := He.ba h
  obtain ⟨h12, h⟩ := He.ba h
  obtain ⟨h13, h14⟩ := He.ba h
  obtain ⟨cc, cda, oc, ccl, cl, od, cdd, cld, kV, doc, pm, an, ct, osl, ccs, csl, vs, tf, r1, r2, r3, r4, r5⟩ := fnB_ok h14 hi
  exact { gC := gC, cls := clsB_ok h13, sa := He.eqO_ok h1, noN := He.eqO_ok h2, iC := He.eqO_ok h3, tC := of_decide_eq_true h4, kC := h5, exC := of_decide_eq_true h6, tyC := of_decide_eq_true h7, sVE := of_decide_eq_true h8, mro := of_decide_eq_true h9,
          sup := He.eqO_ok h10, ini := h11, tp := He.eqO_ok h12, gS := gS, pn := pn, lself := l1, lp := l2, lcls := l3, lsup := l4,
          fn := ⟨cc, cda, oc, ccl, cl, od, cdd, cld, kV, doc, pm, an, ct, osl, ccs, csl, vs, file, tf, qual, j, p1, p2, q1, q2, q3, q4, q5, q6, q7, q8, q9, q10, r1, r2, r3, r4, hfile, r5, fun a b => hbind _ _ _ _ _ _ _ a b, hev⟩, top := htop }
end Own
set_option Elab.async false
set_option linter.all false
set_option maxRecDepth 100000
set_option maxHeartbeats 400000
namespace Own
open PySem PySem.Spec PyProof.Rows L2
/-! ### a hook that looks at chosen objects, and tells of functions with closures -/
def obsW (sel : Sel) (fa : List He.Fa) (fn : List He.DefD) (ts : List He.Tab) (tf : List He.Defn) (ex : PySem.W.Frag → Bool) (ini : List (He.Defn × InitW)) (g : Addr → Option Obj) : AlY :=
  (obsZ sel fa fn ts tf ex g, ini.map fun p => initW (KZ sel g) p.1)
def valW (fn : List He.DefD) (ts : List He.Tab) (ini : List (He.Defn × InitW)) (w : World) : AlY := (He.valX fn ts w, ini.map (·.2))
structure SaysW (fa : List He.Fa) (fn : List He.DefD) (ts : List He.Tab) (tf : List He.Defn) (ex : PySem.W.Frag → Bool) (ini : List (He.Defn × InitW)) (w : World) (h : Heap) (K : PySem.W.Frag) : Prop where
  x : He.SaysX fa fn ts tf ex w h K
  i : ∀ p ∈ ini, initW K p.1 = p.2
theorem saysW_of {sel : Sel} {fa : List He.Fa} {fn : List He.DefD} {ts : List He.Tab} {tf : List He.Defn} {ex : PySem.W.Frag → Bool} {ini : List (He.Defn × InitW)} {w : World} {h : Heap} (e : obsW sel fa fn ts tf ex ini h.get? = valW fn ts ini w) : SaysW fa fn ts tf ex ini w h (KZ sel h.get?) := by
  have e1 : obsZ sel fa fn ts tf ex h.get? = He.valX fn ts w := congrArg (fun z : AlY => z.1) e
  have e2 : ini.map (fun p => initW (KZ sel h.get?) p.1) = ini.map (·.2) := congrArg (fun z : AlY => z.2) e
  exact ⟨saysZ_of e1, fun p hp => map_mem_eq e2 p hp⟩
def hookW (sel : Sel) (fa : List He.Fa) (fn : List He.DefD) (ts : List He.Tab) (tf : List He.Defn) (ex : PySem.W.Frag → Bool) (ini : List (He.Defn × InitW)) : PySem.W.Hook where
  α := AlY
  obs := fun s => obsW sel fa fn ts tf ex ini s.heap.get?
  val := fun w => valW fn ts ini w
  says := fun w h => ∃ K : PySem.W.Frag, K.In h ∧ SaysW fa fn ts tf ex ini w h K
  of := fun _ _ e => ⟨_, He.frT_in, saysW_of e⟩
  keeps := fun _ _ _ z k => by
    obtain ⟨K, inK, c⟩ := z
    exact ⟨K, PySem.W.Frag.In.keeps inK k, ⟨⟨c.x.t, c.x.more, c.x.hd, c.x.out, fun p hp => k _ _ (c.x.empty p hp)⟩, c.i⟩⟩
theorem obsW_eq {sel : Sel} {fa : List He.Fa} {fn : List He.DefD} {ts : List He.Tab} {tf : List He.Defn} {ex : PySem.W.Frag → Bool} {ini : List (He.Defn × InitW)} {g : Addr → Option Obj} {s : Shared} (h : ∀ a, g a = s.heap.get? a) : obsW sel fa fn ts tf ex ini g = (hookW sel fa fn ts tf ex ini).obs s := by
  have e : g = s.heap.get? := funext h
  subst e
  rfl
end Own
set_option Elab.async false
set_option linter.all false
set_option maxRecDepth 100000
set_option maxHeartbeats 4000000
namespace Own
open PySem PySem.Spec PyProof.Rows L2 LamX
/-! ### the text -/
def top (i : Nat) : Stmt := PySem.Challenge.pw_rulerchest_k25_names_exchanged.main.body.getD i (.Pass ⟨0, 0, 0, 0⟩)
abbrev sWhole : Stmt := top 22
abbrev sName : Stmt := top 24
abbrev sLowest : Stmt := top 28
abbrev sCommon : Stmt := top 29
abbrev sSmall : Stmt := top 30
abbrev sWide : Stmt := top 35
abbrev sNeg : Stmt := top 39
abbrev sVPlus : Stmt := top 41
abbrev sVLess : Stmt := top 42
abbrev sScale : Stmt := top 44
abbrev sRaw : Stmt := top 45
abbrev sVTimes : Stmt := top 46
abbrev sVSign : Stmt := top 50
abbrev sVTurned : Stmt := top 51
abbrev sUsed : Stmt := top 58
abbrev sRowsOf : Stmt := top 62
abbrev cTower : Stmt := top 63
abbrev sNeedT : Stmt := top 64
abbrev sSpared : Stmt := top 66
abbrev sSameV : Stmt := top 67
abbrev cNumber : Stmt := top 68
abbrev sIsNum : Stmt := top 69
abbrev sNeedNum : Stmt := top 70
abbrev sFrac : Stmt := top 71
abbrev sUnited : Stmt := top 73
abbrev sLevelled : Stmt := top 74
abbrev sTrimmed : Stmt := top 75
abbrev sPlus : Stmt := top 76
abbrev sMinus : Stmt := top 77
abbrev sTimes : Stmt := top 78
abbrev sOver : Stmt := top 79
abbrev sSign : Stmt := top 80
abbrev sIsPt : Stmt := top 85
abbrev sNeedPts : Stmt := top 86
abbrev sSheet : Stmt := top 87
abbrev sIsSame : Stmt := top 88
abbrev sWayTo : Stmt := top 89
abbrev sCrossed : Stmt := top 90
abbrev sStepped : Stmt := top 92
abbrev sQuarter : Stmt := top 93
abbrev sMet : Stmt := top 97
abbrev sIsPts : Stmt := top 100
abbrev sDeed : Stmt := top 105
abbrev sNeedD : Stmt := top 106
abbrev sNames : Stmt := top 107
abbrev sTool : Stmt := top 108
abbrev sOnNames : Stmt := top 109
abbrev sDrawing : Stmt := top 110
abbrev sLayMeet : Stmt := top 111
abbrev sLayUp : Stmt := top 112
abbrev sLaid : Stmt := top 124
abbrev sNeedDr : Stmt := top 126
abbrev sSpot : Stmt := top 127
abbrev sChest : Stmt := top 128
abbrev sLayable : Stmt := top 129
abbrev sRenamed : Stmt := top 130
abbrev sLike : Stmt := top 131
abbrev sBegun : Stmt := top 133
abbrev sStir : Stmt := top 134
abbrev sDraw : Stmt := top 135
abbrev sPick : Stmt := top 136
abbrev sShuf : Stmt := top 137
abbrev sLName : Stmt := top 138
abbrev sCaught : Stmt := top 139
abbrev sDNames : Stmt := top 140
abbrev sTDeed : Stmt := top 141
abbrev sChain : Stmt := top 142
abbrev sForms : Stmt := top 143
abbrev sHasWay : Stmt := top 144
abbrev sLDeed : Stmt := top 145
abbrev sShNames : Stmt := top 146
abbrev sExch : Stmt := top 147
abbrev sMatched : Stmt := top 148
abbrev sTable : Stmt := top 149
abbrev sRenR : Stmt := top 150
abbrev sBent : Stmt := top 151
abbrev sLaw : Stmt := top 152
abbrev FnP (K : PySem.W.Frag) (x : Str) (st : Stmt) (f : Addr) (fd : FuncData) : Prop := FunD K x x (defArgs st) (defBody st) (defScope st) [] [] f fd
/-! ### kinds of values -/
/-- isinstance(x, int) is i, isinstance(x, bool) is b -/
def Kind (K : PySem.W.Frag) (H : Hp) (x : V) (i b : Bool) : Prop := ∃ t : String, TyX K H x (.type t) ∧ kitB t "int" = some i ∧ kitB t "bool" = some b
theorem Kind.int {K : PySem.W.Frag} {H : Hp} (z : Int) : Kind K H (.int z) true false := ⟨"int", .base (.int z), by decide +kernel, by decide +kernel⟩
theorem Kind.bl {K : PySem.W.Frag} {H : Hp} (z : Bool) : Kind K H (.bl z) true true := ⟨"bool", .base (.bl z), by decide +kernel, by decide +kernel⟩
theorem Kind.non {K : PySem.W.Frag} {H : Hp} : Kind K H .non false false := ⟨"NoneType", .base .non, by decide +kernel, by decide +kernel⟩
theorem Kind.str {K : PySem.W.Frag} {H : Hp} (z : Str) : Kind K H (.str z) false false := ⟨"str", .base (.str z), by decide +kernel, by decide +kernel⟩
theorem Kind.lst {K : PySem.W.Frag} {H : Hp} {a : Addr} {xs : List V} (e : H a = some (.lst xs)) : Kind K H (.ref a) false false := ⟨"list", .base (.lst e), by decide +kernel, by decide +kernel⟩
theorem Kind.tup {K : PySem.W.Frag} {H : Hp} {a : Addr} {xs : List V} (e : H a = some (.tup xs)) : Kind K H (.ref a) false false := ⟨"tuple", .base (.tup e), by decide +kernel, by decide +kernel⟩
theorem Kind.dict {K : PySem.W.Frag} {H : Hp} {a : Addr} {kvs : List (Key × V)} (e : H a = some (.dK kvs)) : Kind K H (.ref a) false false := ⟨"dict", .base (.dK e), by decide +kernel, by decide +kernel⟩
/-! ### what the walk asks of the module -/
structure Txt (K : PySem.W.Frag) (mg : Str → Option Value) : Prop where
  isi : mg "isinstance" = none
  int : mg "int" = none
  bool : mg "bool" = none
  str : mg "str" = none
  tuple : mg "tuple" = none
  abs : mg "abs" = none
  len : mg "len" = none
  range : mg "range" = none
  list : mg "list" = none
  min : mg "min" = none
  max : mg "max" = none
  enum : mg "enumerate" = none
  sorted : mg "sorted" = none
  dict : mg "dict" = none
  repr : mg "repr" = none
  reversed : mg "reversed" = none
  set : mg "set" = none
def spWhole (K : PySem.W.Frag) : Sp := fun vs H Q _ => ∃ x i b, vs = [x] ∧ Kind K H x i b ∧ Q (.bl (i && !b)) H
section
variable {P : Program} {w : World} {K : PySem.W.Frag} {mg : Str → Option Value} {base : Heap} {f : Addr} {fd : FuncData}
theorem scWhole : FnScope ["value"] ["value"] (defScope sWhole) := ⟨rfl, rfl, rfl, by decide +kernel, rfl, by decide +kernel, by decide +kernel⟩
theorem ok_whole (F : FnP K "is_whole" sWhole f fd) (T : Txt K mg) : FnOk P w K mg base CX0 1 f fd ["value"] (spWhole K) := by
  refine F.ok scWhole (fun vs H Q E h => ?_) (fun cdv A outer s H vs Q E hr h => ?_)
  · obtain ⟨x, i, b, rfl, _⟩ := h
    rfl
  · obtain ⟨x, i, b, rfl, ⟨t, ty, e1, e2⟩, k⟩ := h
    refine ⟨_, PSs.nox (pss_one (ps_ret (pe_and (pe_callB call_isi (by rfl) T.isi boot_isinstance (pa_cons (pv 0) (pa_cons (pe_bltn (v := .ty "int") (by rfl) T.int boot_int rfl) pa_nil)))
      (pe_one (pe_not (pe_callB call_isi (by rfl) T.isi boot_isinstance (pa_cons (pv 0) (pa_cons (pe_bltn (v := .ty "bool") (by rfl) T.bool boot_bool rfl) pa_nil)))))))), ?_⟩
    refine ⟨_, rfl, x, .ty "int", .type t, .type "int", i, rfl, .ty _, ty, kit_ty e1, i, rfl, ?_⟩
    cases i with
    | false =>
      refine iteF ?_
      exact k
    | true =>
      refine iteT ?_
      exact ⟨_, rfl, x, .ty "bool", .type t, .type "bool", b, rfl, .ty _, ty, kit_ty e2, b, rfl, k⟩
end
end Own
set_option Elab.async false
set_option linter.all false
set_option maxRecDepth 100000
set_option maxHeartbeats 0
namespace Own
open PySem PySem.Spec PyProof.Rows L2 LamX
/-! ### the head: what is looked at -/
def FNS : List (Str × Stmt) := ("is_whole", sWhole) :: ("is_name", sName) :: ("is_deed", sDeed) :: ("need_deed", sNeedD) :: ("names_of", sNames) :: ("tool_of", sTool) :: ("on_names", sOnNames) :: ("rows_of", sRowsOf) :: ("need_tower", sNeedT) :: ("vec_lowest", sLowest) :: ("sheet", sSheet) :: ("is_drawing", sDrawing) :: ("need_drawing", sNeedDr) :: ("chest_of", sChest) :: ("vec_negated", sNeg) :: ("vec_plus", sVPlus) :: ("vec_less", sVLess) :: ("vec_wide", sWide) :: ("scale_of", sScale) :: ("raw_times", sRaw) :: ("common", sCommon) :: ("vec_small", sSmall) :: ("vec_times", sVTimes) :: ("vec_sign", sVSign) :: ("vec_turned", sVTurned) :: ("need_number", sNeedNum) :: ("united", sUnited) :: ("levelled", sLevelled) :: ("plus", sPlus) :: ("minus", sMinus) :: ("times", sTimes) :: ("over", sOver) :: ("sign", sSign) :: ("used_rows", sUsed) :: ("spared", sSpared) :: ("trimmed", sTrimmed) :: ("same_value", sSameV) :: ("is_same", sIsSame) :: ("way_to", sWayTo) :: ("crossed_ways", sCrossed) :: ("stepped", sStepped) :: ("quarter", sQuarter) :: ("met", sMet) :: ("lay_meet", sLayMeet) :: ("lay_upright", sLayUp) :: ("is_number", sIsNum) :: ("is_point", sIsPt) :: ("is_points", sIsPts) :: ("laid", sLaid) :: ("spot_or_none", sSpot) :: ("layable", sLayable) :: ("renamed", sRenamed) :: ("like", sLike) :: ("_law_stirred", sStir) :: ("_law_begun", sBegun) :: ("_law_draw", sDraw) :: ("_law_pick", sPick) :: ("_law_shuffled", sShuf) :: ("_law_forms", sForms) :: ("_law_has_way", sHasWay) :: ("_law_name", sLName) :: ("_law_deed", sLDeed) :: ("_law_deed_names", sDNames) :: ("_law_turned_deed", sTDeed) :: ("_law_chained_steps", sChain) :: ("_law_sheet_names", sShNames) :: ("_law_exchanged", sExch) :: ("_law_matched", sMatched) :: ("_law_table", sTable) :: ("_law_bent", sBent) :: ("_law_caught", sCaught) :: ("_law_renamed_right", sRenR) :: ("law", sLaw) :: []
def hCls (s : Stmt) : List Stmt := match s with
  | .ClassDef _ _ _ b _ _ _ _ _ _ _ => b
  | _ => []
abbrev hTowI : Stmt := (hCls cTower).getD 0 (.Pass ⟨0, 0, 0, 0⟩)
abbrev hNumI : Stmt := (hCls cNumber).getD 0 (.Pass ⟨0, 0, 0, 0⟩)
abbrev hNumEq : Stmt := (hCls cNumber).getD 2 (.Pass ⟨0, 0, 0, 0⟩)
def hFORM : List (Str × Nat × Nat) := ("meet", 4, 0) :: ("upright", 5, 0) :: ("gauge", 2, 0) :: ("dividers", 4, 0) :: ("halver", 5, 0) :: ("strip", 5, 0) :: ("disc", 2, 1) :: ("rims", 4, 1) :: ("corner", 4, 1) :: ("compass", 4, 1) :: ("circles", 4, 1) :: []
def hOTHL : List (Str × Str) := ("meet", "") :: ("upright", "square") :: ("circles", "compass") :: []
abbrev hNOW : List Str := []
abbrev hSup : SupX.Txt := ⟨"Clash", "name", "name", "see the value"⟩
def hTOOLS : List Str := "compass" :: "corner" :: "disc" :: "dividers" :: "gauge" :: "halver" :: "rims" :: "square" :: "strip" :: []
def dF (q : Str × Stmt) : He.DefD := ⟨(q.1, none), q.1, q.1, defArgs q.2, defBody q.2, defScope q.2, [], []⟩
def pTow (K : PySem.W.Frag) : Addr := He.dflAt ("Tower", some "__init__") 0 K
def dTow : He.DefD := ⟨("Tower", some "__init__"), "__init__", "Tower.__init__", defArgs hTowI, defBody hTowI, defScope hTowI, [.adr pTow, .non], []⟩
def dNum : He.DefD := ⟨("Number", some "__init__"), "__init__", "Number.__init__", defArgs hNumI, defBody hNumI, defScope hNumI, [.non], []⟩
def dFra : He.DefD := ⟨("fraction", none), "fraction", "fraction", defArgs sFrac, defBody sFrac, defScope sFrac, [.int 1], []⟩
def dEq : He.DefD := ⟨("Number", some "__eq__"), "__eq__", "Number.__eq__", defArgs hNumEq, defBody hNumEq, defScope hNumEq, [], []⟩
def fn : List He.DefD := FNS.map dF ++ [dTow, dNum, dFra, dEq]
abbrev cNoName : Stmt := top 18
abbrev sInit : Stmt := (hCls cNoName).getD 0 (.Pass ⟨0, 0, 0, 0⟩)
abbrev qInit : Str := "Clash.__init__"
def ini : List (He.Defn × InitW) := [(("Clash", some "__init__"), some (("__init__" : Str), qInit, defArgs sInit, FuncBody.stmts (defBody sInit), defScope sInit, mainGlobals, [("__class__" : Str)], builtinsNs))]
def fa : List He.Fa := [.free "isinstance", .free "int", .free "bool", .free "str", .free "tuple", .free "abs", .free "len", .free "range", .free "list", .free "min", .free "max", .free "enumerate", .free "sorted", .free "dict", .free "repr", .free "reversed", .free "set", .free "super",
  .glo "BadDeed", .glo "BadDrawing", .glo "BadTable", .glo "CannotLay", .glo "Clash", .glo "RulerError", .glo "Tower", .glo "Number", .glo "fraction", .glo "FORMS", .glo "OTHERS", .glo "TOOLS", .glo "LAYERS", .free "zip", .free "any", .int "GREAT" 1152921504606846976, .meth "Number" "__eq__",
  .int "MOST" 6, .str "LETTERS" "abcdefghijklmnopqrstuvwxyz", .str "DIGITS" "0123456789",
  .exc "BadDeed", .exc "BadDrawing", .exc "BadTable", .exc "CannotLay", .exm "BadDeed" "RulerError" true, .exm "BadDrawing" "RulerError" true, .exm "BadTable" "RulerError" true, .exm "CannotLay" "CannotLay" true, .exm "Clash" "RulerError" true,
  .cls "Tower", .cls "Number", .mkr "Tower", .mkr "Number", .noat "Tower" "rows", .noat "Tower" "squares", .noat "Number" "tower", .noat "Number" "vector"] ++ FNS.map fun q => He.Fa.glo q.1
def excCB (K : PySem.W.Frag) (D : Addr) : Bool := He.eqO (PySem.W.findIn K (.ref D) "__getattribute__") (some (some (.builtin "BaseException.__getattribute__"))) && (He.eqO (PySem.W.findIn K (.ref D) "__getattr__") (some none) && (decide (PySem.W.subIn K (.ref D) (.type "BaseException") = some true) &&
  (PySem.W.hasDictIn K D && (He.eqO (PySem.W.findIn K (.ref D) "__class__") (some (some (.builtin "object.__class__"))) && (He.eqO (PySem.W.specialIn K (.builtin "object.__class__") "__get__") (some (some (.builtin "getset_descriptor.__get__"))) &&
  (decide (PySem.W.takesIn K (.builtin "object.__class__") = some true) && decide (PySem.W.mroIn K D (.type "object") = some true)))))))
/-- a tuple of these stands at a -/
def tupAt (K : PySem.W.Frag) (a : Addr) (vs : List V) : Bool := match K.lookup a with
  | some o => decide (o.cls = .type "tuple") && (match o.data with
    | .seq its _ => decide (its.size ≤ sizeLine) && He.relAll vs its.toList
    | _ => false)
  | none => false
def plainB (K : PySem.W.Frag) (a : Addr) : Bool := match K.lookup a with
  | some o => decide (o.cls = .type "tuple") && o.dict.isNone
  | none => false
def formB (K : PySem.W.Frag) : Bool := hFORM.all fun t => match PySem.W.nsIn K (He.ga K "FORMS") t.1 with
  | some (some (.ref q)) => tupAt K q [.int t.2.1, .int t.2.2]
  | _ => false
def othB (K : PySem.W.Frag) : Bool := hFORM.all fun t => match hOTHL.lookup t.1 with
  | some z => (match PySem.W.nsIn K (He.ga K "OTHERS") t.1 with
    | some (some (.str y _)) => decide (y = z)
    | _ => false)
  | none => He.eqO (PySem.W.nsIn K (He.ga K "OTHERS") t.1) (some none)
def insB (K : PySem.W.Frag) (C : Addr) : Bool := He.eqO (PySem.W.findIn K (.ref C) "__class__") (some (some (.builtin "object.__class__"))) && (He.eqO (PySem.W.specialIn K (.builtin "object.__class__") "__get__") (some (some (.builtin "getset_descriptor.__get__"))) &&
  (decide (PySem.W.takesIn K (.builtin "object.__class__") = some true) && decide (PySem.W.mroIn K C (.type "object") = some true)))
def nowB (K : PySem.W.Frag) : Bool := hNOW.all fun z => He.eqO (PySem.W.nsIn K (He.ga K "FORMS") z) (some none)
abbrev qT : He.Defn := ("_law_renamed_right", none)
abbrev qE : He.Defn := ("law", none)
def tf : List He.Defn := [qT, qE]
def LAYK : List Str := "meet" :: "upright" :: "gauge" :: "dividers" :: "halver" :: "strip" :: "disc" :: "rims" :: "corner" :: "compass" :: "circles" :: []
def ts : List He.Tab := [((fun K => He.ga K "FORMS"), hFORM.map (·.1)), ((fun K => He.ga K "OTHERS"), hOTHL.map (·.1)), ((fun K => He.ga K "LAYERS"), LAYK)]
def moreB (K : PySem.W.Frag) : Bool := He.eqO (PySem.W.nsIn K mainGlobals "gcd") (some (some (.builtin "math.gcd"))) && (He.eqO (PySem.W.nsIn K (He.ga K "LAYERS") "meet") (some (some (.ref (He.ga K "lay_meet")))) && (He.eqO (PySem.W.nsIn K (He.ga K "LAYERS") "upright") (some (some (.ref (He.ga K "lay_upright")))) && (PySem.W.notFirst K (He.ga K "Number") (.ref (He.ga K "Number")) && decide (PySem.W.kitOne K (.ref (He.ga K "Clash")) (.ref (He.ga K "BadTable")) = some false))))
abbrev PRG : Program := PySem.Challenge.pw_rulerchest_k25_names_exchanged
def ex (K : PySem.W.Frag) : Bool := supB K hSup PRG.main.file && (excCB K (He.ga K "BadDeed") && (excCB K (He.ga K "BadDrawing") && (excCB K (He.ga K "BadTable") && (excCB K (He.ga K "Clash") && (xfB K (He.ga K "Clash") &&
  (tupAt K (pTow K) [] && (tupAt K (He.ga K "TOOLS") (hTOOLS.map V.str) && (formB K && (othB K && (nowB K && (insB K (He.ga K "Tower") && (insB K (He.ga K "Number") && (decide (PySem.W.kitOne K (.type "int") (.ref (He.ga K "Number")) = some false) &&
  (moreB K && decide ((He.cT K qT).2 ≠ (He.cT K qE).2)))))))))))))))
abbrev LW : PySem.W.OpenLaw := PySem.Challenge.rw_rulerchest_k25_names_exchanged
abbrev RW : PySem.W.OpenRow := PySem.W.OpenLaw.row PySem.Challenge.rw_rulerchest_k25_names_exchanged
def sel0 : Sel := selZ ((FNS.map (·.1)) ++ ("fraction" : Str) :: []) [(4, ["Tower", "Number"]), (4, ["Clash"]), (2, ["RulerError", "BadDeed", "BadDrawing", "BadTable", "CannotLay"]), (1, ["FORMS", "OTHERS", "TOOLS", "LAYERS"])]
def sel : Sel := fun g => cStatics :: sel0 g
abbrev hk : PySem.W.Hook := hookW sel fa fn ts tf ex ini
def ob (s : PySem.W.SharedT) : AlY := obsW sel fa fn ts tf ex ini (HandSHeadRun.getT s)
theorem ob_eq (s : PySem.W.SharedT) : ob s = hk.obs s.abs := obsW_eq (HandSHeadRun.getT_eq s)
def loose : List Str := (["RulerError", "NotTower", "NotNumber", "BadParts", "BadNumber", "NoQuotient", "NoRoot", "NotPoint", "EqualPoints", "BadRadius", "BadPoints", "BadDeed", "BadTable", "CannotLay", "BadDrawing", "NoName", "Clash", "LETTERS", "DIGITS", "is_whole", "is_fraction", "is_name", "GREAT", "are_parts", "vec_lowest", "common", "vec_small", "vec_of", "vec_parts", "vec_whole"] : List Str) ++ (["vec_unit", "vec_wide", "vec_low", "vec_high", "vec_both", "vec_negated", "vec_halved", "vec_plus", "vec_less", "vec_same", "scale_of", "raw_times", "vec_times", "rows_below", "vec_rest", "vec_norm", "vec_sign", "vec_turned", "whole_root", "plain_root", "even_root", "vec_root", "written", "rows_joined", "used_rows", "picked", "MOST", "rows_of", "Tower", "need_tower"] : List Str) ++ (["spared", "same_value", "Number", "is_number", "need_number", "fraction", "tower_of_rows", "united", "levelled", "trimmed", "plus", "minus", "times", "over", "sign", "root_within", "root", "is_point", "need_points", "sheet", "is_same", "way_to", "crossed_ways", "dotted_ways", "stepped", "quarter", "cross", "side", "square_length", "met"] : List Str) ++ (["line_circle", "circle_circle", "is_points", "FORMS", "TOOLS", "OTHERS", "is_deed", "need_deed", "names_of", "tool_of", "on_names", "is_drawing", "lay_meet", "lay_upright", "lay_gauge", "lay_dividers", "lay_halver", "lay_strip", "chosen", "lay_disc", "lay_rims", "lay_corner", "lay_compass", "lay_circles", "LAYERS", "laid", "need_drawing", "spot_or_none", "chest_of", "layable"] : List Str) ++ (["renamed", "like", "_law_begun", "_law_stirred", "_law_draw", "_law_pick", "_law_shuffled", "_law_name", "_law_caught", "_law_deed_names", "_law_turned_deed", "_law_chained_steps", "_law_forms", "_law_has_way", "_law_deed", "_law_sheet_names", "_law_exchanged", "_law_matched", "_law_table", "_law_renamed_right", "_law_bent"] : List Str)
abbrev rowG : String := "special-get-raises"
abbrev VPQ : Program := PySem.W.view RW.prog [0, 152]
/-- the top's run -/
noncomputable def whole (w : World) := HandSHeadRun.wholeF (fun p => HandSHeadRun.stepQ (HandSHeadRun.denQ HandSHeadRun.tabQ) p w) HandSHeadRun.fenceQ 12000 RW.prog
def fnL : List He.FnW := [(dF ("is_whole", sWhole)).val, (dF ("is_name", sName)).val, (dF ("is_deed", sDeed)).val, (dF ("need_deed", sNeedD)).val, (dF ("names_of", sNames)).val, (dF ("tool_of", sTool)).val, (dF ("on_names", sOnNames)).val, (dF ("rows_of", sRowsOf)).val, (dF ("need_tower", sNeedT)).val, (dF ("vec_lowest", sLowest)).val, (dF ("sheet", sSheet)).val, (dF ("is_drawing", sDrawing)).val, (dF ("need_drawing", sNeedDr)).val, (dF ("chest_of", sChest)).val, (dF ("vec_negated", sNeg)).val, (dF ("vec_plus", sVPlus)).val, (dF ("vec_less", sVLess)).val, (dF ("vec_wide", sWide)).val, (dF ("scale_of", sScale)).val, (dF ("raw_times", sRaw)).val, (dF ("common", sCommon)).val, (dF ("vec_small", sSmall)).val, (dF ("vec_times", sVTimes)).val, (dF ("vec_sign", sVSign)).val, (dF ("vec_turned", sVTurned)).val, (dF ("need_number", sNeedNum)).val, (dF ("united", sUnited)).val, (dF ("levelled", sLevelled)).val, (dF ("plus", sPlus)).val, (dF ("minus", sMinus)).val, (dF ("times", sTimes)).val, (dF ("over", sOver)).val, (dF ("sign", sSign)).val, (dF ("used_rows", sUsed)).val, (dF ("spared", sSpared)).val, (dF ("trimmed", sTrimmed)).val, (dF ("same_value", sSameV)).val, (dF ("is_same", sIsSame)).val, (dF ("way_to", sWayTo)).val, (dF ("crossed_ways", sCrossed)).val, (dF ("stepped", sStepped)).val, (dF ("quarter", sQuarter)).val, (dF ("met", sMet)).val, (dF ("lay_meet", sLayMeet)).val, (dF ("lay_upright", sLayUp)).val, (dF ("is_number", sIsNum)).val, (dF ("is_point", sIsPt)).val, (dF ("is_points", sIsPts)).val, (dF ("laid", sLaid)).val, (dF ("spot_or_none", sSpot)).val, (dF ("layable", sLayable)).val, (dF ("renamed", sRenamed)).val, (dF ("like", sLike)).val, (dF ("_law_stirred", sStir)).val, (dF ("_law_begun", sBegun)).val, (dF ("_law_draw", sDraw)).val, (dF ("_law_pick", sPick)).val, (dF ("_law_shuffled", sShuf)).val, (dF ("_law_forms", sForms)).val, (dF ("_law_has_way", sHasWay)).val, (dF ("_law_name", sLName)).val, (dF ("_law_deed", sLDeed)).val, (dF ("_law_deed_names", sDNames)).val, (dF ("_law_turned_deed", sTDeed)).val, (dF ("_law_chained_steps", sChain)).val, (dF ("_law_sheet_names", sShNames)).val, (dF ("_law_exchanged", sExch)).val, (dF ("_law_matched", sMatched)).val, (dF ("_law_table", sTable)).val, (dF ("_law_bent", sBent)).val, (dF ("_law_caught", sCaught)).val, (dF ("_law_renamed_right", sRenR)).val, (dF ("law", sLaw)).val, dTow.val, dNum.val, dFra.val, dEq.val]
def tsL (w : World) : List (Option (List (Option (Str × Int)))) := [some (He.keysIn w.params (hFORM.map (·.1))), some (He.keysIn w.params (hOTHL.map (·.1))), some (He.keysIn w.params (LAYK))]
def iniL : List InitW := [some (("__init__" : Str), qInit, defArgs sInit, FuncBody.stmts (defBody sInit), defScope sInit, mainGlobals, [("__class__" : Str)], builtinsNs)]
/-- what is looked at behind it, one by one -/
structure Runs (w : World) : Prop where
  a : (whole w).map (fun x => HandSHeadRun.looksF RW.prog x.1.heap x.2.abs) = some true
  b : (whole w).map (fun x => HandSHeadRun.seenQ VPQ loose (PySem.importedModules RW.prog.main.body) (fun s => PySem.W.xlAt VPQ [] s && PySem.W.recOk RW.toRowW.records s) x.2.abs) = some (PySem.W.openGood VPQ loose)
  c : (whole w).map (fun x => (ob x.2).1.1.1.1) = some true
  d : (whole w).map (fun x => (ob x.2).1.1.1.2) = some fnL
  e : (whole w).map (fun x => ((ob x.2).1.1.2, (ob x.2).1.2, (ob x.2).2)) = some (tsL w, true, iniL)
theorem Runs.join {w : World} (h : Runs w) : HandSHeadRun.RunEqI RW VPQ hk ob 12000 loose w := by
  obtain ⟨a, b, c, d, e⟩ := h
  show (whole w).map (fun x => (HandSHeadRun.looksF RW.prog x.1.heap x.2.abs, HandSHeadRun.seenQ VPQ loose (PySem.importedModules RW.prog.main.body) (fun s => PySem.W.xlAt VPQ [] s && PySem.W.recOk RW.toRowW.records s) x.2.abs, ob x.2)) = some (true, PySem.W.openGood VPQ loose, hk.val w)
  cases h : whole w with
  | none =>
    rw [h] at a
    cases a
  | some x =>
    rw [h] at a b c d e
    have c := Option.some.inj c
    have d := Option.some.inj d
    have e := Option.some.inj e
    have e1 : (ob x.2).1.1.1.1 = (hk.val w).1.1.1.1 := c
    have e2 : (ob x.2).1.1.1.2 = (hk.val w).1.1.1.2 := d
    have e3 : (ob x.2).1.1.2 = (hk.val w).1.1.2 := congrArg (fun z => z.1) e
    have e4 : (ob x.2).1.2 = (hk.val w).1.2 := congrArg (fun z => z.2.1) e
    have e5 : (ob x.2).2 = (hk.val w).2 := congrArg (fun z => z.2.2) e
    have c : ob x.2 = hk.val w := Prod.ext (Prod.ext (Prod.ext (Prod.ext e1 e2) e3) e4) e5
    exact congrArg some (Prod.ext (Option.some.inj a) (Prod.ext (Option.some.inj b) c))
theorem runD1 (w : World) : (whole (w.withFollow rowG true)).map (fun x => (ob x.2).1.1.1.2) = some fnL := by
  kernel_rfl
theorem runC1 (w : World) : (whole (w.withFollow rowG true)).map (fun x => (ob x.2).1.1.1.1) = some true := by
  kernel_rfl
theorem runE1 (w : World) : (whole (w.withFollow rowG true)).map (fun x => ((ob x.2).1.1.2, (ob x.2).1.2, (ob x.2).2)) = some (tsL (w.withFollow rowG true), true, iniL) := by
  kernel_rfl
theorem runD2 (w : World) : (whole (w.withFollow rowG false)).map (fun x => (ob x.2).1.1.1.2) = some fnL := by
  kernel_rfl
theorem runC2 (w : World) : (whole (w.withFollow rowG false)).map (fun x => (ob x.2).1.1.1.1) = some true := by
  kernel_rfl
theorem runE2 (w : World) : (whole (w.withFollow rowG false)).map (fun x => ((ob x.2).1.1.2, (ob x.2).1.2, (ob x.2).2)) = some (tsL (w.withFollow rowG false), true, iniL) := by
  kernel_rfl
theorem runA1 (w : World) : (whole (w.withFollow rowG true)).map (fun x => HandSHeadRun.looksF RW.prog x.1.heap x.2.abs) = some true := by
  kernel_rfl
theorem runA2 (w : World) : (whole (w.withFollow rowG false)).map (fun x => HandSHeadRun.looksF RW.prog x.1.heap x.2.abs) = some true := by
  kernel_rfl
theorem runB1 (w : World) : (whole (w.withFollow rowG true)).map (fun x => HandSHeadRun.seenQ VPQ loose (PySem.importedModules RW.prog.main.body) (fun s => PySem.W.xlAt VPQ [] s && PySem.W.recOk RW.toRowW.records s) x.2.abs) = some (PySem.W.openGood VPQ loose) := by
  kernel_rfl
theorem runB2 (w : World) : (whole (w.withFollow rowG false)).map (fun x => HandSHeadRun.seenQ VPQ loose (PySem.importedModules RW.prog.main.body) (fun s => PySem.W.xlAt VPQ [] s && PySem.W.recOk RW.toRowW.records s) x.2.abs) = some (PySem.W.openGood VPQ loose) := by
  kernel_rfl
theorem run (w : World) : HandSHeadRun.RunEqI RW VPQ hk ob 12000 loose w := by
  have h : HandSHeadRun.RunEqI RW VPQ hk ob 12000 loose (w.withFollow rowG (w.params.followText rowG)) := by
    cases w.params.followText rowG with
    | true => exact Runs.join ⟨runA1 w, runB1 w, runC1 w, runD1 w, runE1 w⟩
    | false => exact Runs.join ⟨runA2 w, runB2 w, runC2 w, runD2 w, runE2 w⟩
  rwa [World.withFollow_self] at h
end Own
set_option Elab.async false
set_option linter.all false
set_option maxRecDepth 100000
set_option maxHeartbeats 4000000
namespace Own
open PySem PySem.Spec PyProof.Rows L2 LamX
/-! ### f(k = v, ..), all by keywords -/
section
variable {X : Cx} {CX : CXT} {k : Nat} {f : Addr} {fd : FuncData} {ps ks : List Str} {sp : Sp} {E : XK} {x : Str} {p pos : Pos} {kws : List Keyword} {tk : TA} {g : List Value → List Value → List Value} {gV : List V → List V → List V}
def tCallK0 (m : Nat) (sp : Sp) (gV : List V → List V → List V) (E : XK) (tk : TA) : TE := fun σ H Q => tk σ H fun zs H2 => zs.length = m ∧ sp (gV [] zs) H2 Q E
theorem pe_kw0 (F : FnOk X.prog X.w X.K X.mg X.base CX k f fd ps sp) (hr : Room k X.A) (hg : Gl X x) (hm : X.mg x = some (.ref f)) (hk : PySem.W.keepIn X.K (.ref f) = true) (hb : KBn X.K fd ps 0 ks g gV) (hx : Passes CX X E) (hkw : PK X kws tk)
    (hall : (backToKw pos (keywordEach kws X.env)).all (·.1.isSome) = true := by rfl) (hks : (backToKw pos (keywordEach kws X.env)).filterMap (·.1) = ks := by rfl) (hdb : (x == ("__debug__" : Str)) = false := by decide)
    (hpl : ((backTo pos (starEach [] X.env)).any (·.1) || (backToKw pos (keywordEach kws X.env)).any (·.1.isNone)) = false := by rfl) : PE X (.Call (.Name x p) [] kws pos) (tCallK0 ks.length sp gV E tk) := by
  constructor
  intro pins s σ H Q I h
  refine wpAny_Call_Name_kw (ld_glob I hg hm (PySem.W.callWith_KW0 (h₀ := X.base) I.ok.mod.kin hk hall (thn (hkw.run pos pins s σ H _ I h) fun ws s2 ⟨zs, H2, I2, rz, l2, q2⟩ => ⟨I2.kIn, ?_⟩) hpl) hdb)
  rw [hks]
  exact run_fnN (us := []) (vs := []) F hr hb hx I2 .nil rz rfl l2 q2
end
theorem kb_one {K : PySem.W.Frag} {x qual : Str} {params : Arguments} {body : List Stmt} {scope : Scope} {kws : List (Str × V)} {f : Addr} {fd : FuncData} {p : Str} (F : FunD K x qual params body scope [] kws f fd)
    (h : ∀ (kV doc pm : Value) (an : Option Addr) (cdv ct u : Value), bindArgs (PySem.W.fnOf x qual params body scope .none kV doc pm an cdv ct) ⟨[], [(p, u)]⟩ = pure [(p, u)]) : KBn K fd [p] 0 [p] (fun _ ws => ws) (fun _ zs => zs) := by
  obtain ⟨oc, od, dV, kV, doc, pm, an, cdv, ct, osl, rfl, lk, hcd, hD, hK⟩ := F.ex
  refine ⟨fun s us ws X l1 l2 => ?_, fun _ r => r⟩
  match us, ws, l1, l2 with
  | [], [u], _, _ =>
    rcases hD with ⟨_, rfl⟩ | ⟨e, _⟩
    · exact .of_eq (h kV doc pm an cdv ct u)
    · exact absurd rfl e
/-- len of a list, a tuple, the written part told by its own name -/
theorem call_lenK {X : Cx} {K : PySem.W.Frag} (hK : X.K = K) : CallR X (.builtin "len") (fun xs H Q => ∃ p ys, xs = [.ref p] ∧ (SqL K H p ys ∨ SqT K H p ys) ∧ Q (.int (List.length ys)) H) := by
  subst hK
  exact call_len_seq
end Own
set_option Elab.async false
set_option linter.all false
set_option maxRecDepth 100000
set_option maxHeartbeats 2000000
namespace Own
open PySem PySem.Spec PyProof.Rows L2
/-! ### a tuple no times; any of a tuple of ints; == of own instances -/
theorem tuple_mul0 (l : Addr) (items : Array Value) (n : Nat) (dd : Option Addr) (sl : Array (Option Value)) (u : Tok) (h0 : items.isEmpty = false) :
    Meets (Builtin.«tuple.__mul__» ⟨[.ref l, .int 0 u], []⟩) (fun _ R s => s.heap.get? l = some { cls := .type "tuple", dict := dd, data := .seq items n, slots := sl } ∧
      R (.ok (.ret (Value.ref s.heap.objs.size))) { s with heap := s.heap.push { cls := Value.type "tuple", data := Data.seq #[] }, toks := s.toks }) :=
  .of_wp fun prog w A R s h => by
    obtain ⟨hp, g, d, tk, os⟩ := s
    obtain ⟨hl, h⟩ := h
    have f1 := AutoSeq1.idx_int
    have c1 : (items.isEmpty || (0 : Int) == 1) = false := by rw [h0]; rfl
    wp_walk using wpAny_loadPart' hl
    repeat (first
      | (refine wpAny_ite_false (decide_eq_false (by rw [c1]; exact Bool.false_ne_true)) ?_; wp_walk using wpAny_loadPart' hl)
      | (refine wpAny_ite_false (by decide) ?_; wp_walk using wpAny_loadPart' hl)
      | (refine wpAny_ite_true (by simp) ?_; wp_walk using wpAny_loadPart' hl))
    exact ⟨_, rfl, h⟩
def rRepT0 (K : PySem.W.Frag) : R2 := fun x y H Q => ∃ l xs, x = .ref l ∧ y = .int 0 ∧ SqT K H l xs ∧ xs ≠ [] ∧ ∀ p, H p = none → Q (.ref p) (upd H p (.tup []))
section
variable {X : Cx}
theorem op_repT0 : OpR X (binaryOp .Mult) (rRepT0 X.K) := by
  intro pins s σ H x y v u Q I rx ry h
  obtain ⟨l, xs, rfl, rfl, hT, hne, q⟩ := h
  cases rx
  obtain ⟨t, rfl⟩ := ry
  obtain ⟨its, r, ⟨⟨cls, dd, data, sl⟩, ho, hc, n, hd⟩, hs⟩ := I.tuple hT
  simp only at hc hd
  subst hc hd
  have hle : its.length = xs.length := r.length.symm
  have hi : its.toArray.isEmpty = false := by
    cases its with
    | nil => exact absurd (List.eq_nil_of_length_eq_zero hle.symm) hne
    | cons a b => rfl
  refine wpAny_binaryOp_repeat_ref (T := "tuple") (U := "int") (by decide) ⟨_, ho, rfl⟩ (fun s' => typeIs_int s' 0 t) noFill_tuple_mul F.fills_int_mul F.slot_int_rmul repeat_tuple F.slot_int_index.lookup
    (call_meets F.slot_int_rmul (typeIs_int s 0 t) F.entry_int_rmul (F.args_int_rmul_2 _ _) (int_rmul_tuple 0 t l its.toArray n dd sl)
      ⟨ho, rfl, ⟨_, ho, rfl⟩, call_meets F.slot_tuple_mul ⟨_, ho, rfl⟩ F.entry_tuple_mul (F.args_tuple_mul_2 _ _) (tuple_mul0 l its.toArray n dd sl t hi) ⟨ho, ?_⟩⟩)
  refine ⟨.ref s.heap.objs.size, _, I.laid (t' := s.toks) (o := .tup []) (fun b ob q => Heap.get?_push_of_some _ q) (Nat.le_refl _) ?_, rfl, q _ (I.hok.fresh (Nat.le_refl _))⟩
  exact ⟨by show 0 ≤ sizeLine; decide, [], .nil, IsTup.new _ _⟩
theorem ints_len : ∀ {its : List Value} {ns : List Int}, IntsAre its ns → its.length = ns.length
  | _, _, .nil => rfl
  | _, _, .cons _ _ h => congrArg (· + 1) (ints_len h)
theorem truth_ints {prog : Program} {w : World} {A : Around} {ns : List Int} {its : List Value} (e : IntsAre its ns) :
    TruthOf prog w A (fun i v => its.toArray[i]? = some v) (fun i => (ns.getD i 0) != 0) := fun i v s Q E hv hq => by
  have hv' : its[i]? = some v := by simpa using hv
  obtain ⟨n, t, rfl, hn⟩ := e.at i v hv'
  have hg : ns.getD i 0 = n := by rw [List.getD_eq_getElem?_getD, hn]; rfl
  have hq' : Q ((ns.getD i 0) != 0) s := hq
  rw [hg] at hq'
  exact P.truthy_int hq'
theorem anyN_range : ∀ ns : List Int, (List.range ns.length).any (fun i => ns.getD i 0 != 0) = ns.any (· != 0)
  | [] => rfl
  | n :: ns => by
    rw [List.length_cons, List.range_succ_eq_map, List.any_cons, List.any_map, List.any_cons, ← anyN_range ns]
    all_goals rfl
def rAnyT (K : PySem.W.Frag) : List V → Hp → VK → Prop := fun vs H Q => ∃ (a : Addr) (ns : List Int), vs = [V.ref a] ∧ SqT K H a (ns.map V.int) ∧ Q (.bl (ns.any (· != 0))) H
theorem cr_anyT (hc : X.calm = true) : CallR X (.builtin "any") (rAnyT X.K) := by
  intro pins s σ H vs us Q I r h
  obtain ⟨a, ns, rfl, hs, q⟩ := h
  obtain ⟨its, rv, hl, hlt⟩ := I.tuple hs
  rw [Vals.ref1 r]
  have hb := ints_of_vals rv
  have lt : a < s.heap.objs.size := by
    obtain ⟨_, e, _⟩ := id hl
    exact Heap.lt_size e
  have hl2 : s.heap.IsTuple a its.toArray := hl
  refine call_any_walk (wpAny_pyIter_tuple hl2 ?_)
  refine ⟨_, _, _, _, _, _, _, rfl, Walks.tuple (A := X.A.in1) (I.ok.hd hc) s.heap.objs.size a (Nat.ne_of_lt lt) its.toArray, ⟨⟨_, Heap.get?_push_size _ rfl, rfl, rfl⟩, hl2.push _⟩, truth_ints hb, fun h' tk hk => ?_⟩
  refine ⟨.bl _, H, I.kept fun b o eo => hk b o (fun hmem => ?_) (Heap.get?_push_of_some _ eo), ?_, q⟩
  · rcases List.mem_cons.mp hmem with e1 | hmem
    · exact absurd (e1 ▸ Heap.lt_size eo) (Nat.lt_irrefl _)
    · cases hmem
  · show Value.bool _ = Value.bool _
    rw [← anyN_range, List.size_toArray, ints_len hb]
/-- x == y, x an own instance of a class with a def for it; y an instance, not of a class below -/
def rOwnI (K : PySem.W.Frag) (C : Addr) (sp : Sp) : R2 := fun x y H Q => ∃ a dx fs b C' dy gs, x = .ref a ∧ y = .ref b ∧ H a = some (.ins C dx fs) ∧ H b = some (.ins C' dy gs) ∧ PySem.W.notFirst K C (.ref C') = true ∧ sp [x, y] H Q fun _ _ _ => False
theorem op_ownI {op : CmpOp} {C g : Addr} {n : Nat} {sp : Sp} (hop : ∀ a b, compareOp op a b = richCompare op a b) (hs : PySem.W.findIn X.K (.ref C) (cmpInfo op).2.1 = some (some (.ref g))) (hf : PySem.W.isFn X.K (.ref g) = true) (F : FnR X.prog X.w X.K X.mg X.base CX0 n g sp)
    (hr : Room n X.A) : OpR X (compareOp op) (rOwnI X.K C sp) := by
  intro pins s σ H x y v u Q I rx ry h
  obtain ⟨a, dx, fs, b, C', dy, gs, rfl, rfl, ha, hb, hn, q⟩ := h
  cases (show v = Value.ref a from rx)
  cases (show u = Value.ref b from ry)
  obtain ⟨mA, O, _⟩ := ins_get I.hok ha
  obtain ⟨od, J, _⟩ := O.look
  obtain ⟨mA', O', _⟩ := ins_get I.hok hb
  obtain ⟨od', J', _⟩ := O'.look
  obtain ⟨m, hF⟩ := I.fr
  rw [hop]
  refine PySem.W.cmp_K (op := op) (tb := .ref C') hr.units0 hF I.ok.mod.kin J J'.type hn hs hf ?_
  refine wpAny_mono (wpAny_call (run_fnR (us := [.ref a, .ref b]) (vs := [.ref a, .ref b]) F hr pass0 I (.cons rfl (.cons rfl .nil)) q)) (fun w s' z => ?_) fun _ _ x => x
  obtain ⟨z', H', I', rz, qz⟩ := z
  exact SlX.cmpback rz ⟨z', H', I', rz, qz⟩
end
end Own
set_option Elab.async false
set_option linter.all false
set_option maxRecDepth 100000
set_option maxHeartbeats 4000000
namespace Own
open PySem PySem.Spec PyProof.Rows L2 LamX
theorem yes_if {σ : L2.St} {H : Hp} {A B : Hp → Prop} (h : A H) : tYes σ H (fun b H3 => if b = true then A H3 else B H3) := by
  show if true = true then A H else B H
  rw [if_pos rfl]
  exact h
/-! ### the law's draws: a state of two lists and two wholes -/
def stK (lw lc : Addr) (r u : Int) : List (Key × V) := [(.inr "wide", .ref lw), (.inr "cells", .ref lc), (.inr "rest", .int r), (.inr "turn", .int u)]
theorem stK_wide (lw lc : Addr) (r u : Int) : valV (stK lw lc r u) (.inr "wide") = some (.ref lw) := by kernel_rfl
theorem stK_cells (lw lc : Addr) (r u : Int) : valV (stK lw lc r u) (.inr "cells") = some (.ref lc) := by kernel_rfl
theorem stK_rest (lw lc : Addr) (r u : Int) : valV (stK lw lc r u) (.inr "rest") = some (.int r) := by kernel_rfl
theorem stK_turn (lw lc : Addr) (r u : Int) : valV (stK lw lc r u) (.inr "turn") = some (.int u) := by kernel_rfl
theorem stK_putRest (lw lc : Addr) (r u z : Int) : putK (stK lw lc r u) (.inr "rest") (.int z) = stK lw lc z u := by kernel_rfl
theorem stK_putTurn (lw lc : Addr) (r u z : Int) : putK (stK lw lc r u) (.inr "turn") (.int z) = stK lw lc r z := by kernel_rfl
theorem stK_new (lw lc : Addr) : mergeK [] (stK lw lc 0 0) = stK lw lc 0 0 := by kernel_rfl
theorem dget_k {H : Hp} {a : Addr} {kvs : List (Key × V)} (k : Key) {v : V} (h : H a = some (.dK kvs)) (e : valV kvs k = some v) : DGet H a (kV k) (some v) := e ▸ DGet.k h
theorem dput_k {H : Hp} {a : Addr} {kvs kvs' : List (Key × V)} (k : Key) {v : V} (h : H a = some (.dK kvs)) (hl : kvs.length < sizeLine) (e : putK kvs k v = kvs') : DPut H a (kV k) v (upd H a (.dK kvs')) := e ▸ DPut.k h hl
/-- the state at a, its turns being at most t -/
structure StA (H : Hp) (a lw lc : Addr) (t : Nat) : Prop where
  ex : ∃ (ws cs : List Int) (r u : Int), H a = some (.dK (stK lw lc r u)) ∧ H lw = some (.lst (ws.map V.int)) ∧ H lc = some (.lst (cs.map V.int)) ∧ 0 ≤ r ∧ 0 ≤ u ∧ u ≤ t ∧ (∀ z ∈ ws, 0 ≤ z) ∧ ws.length ≤ 63
  ne : lw ≠ lc
/-- all that was tracked is as it was, but for what stands at xs -/
def Kp (xs : List Addr) (H H' : Hp) : Prop := ∀ b o, H b = some o → b ∉ xs → H' b = some o
theorem Kp.refl (xs : List Addr) (H : Hp) : Kp xs H H := fun _ _ h _ => h
theorem Kp.trans {xs : List Addr} {H H1 H2 : Hp} (a : Kp xs H H1) (b : Kp xs H1 H2) : Kp xs H H2 := fun c o h n => b c o (a c o h n) n
theorem Kp.of {xs : List Addr} {H H' : Hp} (e : Same H H') : Kp xs H H' := fun b o h _ => e b o h
theorem Kp.upd {xs : List Addr} {H : Hp} {a : Addr} {o : HO} (h : a ∈ xs) : Kp xs H (L2.upd H a o) := fun b u e n => by
  rw [upd_ne (fun z => n (by rw [z]; exact h))]
  exact e
theorem Same.upd {H : Hp} {a : Addr} {o : HO} (h : H a = none) : Same H (L2.upd H a o) := fun b u e => by
  rw [upd_ne (ne_of_none e h)]
  exact e
theorem Kp.weak {xs ys : List Addr} {H H' : Hp} (a : Kp xs H H') (h : ∀ b ∈ xs, b ∈ ys) : Kp ys H H' := fun b o e n => a b o e fun z => n (h b z)
theorem StA.same {H H' : Hp} {a lw lc : Addr} {t : Nat} (S : StA H a lw lc t) (e : Same H H') : StA H' a lw lc t := by
  obtain ⟨⟨ws, cs, r, u, h1, h2, h3, h4⟩, ne⟩ := S
  exact ⟨⟨ws, cs, r, u, e _ _ h1, e _ _ h2, e _ _ h3, h4⟩, ne⟩
theorem StA.more {H : Hp} {a lw lc : Addr} {t t' : Nat} (S : StA H a lw lc t) (h : t ≤ t') : StA H a lw lc t' := by
  obtain ⟨⟨ws, cs, r, u, h1, h2, h3, h4, h5, h6, h7⟩, ne⟩ := S
  exact ⟨⟨ws, cs, r, u, h1, h2, h3, h4, h5, by omega, h7⟩, ne⟩
def spBegun (K : PySem.W.Frag) : Sp := fun vs H Q _ => ∃ (s : Addr) (ns : List Int), vs = [.ref s] ∧ SqL K H s (ns.map V.int) ∧ ns.length ≤ 63 ∧
  ∀ a lw lc H', H a = none → H lw = none → H lc = none → StA H' a lw lc 0 → Same H H' → Q (.ref a) H'
def spStir : Sp := fun vs H Q _ => ∃ (a lw lc : Addr) (t : Nat), vs = [.ref a] ∧ StA H a lw lc t ∧ t < 2 ^ 40 ∧
  ∀ z H', 0 ≤ z → StA H' a lw lc (t + 1) → Kp [a] H H' → Q (.int z) H'
def spDraw : Sp := fun vs H Q _ => ∃ (a lw lc : Addr) (t : Nat) (n : Int), vs = [.ref a, .int n] ∧ StA H a lw lc t ∧ t < 2 ^ 40 ∧ 0 < n ∧ n < 2 ^ 128 ∧
  ∀ z H', 0 ≤ z → z < n → StA H' a lw lc (t + 1) → Kp [a, lw] H H' → Q (.int z) H'
def spPick (K : PySem.W.Frag) : Sp := fun vs H Q _ => ∃ (a lw lc : Addr) (t : Nat) (l : Addr) (xs : List V), vs = [.ref a, .ref l] ∧ StA H a lw lc t ∧ t < 2 ^ 40 ∧ H l = some (.lst xs) ∧ l ≠ lw ∧ 0 < xs.length ∧ xs.length ≤ 1000 ∧
  ∀ (i : Nat) x H', xs[i]? = some x → StA H' a lw lc (t + 1) → Kp [a, lw] H H' → Q x H'
section
variable {P : Program} {w : World} {K : PySem.W.Frag} {mg : Str → Option Value} {base : Heap} {f fS fD : Addr} {fd fdS fdD : FuncData}
theorem scBegun : FnScope ["_law_script", "_law_wide", "_law_cell"] ["_law_script"] (defScope sBegun) := ⟨rfl, rfl, rfl, by decide +kernel, rfl, by decide +kernel, by decide +kernel⟩
theorem ok_begun (F : FnP K "_law_begun" sBegun f fd) (T : Txt K mg) : FnOk P w K mg base CX0 1 f fd ["_law_script"] (spBegun K) := by
  refine F.ok scBegun (fun vs H Q E h => ?_) (fun cdv A outer s H vs Q E hr h => ?_)
  · obtain ⟨x, i, rfl, _⟩ := h
    rfl
  · obtain ⟨x, ns, rfl, hS, hl, k⟩ := h
    refine ⟨_, PSs.nox (pss_cons (ps_setLc (i := 1) (own := [("_law_cell", 2)]) (g := gName 2) (by rfl) scBegun.nd rfl rfl (sw_true rfl rfl rfl (by decide +kernel)) (pi_list (pv 0)) (blkOk_by (own := [("_law_cell", 2)]) (N := ["_law_script", "_law_wide", "_law_cell"]) (sc := defScope sBegun) (by decide +kernel))
        (fun _ _ _ _ _ => pg_name (i := 2) scBegun.nd rfl (Or.inl rfl))
        (fun _ _ _ _ _ => pts_one (pt_cmpR op_ge (pe_callB call_abs (by rfl) T.abs (by decide +kernel) (pa_cons (pv 2) pa_nil)) (pe_op op_pow pe_int pe_int) (nomark _)))
        (fun _ _ _ _ _ => pe_op op_sub (pe_callB call_abs (by rfl) T.abs (by decide +kernel) (pa_cons (pv 2) pa_nil)) (pe_op op_pow pe_int pe_int)))
      (pss_one (ps_ret (pe_disp (pps_cons pe_str (pv 1) (pps_cons pe_str (pe_lc (own := [("_law_cell", 2)]) (g := gName 2) (tt := tYes) (by rfl) scBegun.nd (pi_list (pv 0)) (blkOk_by (own := [("_law_cell", 2)]) (N := ["_law_script", "_law_wide", "_law_cell"]) (sc := defScope sBegun) (by decide +kernel))
        (fun _ _ _ _ _ => pg_name (i := 2) scBegun.nd rfl (Or.inl rfl)) (fun _ _ _ _ _ => pts_nil) (fun _ _ _ _ _ => pe_callB call_abs (by rfl) T.abs (by decide +kernel) (pa_cons (pv 2) pa_nil)))
        (pps_cons pe_str pe_int (pps_cons pe_str pe_int pps_nil)))) (by rfl) (by rfl) (fun z => by cases z) (by decide))))), ?_⟩
    refine ⟨_, rfl, x, rfl, ⟨_, hS⟩, fun lw nw => ?_⟩
    have sw : ∀ o, Same H (L2.upd H lw o) := fun o => Same.upd nw
    refine lc_list (K := K) (a := x) (xs := ns.map V.int) (fun i H1 => ∃ ws : List Int, H1 = L2.upd H lw (.lst (ws.map V.int)) ∧ (∀ z ∈ ws, 0 ≤ z) ∧ ws.length ≤ i) ⟨[], rfl, (fun z hz => by cases hz), Nat.le_refl _⟩ (fun i H1 _ ⟨ws, e, _⟩ => by rw [e]; exact (sw _).seq hS) ?_ ?_
    · rintro i y H1 hi ⟨ws, rfl, h0, hw⟩
      obtain ⟨z, hz, rfl⟩ : ∃ z, ns[i]? = some z ∧ y = V.int z := by
        rw [List.getElem?_map] at hi
        cases e : ns[i]? with
        | none =>
          rw [e] at hi
          cases hi
        | some z =>
          rw [e] at hi
          exact ⟨z, rfl, (Option.some.inj hi).symm⟩
      have hin : i < 63 := Nat.lt_of_lt_of_le (List.getElem?_eq_some_iff.mp hz).1 hl
      refine ⟨rfl, _, rfl, z, rfl, _, _, rfl, rfl, ⟨by decide, by decide, by decide⟩, _, _, rfl, rfl, _, rfl, ?_⟩
      refine ite2 (fun hc => ?_) fun _ => ⟨ws, rfl, h0, by omega⟩
      refine ⟨_, rfl, z, rfl, _, _, rfl, rfl, ⟨by decide, by decide, by decide⟩, _, _, rfl, rfl, _, upd_same, (by rw [List.length_map]; exact Nat.lt_of_le_of_lt (Nat.le_trans hw (Nat.le_of_lt hin)) (by decide)), ?_⟩
      refine ⟨ws ++ [(if z < 0 then -z else z) - 10 ^ (18 : Int).toNat], ?_, fun q hq => ?_, by simp; omega⟩
      · rw [upd_upd, List.map_append]
        all_goals rfl
      · rcases List.mem_append.mp hq with m | m
        · exact h0 q m
        · have hc' := of_decide_eq_true hc
          rw [List.mem_singleton] at m
          subst m
          omega
    · rintro H1 ⟨ws, rfl, h0, hw⟩
      intro a na
      have nL : a ≠ lw := fun z => by
        rw [z, upd_same] at na
        cases na
      have na0 : H a = none := by
        rw [upd_ne nL] at na
        exact na
      have s1 : Same H (L2.upd (L2.upd H lw (.lst (ws.map V.int))) a (.dK [])) := (sw _).trans (Same.upd na)
      refine ⟨_, rfl, ?_⟩
      refine ⟨_, rfl, x, rfl, ⟨_, s1.seq hS⟩, fun lc nc => ?_⟩
      have sc : ∀ o, Same (L2.upd (L2.upd H lw (.lst (ws.map V.int))) a (.dK [])) (L2.upd (L2.upd (L2.upd H lw (.lst (ws.map V.int))) a (.dK [])) lc o) := fun o => Same.upd nc
      refine lc_list (K := K) (a := x) (xs := ns.map V.int) (fun i H1 => ∃ cs : List Int, H1 = L2.upd (L2.upd (L2.upd H lw (.lst (ws.map V.int))) a (.dK [])) lc (.lst (cs.map V.int)) ∧ cs.length = i) ⟨[], rfl, rfl⟩ (fun i H1 _ ⟨cs, e, _⟩ => by rw [e]; exact (s1.trans (sc _)).seq hS) ?_ ?_
      · rintro i y H1 hi ⟨cs, rfl, hcs⟩
        obtain ⟨z, hz, rfl⟩ : ∃ z, ns[i]? = some z ∧ y = V.int z := by
          rw [List.getElem?_map] at hi
          cases e : ns[i]? with
          | none =>
            rw [e] at hi
            cases hi
          | some z =>
            rw [e] at hi
            exact ⟨z, rfl, (Option.some.inj hi).symm⟩
        have hin : i < 63 := Nat.lt_of_lt_of_le (List.getElem?_eq_some_iff.mp hz).1 hl
        refine ⟨rfl, ?_⟩
        refine yes_if ?_
        refine ⟨_, rfl, z, rfl, _, upd_same, (by rw [List.length_map, hcs]; exact Nat.lt_trans hin (by decide)), ?_⟩
        exact ⟨cs ++ [if z < 0 then -z else z], by rw [upd_upd, List.map_append]; all_goals rfl, by simp [hcs]⟩
      · rintro H1 ⟨cs, rfl, hcs⟩
        have nLC : lw ≠ lc := ne_of_none (by rw [upd_ne nL.symm]; exact upd_same) nc
        have nAC : a ≠ lc := ne_of_none upd_same nc
        have hlw : ws.length ≤ 63 := by
          rw [List.length_map] at hw
          omega
        refine ⟨by rw [upd_ne nAC]; exact upd_same, stK lw lc 0 0, rfl, (by show 4 ≤ 15; decide), ?_⟩
        rw [stK_new]
        have nc0 : H lc = none := (s1.free nc)
        refine k a lw lc _ na0 nw nc0 ⟨⟨ws, cs, 0, 0, upd_same, ?_, ?_, Int.le_refl _, Int.le_refl _, Int.le_refl _, h0, hlw⟩, nLC⟩ ?_
        · rw [upd_ne nL.symm, upd_ne nLC, upd_ne nL.symm, upd_same]
        · rw [upd_ne nAC.symm, upd_same]
        · intro b o e
          rw [upd_ne (ne_of_none e na0)]
          exact (s1.trans (sc _)) b o e
end
end Own
set_option Elab.async false
set_option linter.all false
set_option maxRecDepth 100000
set_option maxHeartbeats 4000000
namespace Own
open PySem PySem.Spec PyProof.Rows L2 LamX
section
variable {P : Program} {w : World} {K : PySem.W.Frag} {mg : Str → Option Value} {base : Heap} {f fS fD : Addr} {fd fdS fdD : FuncData}
theorem ints_at {ns : List Int} {i : Nat} {y : V} (h : (ns.map V.int)[i]? = some y) : ∃ z, ns[i]? = some z ∧ y = V.int z := by
  rw [List.getElem?_map] at h
  cases e : ns[i]? with
  | none =>
    rw [e] at h
    cases h
  | some z =>
    rw [e] at h
    exact ⟨z, rfl, (Option.some.inj h).symm⟩
theorem scStir : FnScope ["_law_state", "_law_turn", "_law_found", "_law_prime", "_law_blend", "_law_cell"] ["_law_state"] (defScope sStir) := ⟨rfl, rfl, rfl, by decide +kernel, rfl, by decide +kernel, by decide +kernel⟩
def primes : List Int := [2147483647, 2147483629, 2147483587, 2147483579]
theorem ok_stir (F : FnP K "_law_stirred" sStir f fd) (T : Txt K mg) : FnOk P w K mg base CX0 1 f fd ["_law_state"] spStir := by
  refine F.ok scStir (fun vs H Q E h => ?_) (fun cdv A outer s H vs Q E hr h => ?_)
  · obtain ⟨a, lw, lc, t, rfl, _⟩ := h
    rfl
  · obtain ⟨a, lw, lc, t, rfl, S, ht, k⟩ := h
    have hu := hu_of hr
    refine ⟨_, PSs.nox (pss_cons (ps_par (i := 1) (j := 2) rfl scStir.nd rfl rfl (by decide) rfl rfl (pa_cons (pe_op op_add (pe_dget hu (pv 0) pe_str (fun _ _ => rfl)) pe_int) (pa_cons pe_int pa_nil)) (by rfl))
      (pss_cons (ps_dput hu (pv 0) pe_str (pv 1) rfl)
      (pss_cons (ps_for PassesOwn.never rfl (pi_list (pe_lst (pa_cons pe_int (pa_cons pe_int (pa_cons pe_int (pa_cons pe_int pa_nil)))))) (pg_name (i := 3) scStir.nd rfl (Or.inl rfl))
        (pss_cons (ps_set (i := 4) scStir.nd rfl (Or.inl rfl) (pe_op op_add (pe_op op_mul pe_int (pv 1)) (pe_op op_fdiv (pv 3) pe_int)))
        (pss_cons (ps_for PassesOwn.never rfl (pi_list (pe_dget hu (pv 0) pe_str (fun _ _ => rfl))) (pg_name (i := 5) scStir.nd rfl (Or.inl rfl))
          (pss_one (ps_set (i := 4) scStir.nd rfl (Or.inl rfl) (pe_op op_mod (pe_callTy call_int1 (by rfl) T.int boot_int (pa_cons (pe_op op_add (pe_op op_add (pe_op op_mul (pv 4) pe_int) (pv 5)) (pv 1)) pa_nil)) (pv 3)))))
        (pss_one (ps_set (i := 2) scStir.nd rfl (Or.inl rfl) (pe_op op_add (pe_op op_mul (pv 2) pe_int) (pe_op op_mod (pe_callTy call_int1 (by rfl) T.int boot_int (pa_cons (pe_op op_pow (pv 4) pe_int) pa_nil)) (pv 3))))))))
      (pss_one (ps_ret (pv 2)))))), ?_⟩
    obtain ⟨⟨ws, cs, r, u, h1, h2, h3, hr0, hu0, hut, hw0, hwl⟩, ne⟩ := S
    refine ⟨_, rfl, a, _, rfl, dget_k (.inr "turn") h1 (stK_turn ..), _, _, rfl, rfl, _, _, rfl, ?_⟩
    refine ⟨_, rfl, _, rfl, a, _, rfl, dput_k (.inr "turn") h1 (by show 4 < sizeLine; decide) (stK_putTurn ..), ?_⟩
    have nlw : lw ≠ a := ne_of h2 h1 (by intro z; cases z)
    have nlc : lc ≠ a := ne_of h3 h1 (by intro z; cases z)
    refine ⟨(by show 4 ≤ sizeLine; decide), fun p hp => ?_⟩
    have npa : p ≠ a := (ne_of_none upd_same hp).symm
    have npw : p ≠ lw := (ne_of_none (by rw [upd_ne nlw]; exact h2) hp).symm
    have npc : p ≠ lc := (ne_of_none (by rw [upd_ne nlc]; exact h3) hp).symm
    have hp0 : H p = none := by
      rw [upd_ne npa] at hp
      exact hp
    have np0 : SqL K (L2.upd (L2.upd H a (.dK (stK lw lc r (u + 1)))) p (.lst (primes.map V.int))) p (primes.map V.int) := SqL.of upd_same
    have atA : (L2.upd (L2.upd H a (.dK (stK lw lc r (u + 1)))) p (.lst (primes.map V.int))) a = some (.dK (stK lw lc r (u + 1))) := by rw [upd_ne npa.symm, upd_same]
    have atC : (L2.upd (L2.upd H a (.dK (stK lw lc r (u + 1)))) p (.lst (primes.map V.int))) lc = some (.lst (cs.map V.int)) := by rw [upd_ne npc.symm, upd_ne nlc]; exact h3
    refine ⟨p, rfl, ⟨_, np0⟩, for_list (K := K) (a := p) (xs := primes.map V.int) (fun i σ H1 => ∃ (z : Int) (v3 v4 v5 : Option V), σ = [some (.ref a), some (.int (u + 1)), some (.int z), v3, v4, v5] ∧ 0 ≤ z ∧ H1 = L2.upd (L2.upd H a (.dK (stK lw lc r (u + 1)))) p (.lst (primes.map V.int)))
      ⟨0, none, none, none, rfl, Int.le_refl _, rfl⟩ (fun i σ H1 _ ⟨_, _, _, _, _, _, e⟩ => by rw [e]; exact np0) ?_ ?_⟩
    · rintro i y σ H1 hi ⟨z, v3, v4, v5, rfl, hz, rfl⟩
      obtain ⟨q, hq, rfl⟩ := ints_at hi
      have hq2 : 2000000000 < q ∧ q < 3000000000 := by
        match i, hq with
        | 0, hq => cases hq; exact ⟨by decide, by decide⟩
        | 1, hq => cases hq; exact ⟨by decide, by decide⟩
        | 2, hq => cases hq; exact ⟨by decide, by decide⟩
        | 3, hq => cases hq; exact ⟨by decide, by decide⟩
        | j + 4, hq => cases hq
      refine ⟨_, rfl, _, _, rfl, rfl, .inl ⟨by decide, by decide⟩, _, rfl, _, _, rfl, rfl, ⟨by decide, by decide⟩, _, _, rfl, rfl, ?_⟩
      refine ⟨_, rfl, a, _, rfl, dget_k (.inr "cells") atA (stK_cells ..), lc, rfl, ⟨_, SqL.of atC⟩, ?_⟩
      refine for_list (K := K) (a := lc) (xs := cs.map V.int) (fun i σ H1 => ∃ (b : Int) (v5 : Option V), σ = [some (.ref a), some (.int (u + 1)), some (.int z), some (.int q), some (.int b), v5] ∧ 0 ≤ b ∧ b < 2 ^ 60 ∧ H1 = L2.upd (L2.upd H a (.dK (stK lw lc r (u + 1)))) p (.lst (primes.map V.int)))
        ⟨48271 * (u + 1) + q / 37, v5, rfl, by omega, by omega, rfl⟩ (fun i σ H1 _ ⟨_, _, _, _, _, e⟩ => by rw [e]; exact SqL.of atC) ?_ ?_
      · rintro j y σ H1 hj ⟨b, v5, rfl, hb0, hb1, rfl⟩
        obtain ⟨c, hc, rfl⟩ := ints_at hj
        refine ⟨_, rfl, _, _, rfl, rfl, .inr ⟨by decide, by decide⟩, _, rfl, _, _, rfl, rfl, _, rfl, _, _, rfl, rfl, .inl ⟨_, rfl, _, rfl, _, _, rfl, rfl, (by omega), ?_⟩⟩
        have m1 := Int.emod_nonneg (b * 69621 + c + (u + 1)) (show q ≠ 0 by omega)
        have m2 := Int.emod_lt_of_pos (b * 69621 + c + (u + 1)) (show 0 < q by omega)
        exact ⟨_, _, rfl, m1, by omega, rfl⟩
      · rintro σ H1 ⟨b, v5, rfl, hb0, hb1, rfl⟩
        refine ⟨_, rfl, _, _, rfl, rfl, .inr ⟨by decide, by decide⟩, _, rfl, _, _, rfl, rfl, ⟨by decide, by decide, by omega⟩, .inl ⟨_, rfl, _, rfl, _, _, rfl, rfl, (by omega), _, _, rfl, rfl, ?_⟩⟩
        have m1 := Int.emod_nonneg (b ^ (5 : Int).toNat) (show q ≠ 0 by omega)
        exact ⟨_, _, _, _, rfl, by omega, rfl⟩
    · rintro σ H1 ⟨z, v3, v4, v5, rfl, hz, rfl⟩
      refine ⟨_, rfl, ?_⟩
      refine k z _ hz ⟨⟨ws, cs, r, u + 1, atA, ?_, atC, hr0, by omega, by omega, hw0, hwl⟩, ne⟩ fun b o e nb => ?_
      · rw [upd_ne npw.symm, upd_ne nlw]
        exact h2
      · have nb2 : b ≠ a := fun z => nb (List.mem_singleton.mpr z)
        rw [upd_ne (ne_of_none e hp0), upd_ne nb2]
        exact e
end
end Own
set_option Elab.async false
set_option linter.all false
set_option maxRecDepth 100000
set_option maxHeartbeats 4000000
namespace Own
open PySem PySem.Spec PyProof.Rows L2 LamX
section
variable {P : Program} {w : World} {K : PySem.W.Frag} {mg : Str → Option Value} {base : Heap} {f fS fD : Addr} {fd fdS fdD : FuncData}
theorem dpAll_ints {H : Hp} : ∀ ws : List Int, DpAll K H (ws.map V.int) (ws.map PyData.int)
  | [] => .nil
  | z :: r => .cons (.int z) (dpAll_ints r)
theorem shaped_ints : ∀ ws : List Int, SeqAt.shaped (.list (ws.map PyData.int)) = true := by
  intro ws
  have h : ∀ l : List Int, PyData.canLayAll0 (l.map PyData.int) = true ∧ PyData.depthAll (l.map PyData.int) = 0 := by
    intro l
    induction l with
    | nil => exact ⟨rfl, rfl⟩
    | cons z r ih =>
      refine ⟨?_, ?_⟩
      · show (true && PyData.canLayAll0 (r.map PyData.int)) = true
        rw [ih.1]
        rfl
      · show max 0 (PyData.depthAll (r.map PyData.int)) = 0
        rw [ih.2]
        rfl
  show (PyData.canLayAll0 (ws.map PyData.int) && decide (PyData.depthAll (ws.map PyData.int) + 1 ≤ 64)) = true
  rw [(h ws).1, (h ws).2]
  rfl
theorem eqv_nil (ws : List Int) : PyData.eqv (.list (ws.map PyData.int)) (.list []) = ws.isEmpty := by
  cases ws <;> rfl
theorem scDraw : FnScope ["_law_state", "_law_room", "_law_found"] ["_law_state", "_law_room"] (defScope sDraw) := ⟨rfl, rfl, rfl, by decide +kernel, rfl, by decide +kernel, by decide +kernel⟩
theorem ok_draw (F : FnP K "_law_draw" sDraw f fd) (FS : FnP K "_law_stirred" sStir fS fdS) (gS : mg "_law_stirred" = some (.ref fS)) (T : Txt K mg) : FnOk P w K mg base CX0 2 f fd ["_law_state", "_law_room"] spDraw := by
  have GS : FnOk P w K mg base CX0 1 fS fdS ["_law_state"] spStir := ok_stir FS T
  have bS : Binds K fdS ["_law_state"] [] := FS.bindsN fun _ _ _ _ _ _ us hl => match us, hl with | [_], _ => rfl
  refine F.ok scDraw (fun vs H Q E h => ?_) (fun cdv A outer s H vs Q E hr h => ?_)
  · obtain ⟨a, lw, lc, t, n, rfl, _⟩ := h
    rfl
  · obtain ⟨a, lw, lc, t, n, rfl, S, ht, hn0, hn1, k⟩ := h
    have hu := hu_of hr
    refine ⟨_, PSs.nox (pss_cons (ps_if (pt_cmpR op_eq (pe_dget hu (pv 0) pe_str (fun _ _ => rfl)) pe_int (nomark _))
        (pss_one (ps_dput hu (pv 0) pe_str (pe_ifExp (pt_cmpR (op_neD hr.units) (pe_dget hu (pv 0) pe_str (fun _ _ => rfl)) (pe_lst pa_nil) (nomark _))
          (pe_bm PySem.F.plainAttrs_list PySem.F.slot_list_pop PySem.F.type_list_pop mt_popAt (pe_dget hu (pv 0) pe_str (fun _ _ => rfl)) (pa_cons pe_int pa_nil))
          (pe_call GS hr (by rfl) gS FS.kp bS .nil pass0 (pa_cons (pv 0) pa_nil))) rfl)) pss_nil)
      (pss_cons (ps_set (i := 2) scDraw.nd rfl (Or.inl rfl) (pe_op op_mod (pe_callTy call_int1 (by rfl) T.int boot_int (pa_cons (pe_dget hu (pv 0) pe_str (fun _ _ => rfl)) pa_nil)) (pv 1)))
      (pss_cons (ps_dput hu (pv 0) pe_str (pe_op op_fdivW (pe_dget hu (pv 0) pe_str (fun _ _ => rfl)) (pv 1)) rfl)
      (pss_one (ps_ret (pv 2)))))), ?_⟩
    -- what comes behind the first if
    have rest : ∀ H1, StA H1 a lw lc (t + 1) → Kp [a, lw] H H1 → ∀ x y : Option V, (tSeq (tAsg (tOp (rI (fun _ j => 0 < j) fun i j => .int (i % j)) (tCB (fun xs H Q => (∃ i, xs = [.int i] ∧ Q (.int i) H) ∨ ∃ k, xs = [.bl k] ∧ Q (.int (if k then 1 else 0)) H) (tCons (tDGet (tVar 0) (tC (.str "rest"))) tNil)) (tVar 1)) (gName 2))
        (tSeq (sDPut (tVar 0) (tC (.str "rest")) (tOp (rI CDivW fun i j => .int (i / j)) (tDGet (tVar 0) (tC (.str "rest"))) (tVar 1))) (tRet (tVar 2)))) { nx := fun _ H' => Q .non H', rt := Q } [some (.ref a), some (.int n), none] H1 := by
      intro H1 S1 K1 x y
      obtain ⟨⟨ws, cs, r, u, h1, h2, h3, hr0, hu0, hut, hw0, hwl⟩, ne⟩ := S1
      refine ⟨_, rfl, a, _, rfl, dget_k (.inr "rest") h1 (stK_rest ..), .inl ⟨_, rfl, _, rfl, _, _, rfl, rfl, hn0, ?_⟩⟩
      refine ⟨_, rfl, a, _, rfl, dget_k (.inr "rest") h1 (stK_rest ..), _, rfl, _, _, rfl, rfl, wide_div (b := 128) hn0 (by omega) (by decide) (by decide), _, rfl, a, _, rfl, dput_k (.inr "rest") h1 (by show 4 < sizeLine; decide) (stK_putRest ..), _, rfl, ?_⟩
      have nlw : lw ≠ a := ne_of h2 h1 (by intro z; cases z)
      have nlc : lc ≠ a := ne_of h3 h1 (by intro z; cases z)
      refine k _ _ (Int.emod_nonneg _ (by omega)) (Int.emod_lt_of_pos _ hn0) ⟨⟨ws, cs, r / n, u, upd_same, by rw [upd_ne nlw]; exact h2, by rw [upd_ne nlc]; exact h3, Int.ediv_nonneg hr0 (by omega), hu0, hut, hw0, hwl⟩, ne⟩ (K1.trans (Kp.upd (by simp)))
    obtain ⟨⟨ws, cs, r, u, h1, h2, h3, hr0, hu0, hut, hw0, hwl⟩, ne⟩ := id S
    have nlw : lw ≠ a := ne_of h2 h1 (by intro z; cases z)
    have nlc : lc ≠ a := ne_of h3 h1 (by intro z; cases z)
    refine ⟨_, rfl, a, _, rfl, dget_k (.inr "rest") h1 (stK_rest ..), rfl, _, rfl, ?_⟩
    refine ite2 (fun _ => ?_) (fun _ => rest H (S.more (Nat.le_succ t)) (Kp.refl _ _) none none)
    refine ⟨_, rfl, a, _, rfl, dget_k (.inr "wide") h1 (stK_wide ..), (by show 0 ≤ sizeLine; decide), fun p hp => ?_⟩
    have se : Same H (L2.upd H p (.lst [])) := Same.upd hp
    refine ⟨_, _, .lst (SqL.of (se _ _ h2)) (dpAll_ints ws), .lst (SqL.of upd_same) .nil, shaped_ints ws, rfl, _, rfl, ?_⟩
    rw [eqv_nil]
    have S1 := S.same se
    cases ws with
    | nil =>
      refine iteF ?_
      refine ⟨_, rfl, a, lw, lc, t, rfl, S1, ht, fun z H' hz S2 K2 => ?_⟩
      obtain ⟨⟨ws, cs, r, u, h1, h2, h3, hr0, hu0, hut, hw0, hwl⟩, ne⟩ := id S2
      have nlw : lw ≠ a := ne_of h2 h1 (by intro z; cases z)
      have nlc : lc ≠ a := ne_of h3 h1 (by intro z; cases z)
      refine ⟨_, rfl, a, _, rfl, dput_k (.inr "rest") h1 (by show 4 < sizeLine; decide) (stK_putRest ..), ?_⟩
      exact rest _ ⟨⟨ws, cs, z, u, upd_same, by rw [upd_ne nlw]; exact h2, by rw [upd_ne nlc]; exact h3, hz, hu0, hut, hw0, hwl⟩, ne⟩ (((Kp.of se).trans (K2.weak (by simp))).trans (Kp.upd (by simp))) none none
    | cons q ws =>
      refine iteT ?_
      have h1' := se _ _ h1
      have h2' := se _ _ h2
      refine ⟨_, rfl, a, _, rfl, dget_k (.inr "wide") h1' (stK_wide ..), .inl ⟨rfl, _, .inl (.inl h2')⟩, lw, _, 0, 0, .int q, rfl, rfl, h2', by decide, by decide, ?_, rfl, ?_⟩
      · unfold seqIndex?
        simp
      · have S3 : StA (L2.upd (L2.upd (L2.upd H p (.lst [])) lw (.lst (ws.map V.int))) a (.dK (stK lw lc q u))) a lw lc (t + 1) := by
          refine ⟨⟨ws, cs, q, u, upd_same, ?_, ?_, hw0 q List.mem_cons_self, hu0, by omega, fun z hz => hw0 z (List.mem_cons_of_mem _ hz), by rw [List.length_cons] at hwl; omega⟩, ne⟩
          · rw [upd_ne nlw, upd_same]
          · rw [upd_ne nlc, upd_ne ne.symm]
            exact se _ _ h3
        refine ⟨_, rfl, a, _, rfl, dput_k (.inr "rest") (by rw [upd_ne nlw.symm]; exact h1') (by show 4 < sizeLine; decide) (stK_putRest ..), ?_⟩
        exact rest _ S3 (((Kp.of se).trans (Kp.upd (by simp))).trans (Kp.upd (by simp))) none none
theorem scPick : FnScope ["_law_state", "_law_some"] ["_law_state", "_law_some"] (defScope sPick) := ⟨rfl, rfl, rfl, by decide +kernel, rfl, by decide +kernel, by decide +kernel⟩
theorem ok_pick (F : FnP K "_law_pick" sPick f fd) (FD : FnP K "_law_draw" sDraw fD fdD) (FS : FnP K "_law_stirred" sStir fS fdS) (gD : mg "_law_draw" = some (.ref fD)) (gS : mg "_law_stirred" = some (.ref fS)) (T : Txt K mg) : FnOk P w K mg base CX0 3 f fd ["_law_state", "_law_some"] (spPick K) := by
  have GD : FnOk P w K mg base CX0 2 fD fdD ["_law_state", "_law_room"] spDraw := ok_draw FD FS gS T
  have bD : Binds K fdD ["_law_state", "_law_room"] [] := FD.bindsN fun _ _ _ _ _ _ us hl => match us, hl with | [_, _], _ => rfl
  refine F.ok scPick (fun vs H Q E h => ?_) (fun cdv A outer s H vs Q E hr h => ?_)
  · obtain ⟨a, lw, lc, t, l, xs, rfl, _⟩ := h
    rfl
  · obtain ⟨a, lw, lc, t, l, xs, rfl, S, ht, hl, nl, h0, h1, k⟩ := h
    refine ⟨_, PSs.nox (pss_one (ps_ret (pe_ix ix_list (pv 1) (pe_call GD hr (by rfl) gD FD.kp bD .nil pass0 (pa_cons (pv 0) (pa_cons (pe_callB call_len_seq (by rfl) T.len PySem.boot_len (pa_cons (pv 1) pa_nil)) pa_nil))) (fun _ _ => rfl)))), ?_⟩
    refine ⟨_, rfl, _, rfl, _, rfl, l, _, rfl, .inl (SqL.of hl), a, lw, lc, t, _, rfl, S, ht, by omega, by omega, fun z H' hz0 hz1 S' K' => ?_⟩
    obtain ⟨⟨ws, cs, r, u, e1, _⟩, _⟩ := id S
    have na : l ≠ a := ne_of hl e1 (by intro z; cases z)
    have hl' := K' l _ hl (by simp [na, nl])
    obtain ⟨j, rfl⟩ : ∃ j : Nat, z = (j : Int) := ⟨z.toNat, by omega⟩
    have hj : j < xs.length := by omega
    refine ⟨l, _, _, xs[j], rfl, rfl, SqL.of hl', atI_nat (List.getElem?_eq_getElem hj), ?_⟩
    exact k j _ H' (List.getElem?_eq_getElem hj) S' K'
end
end Own
set_option Elab.async false
set_option linter.all false
set_option maxRecDepth 100000
set_option maxHeartbeats 400000
namespace Own
open PySem PySem.Spec PyProof.Rows L2
/-! ### two lists, item by item -/
inductive F2 {α β : Type} (R : α → β → Prop) : List α → List β → Prop
  | nil : F2 R [] []
  | cons {a : α} {b : β} {as : List α} {bs : List β} : R a b → F2 R as bs → F2 R (a :: as) (b :: bs)
section
variable {α β : Type} {R R' : α → β → Prop}
theorem F2.mono (h : ∀ a b, R a b → R' a b) : ∀ {as : List α} {bs : List β}, F2 R as bs → F2 R' as bs
  | _, _, .nil => .nil
  | _, _, .cons h1 h2 => .cons (h _ _ h1) (h2.mono h)
theorem F2.snoc : ∀ {as : List α} {bs : List β} {a : α} {b : β}, F2 R as bs → R a b → F2 R (as ++ [a]) (bs ++ [b])
  | _, _, _, _, .nil, h => .cons h .nil
  | _, _, _, _, .cons h1 h2, h => .cons h1 (h2.snoc h)
theorem F2.app : ∀ {as as' : List α} {bs bs' : List β}, F2 R as bs → F2 R as' bs' → F2 R (as ++ as') (bs ++ bs')
  | _, _, _, _, .nil, h => h
  | _, _, _, _, .cons h1 h2, h => .cons h1 (h2.app h)
theorem F2.len : ∀ {as : List α} {bs : List β}, F2 R as bs → as.length = bs.length
  | _, _, .nil => rfl
  | _, _, .cons _ h => congrArg (· + 1) h.len
theorem F2.at_ : ∀ {as : List α} {bs : List β} {i : Nat} {a : α}, F2 R as bs → as[i]? = some a → ∃ b, bs[i]? = some b ∧ R a b
  | _, _, 0, _, .cons h _, e => by cases e; exact ⟨_, rfl, h⟩
  | _, _, i + 1, _, .cons _ h, e => h.at_ (i := i) e
theorem F2.at' : ∀ {as : List α} {bs : List β} {i : Nat} {b : β}, F2 R as bs → bs[i]? = some b → ∃ a, as[i]? = some a ∧ R a b
  | _, _, 0, _, .cons h _, e => by cases e; exact ⟨_, rfl, h⟩
  | _, _, i + 1, _, .cons _ h, e => h.at' (i := i) e
theorem F2.left : ∀ {as : List α} {bs : List β} {a : α}, F2 R as bs → a ∈ as → ∃ b ∈ bs, R a b
  | _, _, _, .cons h r, m => by
    rcases List.mem_cons.mp m with rfl | m
    · exact ⟨_, List.mem_cons_self, h⟩
    · obtain ⟨b, hb, q⟩ := r.left m
      exact ⟨b, List.mem_cons_of_mem _ hb, q⟩
theorem F2.right : ∀ {as : List α} {bs : List β} {b : β}, F2 R as bs → b ∈ bs → ∃ a ∈ as, R a b
  | _, _, _, .cons h r, m => by
    rcases List.mem_cons.mp m with rfl | m
    · exact ⟨_, List.mem_cons_self, h⟩
    · obtain ⟨a, ha, q⟩ := r.right m
      exact ⟨a, List.mem_cons_of_mem _ ha, q⟩
theorem F2.map_eq {f : β → α} : ∀ {as : List α} {bs : List β}, F2 (fun a b => a = f b) as bs → as = bs.map f
  | _, _, .nil => rfl
  | _, _, .cons h r => by rw [h, r.map_eq]; rfl
theorem F2.of_map {f : β → α} : ∀ {bs : List β}, (∀ b ∈ bs, R (f b) b) → F2 R (bs.map f) bs
  | [], _ => .nil
  | b :: bs, h => .cons (h b List.mem_cons_self) (F2.of_map fun c hc => h c (List.mem_cons_of_mem _ hc))
/-- the left one rearranged: so is the right one -/
theorem F2.perm {as as' : List α} (p : as'.Perm as) : ∀ {bs : List β}, F2 R as bs → ∃ bs', bs'.Perm bs ∧ F2 R as' bs' := by
  induction p with
  | nil => intro bs h; cases h; exact ⟨[], .nil, .nil⟩
  | cons x p ih =>
    intro bs h
    cases h with
    | cons h1 h2 =>
      obtain ⟨b, pb, q⟩ := ih h2
      exact ⟨_ :: b, pb.cons _, .cons h1 q⟩
  | swap x y l =>
    intro bs h
    cases h with
    | cons h1 h2 =>
      cases h2 with
      | cons h3 h4 => exact ⟨_, .swap _ _ _, .cons h3 (.cons h1 h4)⟩
  | trans p1 p2 ih1 ih2 =>
    intro bs h
    obtain ⟨b1, q1, f1⟩ := ih2 h
    obtain ⟨b2, q2, f2⟩ := ih1 f1
    exact ⟨b2, q2.trans q1, f2⟩
end
theorem take_snoc {α : Type} {l : List α} {i : Nat} {x : α} (h : l[i]? = some x) : l.take (i + 1) = l.take i ++ [x] := by
  rw [List.take_succ, h]
  rfl
theorem same_upd {H : Hp} {a : Addr} {o : HO} (h : H a = none) : Same H (L2.upd H a o) := fun b u e => by
  rw [upd_ne (ne_of_none e h)]
  exact e
/-! ### comprehensions that change nothing but what they make -/
section
variable {It0 : It} {G : Hp → Prop} {Y : Nat → Hp → V → Hp → Prop} {tt : TT} {te : TE} {m : Nat} {σ : L2.St} {H1 : Hp} {D : Addr} {Qd : Hp → Prop}
/-- what is made stands to c x as rel says -/
theorem lc_rel {β : Type} {xs : List V} {p : V → Bool} {c : V → β} {rel : Hp → V → β → Prop} (w : Walk It0 xs.length G (YAt xs)) (hD : H1 D = none) (hz : xs.length < sizeLine) (hG : ∀ H', Same H1 H' → G H') (rs : ∀ {H H' y b}, Same H H' → rel H y b → rel H' y b)
    (ru : ∀ {H y b l}, H D = some (.lst l) → rel H y b → ∀ l', rel (upd H D (.lst l')) y b)
    (h2 : ∀ v, wipe ((wipe σ [m]).set m (some v)) [m] = wipe σ [m])
    (ht : ∀ x H', x ∈ xs → Same H1 H' → ∀ R : Bool → Hp → Prop, (∀ H'', Same H' H'' → R (p x) H'') → tt ((wipe σ [m]).set m (some x)) H' R)
    (he : ∀ x H', x ∈ xs → p x = true → Same H1 H' → ∀ R : V → Hp → Prop, (∀ y H'', Same H' H'' → rel H'' y (c x) → R y H'') → te ((wipe σ [m]).set m (some x)) H' R)
    (hd : ∀ H' ys, Same H1 H' → H' D = some (.lst ys) → F2 (rel H') ys ((xs.filter p).map c) → Qd H') :
    ∃ W : Nat → Nat → Hp → Prop, (∃ m, W 0 m (upd H1 D (.lst []))) ∧ ∀ i k H, W i k H →
      (It0.stop i H ∧ Qd H) ∨ (It0.go i H ∧ ∃ Nx : Hp → Prop, (∀ H', Nx H' → ∃ k', k' < k ∧ W (i + 1) k' H') ∧ ∀ x H', It0.yld i H x H' → gName m x (wipe σ [m]) H' fun σ2 H2 => wipe σ2 [m] = wipe σ [m] ∧ tt σ2 H2 fun b H3 =>
        if b = true then te σ2 H3 fun y H4 => ∃ acc, H4 D = some (.lst acc) ∧ acc.length < sizeLine ∧ Nx (upd H4 D (.lst (acc ++ [y]))) else Nx H3) := by
  refine lc_it w (fun i H => Same H1 H ∧ ∃ ys, H D = some (.lst ys) ∧ F2 (rel H) ys (((xs.take i).filter p).map c)) ⟨same_upd hD, [], upd_same, .nil⟩ (fun i H _ q => hG H q.1) ?_ ?_
  · rintro i x H H' hi ⟨sH, ys, eD, f⟩ ⟨rfl, hx⟩
    have mx : x ∈ xs := List.mem_of_getElem? hx
    have et := take_snoc hx
    refine ⟨h2 x, ht x H' mx sH _ fun H2 s2 => ?_⟩
    cases e : p x with
    | false =>
      rw [if_neg Bool.false_ne_true]
      refine ⟨sH.trans s2, ys, s2 _ _ eD, ?_⟩
      rw [et, List.filter_append, List.filter_cons_of_neg (by rw [e]; exact Bool.false_ne_true), List.filter_nil, List.append_nil]
      exact f.mono fun _ _ q => rs s2 q
    | true =>
      rw [if_pos rfl]
      refine he x H2 mx e (sH.trans s2) _ fun y H3 s3 ry => ?_
      have e3 := s3 _ _ (s2 _ _ eD)
      refine ⟨ys, e3, ?_, ?_⟩
      · have l1 := f.len
        rw [List.length_map] at l1
        have l2 := List.length_filter_le p (xs.take i)
        rw [List.length_take] at l2
        omega
      · refine ⟨fun b o hb => ?_, ys ++ [y], upd_same, ?_⟩
        · have nb : b ≠ D := fun z => by rw [z, hD] at hb; cases hb
          rw [upd_ne nb]
          exact s3 _ _ (s2 _ _ (sH _ _ hb))
        · rw [et, List.filter_append, List.filter_cons_of_pos e, List.filter_nil, List.map_append]
          exact (f.mono fun _ _ q => ru e3 (rs s3 (rs s2 q)) _).snoc (ru e3 ry _)
  · rintro H ⟨sH, ys, eD, f⟩
    rw [List.take_length] at f
    exact hd H ys sH eD f
/-- a filter -/
theorem lc_filt {xs : List V} {p : V → Bool} (w : Walk It0 xs.length G (YAt xs)) (hD : H1 D = none) (hz : xs.length < sizeLine) (hG : ∀ H', Same H1 H' → G H') (hm : m < σ.length)
    (ht : ∀ x H', x ∈ xs → Same H1 H' → ∀ R : Bool → Hp → Prop, (∀ H'', Same H' H'' → R (p x) H'') → tt ((wipe σ [m]).set m (some x)) H' R)
    (hd : ∀ H', Same H1 H' → H' D = some (.lst (xs.filter p)) → Qd H') :
    ∃ W : Nat → Nat → Hp → Prop, (∃ m, W 0 m (upd H1 D (.lst []))) ∧ ∀ i k H, W i k H →
      (It0.stop i H ∧ Qd H) ∨ (It0.go i H ∧ ∃ Nx : Hp → Prop, (∀ H', Nx H' → ∃ k', k' < k ∧ W (i + 1) k' H') ∧ ∀ x H', It0.yld i H x H' → gName m x (wipe σ [m]) H' fun σ2 H2 => wipe σ2 [m] = wipe σ [m] ∧ tt σ2 H2 fun b H3 =>
        if b = true then tVar m σ2 H3 fun y H4 => ∃ acc, H4 D = some (.lst acc) ∧ acc.length < sizeLine ∧ Nx (upd H4 D (.lst (acc ++ [y]))) else Nx H3) := by
  refine lc_rel (p := p) (c := fun x => x) (rel := fun _ y x => y = x) w hD hz hG (fun _ q => q) (fun _ q _ => q) (fun v => ?_) ht (fun x H' mx _ _ R k => ⟨x, ?_, k x H' (Same.refl _) rfl⟩) fun H' ys sH eD f => hd H' sH ?_
  · show ((σ.set m none).set m (some v)).set m none = σ.set m none
    rw [List.set_set, List.set_set]
  · show ((σ.set m none).set m (some x))[m]? = _
    rw [List.getElem?_set_self (by rw [List.length_set]; exact hm)]
  · rw [eD, f.map_eq (f := fun x => x), List.map_id', List.map_id']
end
end Own
set_option Elab.async false
set_option linter.all false
set_option maxRecDepth 100000
set_option maxHeartbeats 400000
namespace Own
open PySem PySem.Spec PyProof.Rows L2
/-! ### lists of flat values against [] -/
def fd : V → PyData
  | .bl b => .bool b
  | .int i => .int i
  | .str x => .str x
  | _ => .none
def fok : V → Bool
  | .non => true
  | .bl _ => true
  | .int _ => true
  | .str x => x.cps.all (· < 0x110000)
  | _ => false
theorem dp_flat1 {K : PySem.W.Frag} {H : Hp} : ∀ {x : V}, fok x = true → Dp K H x (fd x) ∧ (fd x).canLay0 = true ∧ (fd x).depth = 0
  | .non, _ => ⟨.non, rfl, rfl⟩
  | .bl b, _ => ⟨.bl b, rfl, rfl⟩
  | .int i, _ => ⟨.int i, rfl, rfl⟩
  | .str x, h => ⟨.str x, h, rfl⟩
theorem dp_flat {K : PySem.W.Frag} {H : Hp} : ∀ {xs : List V}, xs.all fok = true → DpAll K H xs (xs.map fd) ∧ PyData.canLayAll0 (xs.map fd) = true ∧ PyData.depthAll (xs.map fd) = 0
  | [], _ => ⟨.nil, rfl, rfl⟩
  | x :: r, h => by
    rw [List.all_cons, Bool.and_eq_true] at h
    obtain ⟨a1, a2, a3⟩ := dp_flat1 (K := K) (H := H) h.1
    obtain ⟨b1, b2, b3⟩ := dp_flat (K := K) (H := H) h.2
    refine ⟨.cons a1 b1, ?_, ?_⟩
    · show ((fd x).canLay0 && PyData.canLayAll0 (r.map fd)) = true
      rw [a2, b2]
      rfl
    · show max (fd x).depth (PyData.depthAll (r.map fd)) = 0
      rw [a3, b3]
      rfl
theorem shaped_flat (K : PySem.W.Frag) (H : Hp) {xs : List V} (h : xs.all fok = true) : SeqAt.shaped (.list (xs.map fd)) = true := by
  obtain ⟨_, a, b⟩ := dp_flat (K := K) (H := H) h
  show (PyData.canLayAll0 (xs.map fd) && decide (PyData.depthAll (xs.map fd) + 1 ≤ 64)) = true
  rw [a, b]
  rfl
theorem eqv_nil2 (xs : List V) : PyData.eqv (.list (xs.map fd)) (.list []) = xs.isEmpty := by
  cases xs <;> rfl
theorem ne_nil {K : PySem.W.Frag} {H : Hp} {a b : Addr} {xs : List V} {Q : VK} (ha : SqL K H a xs) (hb : SqL K H b []) (hf : xs.all fok = true) (q : Q (.bl (!xs.isEmpty)) H) : rNeD K (.ref a) (.ref b) H Q :=
  ⟨_, _, .lst ha (dp_flat hf).1, .lst hb .nil, shaped_flat K H hf, rfl, by rw [eqv_nil2]; exact q⟩
theorem eq_nil {K : PySem.W.Frag} {H : Hp} {a b : Addr} {xs : List V} {Q : VK} (ha : SqL K H a xs) (hb : SqL K H b []) (hf : xs.all fok = true) (q : Q (.bl xs.isEmpty) H) : rEqD K (.ref a) (.ref b) H Q :=
  ⟨_, _, .lst ha (dp_flat hf).1, .lst hb .nil, shaped_flat K H hf, rfl, by rw [eqv_nil2]; exact q⟩
theorem cut_drop {xs : List V} {k : Nat} (h : k ≤ xs.length) : cutV xs (some (k : Int)) none = xs.drop k := by
  show (xs.drop (HT.sIx xs.length 0 (some (k : Int)))).take (HT.sIx xs.length xs.length none - HT.sIx xs.length 0 (some (k : Int))) = _
  rw [HT.sIx_none, HT.sIx_nat, Nat.min_eq_left h]
  exact List.take_of_length_le (by rw [List.length_drop]; exact Nat.le_refl _)
theorem decStr {x y : Str} : decide (V.str x = V.str y) = decide (x = y) := by
  rw [Bool.eq_iff_iff]
  simp
theorem at_nat {xs : List V} {k : Nat} {v : V} (h : xs[k]? = some v) : atI xs ((k : Nat) : Int) = some v := atI_nat h
theorem inV_str (w : Str) : ∀ xs : List Str, inV (.str w) (xs.map V.str) = decide (w ∈ xs)
  | [] => rfl
  | x :: r => by
    show ((x == w) || inV (.str w) (r.map V.str)) = _
    rw [inV_str w r]
    by_cases h : x = w
    · subst h
      simp
    · have h2 : ¬ w = x := fun z => h z.symm
      have h3 : (x == w) = false := by simpa using h
      rw [h3]
      simp [h2]
theorem fok_ints (is : List Int) : (is.map V.int).all fok = true := by
  rw [List.all_map, List.all_eq_true]
  intro _ _
  rfl

theorem seqT {K : PySem.W.Frag} {H H' : Hp} {a : Addr} {xs : List V} (e : Same H H') (h : SqT K H a xs) : SqT K H' a xs := by
  rcases h with (h | ⟨o, h⟩) | h
  · exact .inl (.inl (e _ _ h))
  · exact .inl (.inr ⟨o, e _ _ h⟩)
  · exact .inr h
/-- .. != [], .. == [] behind a list of flat values -/
theorem tail_ne {K : PySem.W.Frag} {σ : L2.St} {H : Hp} {D : Addr} {xs : List V} {Q : VK} (hD : H D = some (.lst xs)) (hf : xs.all fok = true) (k : ∀ H', Same H H' → Q (.bl (!xs.isEmpty)) H') : tLst tNil σ H fun y H2 => rNeD K (.ref D) y H2 Q := by
  refine ⟨(by show 0 ≤ sizeLine; decide), fun q nq => ?_⟩
  have s := same_upd (o := .lst []) nq
  exact ne_nil (SqL.of (s _ _ hD)) (SqL.of upd_same) hf (k _ s)
theorem tail_eq {K : PySem.W.Frag} {σ : L2.St} {H : Hp} {D : Addr} {xs : List V} {Q : VK} (hD : H D = some (.lst xs)) (hf : xs.all fok = true) (k : ∀ H', Same H H' → Q (.bl xs.isEmpty) H') : tLst tNil σ H fun y H2 => rEqD K (.ref D) y H2 Q := by
  refine ⟨(by show 0 ≤ sizeLine; decide), fun q nq => ?_⟩
  have s := same_upd (o := .lst []) nq
  exact eq_nil (SqL.of (s _ _ hD)) (SqL.of upd_same) hf (k _ s)
theorem all_filter {xs : List V} {p : V → Bool} (h : xs.all fok = true) : (xs.filter p).all fok = true := by
  rw [List.all_eq_true] at h ⊢
  exact fun x hx => h x (List.mem_filter.mp hx).1
theorem filter_any {xs : List V} {p : V → Bool} : (!(xs.filter p).isEmpty) = xs.any p := by
  induction xs with
  | nil => rfl
  | cons x r ih =>
    cases e : p x with
    | true => simp [e]
    | false =>
      rw [List.filter_cons_of_neg (by rw [e]; exact Bool.false_ne_true), ih]
      simp [e]
/-- [x for x in t if T] != [], t a tuple -/
theorem any_ne {K : PySem.W.Frag} {σ : L2.St} {H : Hp} {Q : VK} {a : Addr} {xs : List V} {p : V → Bool} {tt : TT} {m : Nat} (hs : SqT K H a xs) (hf : xs.all fok = true) (hz : xs.length < sizeLine) (hm : m < σ.length)
    (ht : ∀ x H', x ∈ xs → Same H H' → ∀ R : Bool → Hp → Prop, (∀ H'', Same H' H'' → R (p x) H'') → tt ((wipe σ [m]).set m (some x)) H' R) (k : ∀ H', Same H H' → Q (.bl (xs.any p)) H') :
    ∃ b, V.ref a = .ref b ∧ (∃ ys, SqT K H b ys) ∧ ∀ D, H D = none → ∃ W : Nat → Nat → Hp → Prop, (∃ m, W 0 m (L2.upd H D (.lst []))) ∧ ∀ i k H, W i k H →
      ((Itt K b).stop i H ∧ tLst tNil σ H fun y H2 => rNeD K (.ref D) y H2 Q) ∨ ((Itt K b).go i H ∧ ∃ Nx : Hp → Prop, (∀ H', Nx H' → ∃ k', k' < k ∧ W (i + 1) k' H') ∧ ∀ x H', (Itt K b).yld i H x H' → gName m x (wipe σ [m]) H' fun σ2 H2 => wipe σ2 [m] = wipe σ [m] ∧ tt σ2 H2 fun b H3 =>
        if b = true then tVar m σ2 H3 fun y H4 => ∃ acc, H4 D = some (.lst acc) ∧ acc.length < sizeLine ∧ Nx (L2.upd H4 D (.lst (acc ++ [y]))) else Nx H3) := by
  refine ⟨a, rfl, ⟨_, hs⟩, fun D nD => lc_filt (p := p) walk_tup nD hz (fun H' s => seqT s hs) hm ht fun H' s eD => ?_⟩
  exact tail_ne eD (all_filter hf) fun H'' s2 => by
    rw [filter_any]
    exact k H'' (s.trans s2)
/-! ### within a comprehension's block: K told -/
section
variable {X : Cx} {K : PySem.W.Frag}
theorem op_inK (h : X.K = K) : OpR X (compareOp .In) (rIn K false) := h ▸ op_in_seq
theorem op_notInK (h : X.K = K) : OpR X (compareOp .NotIn) (rIn K true) := h ▸ op_notIn_seq
theorem ix_tupK (h : X.K = K) : IxR X (rIxT K) := h ▸ ix_tup
theorem op_eqDK (h : X.K = K) (hu : X.A.units + 64 < cLine) : OpR X (compareOp .Eq) (rEqD K) := h ▸ op_eqD hu
theorem op_neDK (h : X.K = K) (hu : X.A.units + 64 < cLine) : OpR X (compareOp .NotEq) (rNeD K) := h ▸ op_neD hu
end
end Own
set_option Elab.async false
set_option linter.all false
set_option maxRecDepth 100000
set_option maxHeartbeats 400000
namespace Own
open PySem PySem.Spec PyProof.Rows L2
/-! ### data of any kind at a value, none of it at the places N -/
mutual
inductive Dq (N : List Addr) (H : Hp) : V → PyData → Prop
  | non : Dq N H .non .none
  | bl (b : Bool) : Dq N H (.bl b) (.bool b)
  | int (i : Int) : Dq N H (.int i) (.int i)
  | str (z : Str) : Dq N H (.str z) (.str z)
  | lst {a : Addr} {xs : List V} {ds : List PyData} : a ∉ N → H a = some (.lst xs) → DqAll N H xs ds → Dq N H (.ref a) (.list ds)
  | tup {a : Addr} {xs : List V} {ds : List PyData} : a ∉ N → H a = some (.tup xs) → DqAll N H xs ds → Dq N H (.ref a) (.tuple ds)
  | dict {a : Addr} {kvs : List (Key × V)} : a ∉ N → H a = some (.dK kvs) → Dq N H (.ref a) (.dict [])
inductive DqAll (N : List Addr) (H : Hp) : List V → List PyData → Prop
  | nil : DqAll N H [] []
  | cons {v : V} {vs : List V} {d : PyData} {ds : List PyData} : Dq N H v d → DqAll N H vs ds → DqAll N H (v :: vs) (d :: ds)
end
/-- all but what stands at xs and the tables is as it was -/
def KpE (xs : List Addr) (H H' : Hp) : Prop := ∀ b o, H b = some o → b ∉ xs → (∀ ps, o ≠ .tbl ps) → H' b = some o
mutual
theorem Dq.keep {N : List Addr} {H H' : Hp} (k : KpE N H H') : ∀ (d : PyData) (v : V), Dq N H v d → Dq N H' v d
  | .none, _, h => by
    cases h
    exact .non
  | .bool b, _, h => by
    cases h
    exact .bl b
  | .int i, _, h => by
    cases h
    exact .int i
  | .str z, _, h => by
    cases h
    exact .str z
  | .list ds, _, h => by
    cases h with
    | lst n e a => exact .lst n (k _ _ e n fun _ z => by cases z) (DqAll.keep k ds _ a)
  | .tuple ds, _, h => by
    cases h with
    | tup n e a => exact .tup n (k _ _ e n fun _ z => by cases z) (DqAll.keep k ds _ a)
  | .dict _, _, h => by
    cases h with
    | dict n e => exact .dict n (k _ _ e n fun _ z => by cases z)
theorem DqAll.keep {N : List Addr} {H H' : Hp} (k : KpE N H H') : ∀ (ds : List PyData) (vs : List V), DqAll N H vs ds → DqAll N H' vs ds
  | [], _, h => by
    cases h
    exact .nil
  | d :: ds, _, h => by
    cases h with
    | cons h1 h2 => exact .cons (Dq.keep k d _ h1) (DqAll.keep k ds _ h2)
end
mutual
theorem Dq.weak {N M : List Addr} {H : Hp} (s : ∀ b ∈ M, b ∈ N) : ∀ (d : PyData) (v : V), Dq N H v d → Dq M H v d
  | .none, _, h => by
    cases h
    exact .non
  | .bool b, _, h => by
    cases h
    exact .bl b
  | .int i, _, h => by
    cases h
    exact .int i
  | .str z, _, h => by
    cases h
    exact .str z
  | .list ds, _, h => by
    cases h with
    | lst n e a => exact .lst (fun z => n (s _ z)) e (DqAll.weak s ds _ a)
  | .tuple ds, _, h => by
    cases h with
    | tup n e a => exact .tup (fun z => n (s _ z)) e (DqAll.weak s ds _ a)
  | .dict _, _, h => by
    cases h with
    | dict n e => exact .dict (fun z => n (s _ z)) e
theorem DqAll.weak {N M : List Addr} {H : Hp} (s : ∀ b ∈ M, b ∈ N) : ∀ (ds : List PyData) (vs : List V), DqAll N H vs ds → DqAll M H vs ds
  | [], _, h => by
    cases h
    exact .nil
  | d :: ds, _, h => by
    cases h with
    | cons h1 h2 => exact .cons (Dq.weak s d _ h1) (DqAll.weak s ds _ h2)
end
theorem Dq.none_N {N : List Addr} {H : Hp} {d : PyData} {v : V} (h : Dq N H v d) : Dq [] H v d := Dq.weak (fun _ z => by cases z) d v h
theorem KpE.same {H H' : Hp} (e : Same H H') (N : List Addr) : KpE N H H' := fun b o h _ _ => e b o h
theorem KpE.of {xs : List Addr} {H H' : Hp} (k : ∀ b o, H b = some o → b ∉ xs → H' b = some o) : KpE xs H H' := fun b o e n _ => k b o e n
theorem KpE.trans {xs : List Addr} {H H1 H2 : Hp} (a : KpE xs H H1) (b : KpE xs H1 H2) : KpE xs H H2 := fun c o e n m => b c o (a c o e n m) n m
theorem KpE.refl (xs : List Addr) (H : Hp) : KpE xs H H := fun _ _ h _ _ => h
theorem Dq.same {N : List Addr} {H H' : Hp} {d : PyData} {v : V} (h : Dq N H v d) (e : Same H H') : Dq N H' v d := Dq.keep (KpE.same e N) d v h
theorem DqAll.same {N : List Addr} {H H' : Hp} {ds : List PyData} {vs : List V} (h : DqAll N H vs ds) (e : Same H H') : DqAll N H' vs ds := DqAll.keep (KpE.same e N) ds vs h
theorem DqAll.f2 {N : List Addr} {H : Hp} : ∀ {vs : List V} {ds : List PyData}, DqAll N H vs ds → F2 (Dq N H) vs ds
  | _, [], h => by
    cases h
    exact .nil
  | _, d :: ds, h => by
    cases h with
    | cons h1 h2 => exact .cons h1 h2.f2
theorem DqAll.of {N : List Addr} {H : Hp} : ∀ {vs : List V} {ds : List PyData}, F2 (Dq N H) vs ds → DqAll N H vs ds
  | _, _, .nil => .nil
  | _, _, .cons h1 h2 => .cons h1 (DqAll.of h2)
mutual
theorem Dq.dp {K : PySem.W.Frag} {N : List Addr} {H : Hp} : ∀ (d : PyData) (v : V), Dq N H v d → d.canLay0 = true → Dp K H v d
  | .none, _, h, _ => by
    cases h
    exact .non
  | .bool b, _, h, _ => by
    cases h
    exact .bl b
  | .int i, _, h, _ => by
    cases h
    exact .int i
  | .str z, _, h, _ => by
    cases h
    exact .str z
  | .list ds, _, h, c => by
    cases h with
    | lst n e a => exact .lst (SqL.of e) (DqAll.dp ds _ a c)
  | .tuple ds, _, h, c => by
    cases h with
    | tup n e a => exact .tup (SqT.of e) (DqAll.dp ds _ a c)
  | .dict _, _, _, c => by cases c
theorem DqAll.dp {K : PySem.W.Frag} {N : List Addr} {H : Hp} : ∀ (ds : List PyData) (vs : List V), DqAll N H vs ds → PyData.canLayAll0 ds = true → DpAll K H vs ds
  | [], _, h, _ => by
    cases h
    exact .nil
  | d :: ds, _, h, c => by
    have c' : (d.canLay0 && PyData.canLayAll0 ds) = true := c
    rw [Bool.and_eq_true] at c'
    cases h with
    | cons h1 h2 => exact .cons (Dq.dp d _ h1 c'.1) (DqAll.dp ds _ h2 c'.2)
end
/-! #### of what type -/
def tyOf : PyData → String
  | .none => "NoneType"
  | .bool _ => "bool"
  | .int _ => "int"
  | .str _ => "str"
  | .list _ => "list"
  | .tuple _ => "tuple"
  | .dict _ => "dict"
theorem Dq.ty {K : PySem.W.Frag} {N : List Addr} {H : Hp} {d : PyData} {v : V} (h : Dq N H v d) : TyX K H v (.type (tyOf d)) := by
  cases h with
  | non => exact .base .non
  | bl b => exact .base (.bl b)
  | int i => exact .base (.int i)
  | str z => exact .base (.str z)
  | lst _ e _ => exact .base (.lst e)
  | tup _ e _ => exact .base (.tup e)
  | dict _ e => exact .base (.dK e)
def isT : PyData → Bool
  | .tuple _ => true
  | _ => false
theorem k_NoneType_tuple : kitB "NoneType" "tuple" = some false := by decide +kernel
theorem k_bool_tuple : kitB "bool" "tuple" = some false := by decide +kernel
theorem k_int_tuple : kitB "int" "tuple" = some false := by decide +kernel
theorem k_str_tuple : kitB "str" "tuple" = some false := by decide +kernel
theorem k_list_tuple : kitB "list" "tuple" = some false := by decide +kernel
theorem k_tuple_tuple : kitB "tuple" "tuple" = some true := by decide +kernel
theorem k_dict_tuple : kitB "dict" "tuple" = some false := by decide +kernel
theorem kit_tuple : ∀ d : PyData, kitB (tyOf d) "tuple" = some (isT d)
  | .none => k_NoneType_tuple
  | .bool _ => k_bool_tuple
  | .int _ => k_int_tuple
  | .str _ => k_str_tuple
  | .list _ => k_list_tuple
  | .tuple _ => k_tuple_tuple
  | .dict _ => k_dict_tuple
def isL : PyData → Bool
  | .list _ => true
  | _ => false
theorem k_NoneType_list : kitB "NoneType" "list" = some false := by decide +kernel
theorem k_bool_list : kitB "bool" "list" = some false := by decide +kernel
theorem k_int_list : kitB "int" "list" = some false := by decide +kernel
theorem k_str_list : kitB "str" "list" = some false := by decide +kernel
theorem k_list_list : kitB "list" "list" = some true := by decide +kernel
theorem k_tuple_list : kitB "tuple" "list" = some false := by decide +kernel
theorem k_dict_list : kitB "dict" "list" = some false := by decide +kernel
theorem kit_list : ∀ d : PyData, kitB (tyOf d) "list" = some (isL d)
  | .none => k_NoneType_list
  | .bool _ => k_bool_list
  | .int _ => k_int_list
  | .str _ => k_str_list
  | .list _ => k_list_list
  | .tuple _ => k_tuple_list
  | .dict _ => k_dict_list
def isS : PyData → Bool
  | .str _ => true
  | _ => false
theorem k_NoneType_str : kitB "NoneType" "str" = some false := by decide +kernel
theorem k_bool_str : kitB "bool" "str" = some false := by decide +kernel
theorem k_int_str : kitB "int" "str" = some false := by decide +kernel
theorem k_str_str : kitB "str" "str" = some true := by decide +kernel
theorem k_list_str : kitB "list" "str" = some false := by decide +kernel
theorem k_tuple_str : kitB "tuple" "str" = some false := by decide +kernel
theorem k_dict_str : kitB "dict" "str" = some false := by decide +kernel
theorem kit_str : ∀ d : PyData, kitB (tyOf d) "str" = some (isS d)
  | .none => k_NoneType_str
  | .bool _ => k_bool_str
  | .int _ => k_int_str
  | .str _ => k_str_str
  | .list _ => k_list_str
  | .tuple _ => k_tuple_str
  | .dict _ => k_dict_str
def isI : PyData → Bool
  | .bool _ => true
  | .int _ => true
  | _ => false
theorem k_NoneType_int : kitB "NoneType" "int" = some false := by decide +kernel
theorem k_bool_int : kitB "bool" "int" = some true := by decide +kernel
theorem k_int_int : kitB "int" "int" = some true := by decide +kernel
theorem k_str_int : kitB "str" "int" = some false := by decide +kernel
theorem k_list_int : kitB "list" "int" = some false := by decide +kernel
theorem k_tuple_int : kitB "tuple" "int" = some false := by decide +kernel
theorem k_dict_int : kitB "dict" "int" = some false := by decide +kernel
theorem kit_int : ∀ d : PyData, kitB (tyOf d) "int" = some (isI d)
  | .none => k_NoneType_int
  | .bool _ => k_bool_int
  | .int _ => k_int_int
  | .str _ => k_str_int
  | .list _ => k_list_int
  | .tuple _ => k_tuple_int
  | .dict _ => k_dict_int
def isB : PyData → Bool
  | .bool _ => true
  | _ => false
theorem k_NoneType_bool : kitB "NoneType" "bool" = some false := by decide +kernel
theorem k_bool_bool : kitB "bool" "bool" = some true := by decide +kernel
theorem k_int_bool : kitB "int" "bool" = some false := by decide +kernel
theorem k_str_bool : kitB "str" "bool" = some false := by decide +kernel
theorem k_list_bool : kitB "list" "bool" = some false := by decide +kernel
theorem k_tuple_bool : kitB "tuple" "bool" = some false := by decide +kernel
theorem k_dict_bool : kitB "dict" "bool" = some false := by decide +kernel
theorem kit_bool : ∀ d : PyData, kitB (tyOf d) "bool" = some (isB d)
  | .none => k_NoneType_bool
  | .bool _ => k_bool_bool
  | .int _ => k_int_bool
  | .str _ => k_str_bool
  | .list _ => k_list_bool
  | .tuple _ => k_tuple_bool
  | .dict _ => k_dict_bool
def isD : PyData → Bool
  | .dict _ => true
  | _ => false
theorem k_NoneType_dict : kitB "NoneType" "dict" = some false := by decide +kernel
theorem k_bool_dict : kitB "bool" "dict" = some false := by decide +kernel
theorem k_int_dict : kitB "int" "dict" = some false := by decide +kernel
theorem k_str_dict : kitB "str" "dict" = some false := by decide +kernel
theorem k_list_dict : kitB "list" "dict" = some false := by decide +kernel
theorem k_tuple_dict : kitB "tuple" "dict" = some false := by decide +kernel
theorem k_dict_dict : kitB "dict" "dict" = some true := by decide +kernel
theorem kit_dict : ∀ d : PyData, kitB (tyOf d) "dict" = some (isD d)
  | .none => k_NoneType_dict
  | .bool _ => k_bool_dict
  | .int _ => k_int_dict
  | .str _ => k_str_dict
  | .list _ => k_list_dict
  | .tuple _ => k_tuple_dict
  | .dict _ => k_dict_dict
/-! #### small data -/
mutual
def sml : PyData → Bool
  | .str z => decide (z.length ≤ 1000)
  | .list ds => decide (ds.length ≤ 1000) && smls ds
  | .tuple ds => decide (ds.length ≤ 1000) && smls ds
  | _ => true
def smls : List PyData → Bool
  | [] => true
  | d :: ds => sml d && smls ds
end
def gdb (d : PyData) : Bool := d.canLay0 && (decide (d.depth ≤ 50) && sml d)
theorem smls_mem : ∀ {ds : List PyData}, smls ds = true → ∀ d ∈ ds, sml d = true
  | [], _, d, hd => by cases hd
  | e :: ds, h, d, hd => by
    have h' : (sml e && smls ds) = true := h
    rw [Bool.and_eq_true] at h'
    rcases List.mem_cons.mp hd with rfl | hd
    · exact h'.1
    · exact smls_mem h'.2 d hd
theorem lay_mem : ∀ {ds : List PyData}, PyData.canLayAll0 ds = true → ∀ d ∈ ds, d.canLay0 = true
  | [], _, d, hd => by cases hd
  | e :: ds, h, d, hd => by
    have h' : (e.canLay0 && PyData.canLayAll0 ds) = true := h
    rw [Bool.and_eq_true] at h'
    rcases List.mem_cons.mp hd with rfl | hd
    · exact h'.1
    · exact lay_mem h'.2 d hd
theorem lay_all : ∀ {ds : List PyData}, (∀ d ∈ ds, d.canLay0 = true) → PyData.canLayAll0 ds = true
  | [], _ => rfl
  | e :: ds, h => by
    show (e.canLay0 && PyData.canLayAll0 ds) = true
    rw [h e List.mem_cons_self, lay_all fun d hd => h d (List.mem_cons_of_mem _ hd)]
    rfl
theorem depth_mem : ∀ {ds : List PyData} {n : Nat}, PyData.depthAll ds ≤ n → ∀ d ∈ ds, d.depth ≤ n
  | [], _, _, d, hd => by cases hd
  | e :: ds, n, h, d, hd => by
    have h' : max e.depth (PyData.depthAll ds) ≤ n := h
    rcases List.mem_cons.mp hd with rfl | hd
    · omega
    · exact depth_mem (by omega) d hd
theorem depth_all : ∀ {ds : List PyData} {n : Nat}, (∀ d ∈ ds, d.depth ≤ n) → PyData.depthAll ds ≤ n
  | [], n, _ => Nat.zero_le _
  | e :: ds, n, h => by
    show max e.depth (PyData.depthAll ds) ≤ n
    have := h e List.mem_cons_self
    have := depth_all fun d hd => h d (List.mem_cons_of_mem _ hd)
    omega
theorem gdb_list {ds : List PyData} (h : gdb (.list ds) = true) : ds.length ≤ 1000 ∧ ∀ d ∈ ds, gdb d = true := by
  have h' : (PyData.canLayAll0 ds && (decide (PyData.depthAll ds + 1 ≤ 50) && (decide (ds.length ≤ 1000) && smls ds))) = true := h
  rw [Bool.and_eq_true, Bool.and_eq_true, Bool.and_eq_true, decide_eq_true_iff, decide_eq_true_iff] at h'
  obtain ⟨a, b, c, e⟩ := h'
  refine ⟨c, fun d hd => ?_⟩
  unfold gdb
  have := depth_mem (n := 49) (by omega) d hd
  rw [lay_mem a d hd, decide_eq_true (by omega : d.depth ≤ 50), smls_mem e d hd]
  rfl
theorem gdb_tuple {ds : List PyData} (h : gdb (.tuple ds) = true) : ds.length ≤ 1000 ∧ ∀ d ∈ ds, gdb d = true := gdb_list (ds := ds) h
theorem gdb_str {z : Str} (h : gdb (.str z) = true) : z.length ≤ 1000 ∧ fok (.str z) = true := by
  have h' : (z.cps.all (· < 0x110000) && (decide ((0 : Nat) ≤ 50) && decide (z.length ≤ 1000))) = true := h
  rw [Bool.and_eq_true, Bool.and_eq_true, decide_eq_true_iff, decide_eq_true_iff] at h'
  exact ⟨h'.2.2, h'.1⟩
theorem gdb_lay {d : PyData} (h : gdb d = true) : d.canLay0 = true ∧ d.depth ≤ 50 := by
  unfold gdb at h
  rw [Bool.and_eq_true, Bool.and_eq_true, decide_eq_true_iff] at h
  exact ⟨h.1, h.2.1⟩
/-- a value: a dict, or small data -/
def vdb (d : PyData) : Bool := isD d || gdb d
/-- a value that may hold such -/
def wdb : PyData → Bool
  | .list ds => decide (ds.length ≤ 1000) && ds.all vdb
  | .tuple ds => decide (ds.length ≤ 1000) && ds.all vdb
  | d => vdb d
/-! #### [x for x in .. if T] != [] over such -/
section
variable {It0 : It} {G : Hp → Prop} {tt : TT} {m : Nat} {σ : L2.St} {H1 : Hp} {D : Addr} {Qd : Hp → Prop}
theorem lc_any {N : List Addr} {xs : List V} {ds : List PyData} {p : PyData → Bool} (w : Walk It0 xs.length G (YAt xs)) (hf : F2 (Dq N H1) xs ds) (hD : H1 D = none) (hz : xs.length < sizeLine) (hG : ∀ H', Same H1 H' → G H') (hm : m < σ.length)
    (ht : ∀ (x : V) (d : PyData) H', d ∈ ds → Dq N H' x d → Same H1 H' → ∀ R : Bool → Hp → Prop, (∀ H'', Same H' H'' → R (p d) H'') → tt ((wipe σ [m]).set m (some x)) H' R)
    (hd : ∀ H' ys es, Same H1 H' → H' D = some (.lst ys) → F2 (Dq N H') ys es → (∀ e ∈ es, e ∈ ds) → ys.isEmpty = !ds.any p → Qd H') :
    ∃ W : Nat → Nat → Hp → Prop, (∃ m, W 0 m (upd H1 D (.lst []))) ∧ ∀ i k H, W i k H →
      (It0.stop i H ∧ Qd H) ∨ (It0.go i H ∧ ∃ Nx : Hp → Prop, (∀ H', Nx H' → ∃ k', k' < k ∧ W (i + 1) k' H') ∧ ∀ x H', It0.yld i H x H' → gName m x (wipe σ [m]) H' fun σ2 H2 => wipe σ2 [m] = wipe σ [m] ∧ tt σ2 H2 fun b H3 =>
        if b = true then tVar m σ2 H3 fun y H4 => ∃ acc, H4 D = some (.lst acc) ∧ acc.length < sizeLine ∧ Nx (upd H4 D (.lst (acc ++ [y]))) else Nx H3) := by
  have len := hf.len
  refine lc_it w (fun i H => Same H1 H ∧ ∃ ys es, H D = some (.lst ys) ∧ F2 (Dq N H1) ys es ∧ (∀ e ∈ es, e ∈ ds) ∧ ys.length ≤ i ∧ ys.isEmpty = !(ds.take i).any p) ⟨same_upd hD, [], [], upd_same, .nil, (fun _ h => by cases h), Nat.le_refl _, rfl⟩ (fun i H _ q => hG H q.1) ?_ ?_
  · rintro i x H H' hi ⟨sH, ys, es, eD, f, sub, ly, em⟩ ⟨rfl, hx⟩
    obtain ⟨d, hd', hxd⟩ := hf.at_ hx
    have md : d ∈ ds := List.mem_of_getElem? hd'
    have et := take_snoc hd'
    refine ⟨?_, ht x d H' md (hxd.same sH) sH _ fun H2 s2 => ?_⟩
    · show ((σ.set m none).set m (some x)).set m none = σ.set m none
      rw [List.set_set, List.set_set]
    cases e : p d with
    | false =>
      rw [if_neg Bool.false_ne_true]
      refine ⟨sH.trans s2, ys, es, s2 _ _ eD, f, sub, by omega, ?_⟩
      rw [et, List.any_append, em]
      simp [e]
    | true =>
      rw [if_pos rfl]
      refine ⟨x, ?_, ys, s2 _ _ eD, by omega, ?_⟩
      · show ((σ.set m none).set m (some x))[m]? = _
        rw [List.getElem?_set_self (by rw [List.length_set]; exact hm)]
      have sN : Same H1 (upd H2 D (.lst (ys ++ [x]))) := fun b o hb => by
        have nb : b ≠ D := fun z => by rw [z, hD] at hb; cases hb
        rw [upd_ne nb]
        exact s2 _ _ (sH _ _ hb)
      refine ⟨sN, ys ++ [x], es ++ [d], upd_same, ?_, fun q hq => ?_, by rw [List.length_append]; show ys.length + 1 ≤ i + 1; omega, ?_⟩
      · exact f.snoc hxd
      · rcases List.mem_append.mp hq with hq | hq
        · exact sub q hq
        · rw [List.mem_singleton.mp hq]
          exact md
      · rw [et, List.any_append]
        simp [e]
  · rintro H ⟨sH, ys, es, eD, f, sub, ly, em⟩
    rw [len, List.take_length] at em
    exact hd H ys es sH eD (f.mono fun _ _ q => q.same sH) sub em
end
end Own
set_option Elab.async false
set_option linter.all false
set_option maxRecDepth 100000
set_option maxHeartbeats 400000
namespace Own
open PySem PySem.Spec PyProof.Rows L2
/-! ### deeds and drawings, in plain words -/
def LET : List Nat := ("abcdefghijklmnopqrstuvwxyz" : Str).cps.toList
def LEDI : List Nat := ("abcdefghijklmnopqrstuvwxyz" ++ "0123456789" : Str).cps.toList
def NameOk (z : Str) : Prop := z.length ≤ 8 ∧ z ≠ "" ∧ (∀ c ∈ z.cps.toList.head?, c ∈ LET) ∧ ∀ c ∈ z.cps.toList, c ∈ LEDI
instance (z : Str) : Decidable (NameOk z) := by
  unfold NameOk
  exact inferInstance
def FORM : List (Str × Nat × Nat) := ("meet", 4, 0) :: ("upright", 5, 0) :: ("gauge", 2, 0) :: ("dividers", 4, 0) :: ("halver", 5, 0) :: ("strip", 5, 0) :: ("disc", 2, 1) :: ("rims", 4, 1) :: ("corner", 4, 1) :: ("compass", 4, 1) :: ("circles", 4, 1) :: []
def OTHL : List (Str × Str) := ("meet", "") :: ("upright", "square") :: ("circles", "compass") :: []
def toolS (w : Str) : Str := (OTHL.lookup w).getD w
structure Deed where
  word : Str
  names : List Str
  way : List Int
def Deed.vs (d : Deed) : List V := .str d.word :: (d.names.map V.str ++ d.way.map V.int)
/-- a right deed -/
def DeedOk (d : Deed) : Prop := ∃ m k, (d.word, m, k) ∈ FORM ∧ d.names.length = m ∧ (∀ z ∈ d.names, NameOk z) ∧ d.way.length = k ∧ ∀ z ∈ d.way, 1 ≤ z ∧ z ≤ 2
/-- names once each -/
def once (ns : List Str) : List Str := ns.foldl (fun l x => if x ∈ l then l else l ++ [x]) []
theorem once_from : ∀ (ns l : List Str) (x : Str), x ∈ ns.foldl (fun l x => if x ∈ l then l else l ++ [x]) l ↔ x ∈ l ∨ x ∈ ns
  | [], l, x => by simp
  | y :: ns, l, x => by
    rw [List.foldl_cons, once_from ns]
    by_cases h : y ∈ l
    · rw [if_pos h, List.mem_cons]
      constructor
      · rintro (a | a)
        · exact .inl a
        · exact .inr (.inr a)
      · rintro (a | rfl | a)
        · exact .inl a
        · exact .inl h
        · exact .inr a
    · rw [if_neg h, List.mem_append, List.mem_singleton, List.mem_cons]
      constructor
      · rintro ((a | a) | a)
        · exact .inl a
        · exact .inr (.inl a)
        · exact .inr (.inr a)
      · rintro (a | a | a)
        · exact .inl (.inl a)
        · exact .inl (.inr a)
        · exact .inr a
theorem once_mem (ns : List Str) (x : Str) : x ∈ once ns ↔ x ∈ ns := by
  unfold once
  rw [once_from]
  simp
theorem once_len : ∀ (ns l : List Str), (ns.foldl (fun l x => if x ∈ l then l else l ++ [x]) l).length ≤ l.length + ns.length
  | [], l => by simp
  | y :: ns, l => by
    rw [List.foldl_cons]
    have := once_len ns (if y ∈ l then l else l ++ [y])
    rw [List.length_cons]
    split at this
    · rename_i h
      rw [if_pos h]
      omega
    · rename_i h
      rw [if_neg h]
      rw [List.length_append, List.length_singleton] at this
      omega
/-- a drawing, judged from the known names on (none: no step at all) -/
def drawB : List Str → List (Option (Str × Deed)) → Bool
  | _, [] => true
  | _, none :: _ => false
  | kn, some (n, d) :: r => decide (n ∉ kn) && (d.names.all (fun z => decide (z ∈ kn)) && drawB (kn ++ [n]) r)
theorem form_facts : ∀ t ∈ FORM, t.1 ≠ "" ∧ fok (.str t.1) = true ∧ t.2.1 ≤ 5 ∧ t.2.2 ≤ 1 := by decide +kernel
end Own
set_option Elab.async false
set_option linter.all false
set_option maxRecDepth 100000
set_option maxHeartbeats 400000
namespace Own
open PySem PySem.Spec PyProof.Rows L2
/-! ### any value, judged -/
def nameB : PyData → Bool
  | .str z => decide (NameOk z)
  | _ => false
def wayB : PyData → Bool
  | .int i => decide (1 ≤ i) && decide (i ≤ 2)
  | _ => false
def formB2 (q : Nat × Nat) (r : List PyData) : Bool := decide (r.length = q.1 + q.2) && ((r.take q.1).all nameB && (r.drop q.1).all wayB)
def deedB : PyData → Bool
  | .tuple (.str w :: r) => match FORM.lookup w with
    | some q => formB2 q r
    | none => false
  | _ => false
def strD : PyData → Str
  | .str z => z
  | _ => ""
def dnames : PyData → List Str
  | .tuple (.str w :: r) => match FORM.lookup w with
    | some q => (r.take q.1).map strD
    | none => []
  | _ => []
def Deed.pys (d : Deed) : List PyData := .str d.word :: (d.names.map PyData.str ++ d.way.map PyData.int)
def Deed.py (d : Deed) : PyData := .tuple d.pys
theorem form_look : ∀ t ∈ FORM, FORM.lookup t.1 = some t.2 := by decide +kernel
theorem look_mem {α β : Type} [BEq α] [LawfulBEq α] {w : α} {q : β} : ∀ {l : List (α × β)}, l.lookup w = some q → (w, q) ∈ l
  | [], h => by cases h
  | (a, b) :: l, h => by
    rw [List.lookup_cons] at h
    cases e : w == a with
    | true =>
      rw [e] at h
      have := eq_of_beq e
      subst this
      cases h
      exact List.mem_cons_self
    | false =>
      rw [e] at h
      exact List.mem_cons_of_mem _ (look_mem h)
theorem all_name (ns : List Str) (h : ∀ z ∈ ns, NameOk z) : (ns.map PyData.str).all nameB = true := by
  rw [List.all_map, List.all_eq_true]
  exact fun z hz => decide_eq_true (h z hz)
theorem all_way (is : List Int) (h : ∀ z ∈ is, 1 ≤ z ∧ z ≤ 2) : (is.map PyData.int).all wayB = true := by
  rw [List.all_map, List.all_eq_true]
  intro z hz
  show (decide (1 ≤ z) && decide (z ≤ 2)) = true
  rw [decide_eq_true (h z hz).1, decide_eq_true (h z hz).2]
  rfl
theorem deedB_of {d : Deed} (h : DeedOk d) : deedB d.py = true := by
  obtain ⟨m, k, hm, nm, okN, nk, okW⟩ := h
  show (match FORM.lookup d.word with
    | some q => formB2 q (d.names.map PyData.str ++ d.way.map PyData.int)
    | none => false) = true
  rw [form_look _ hm]
  show formB2 (m, k) _ = true
  unfold formB2
  have l1 : (d.names.map PyData.str).length = m := by rw [List.length_map, nm]
  rw [List.take_left' l1, List.drop_left' l1, all_name _ okN, all_way _ okW, decide_eq_true (by simp [nm, nk])]
  rfl
theorem strs_of : ∀ {l : List PyData}, l.all nameB = true → ∃ ns : List Str, l = ns.map PyData.str ∧ ∀ z ∈ ns, NameOk z
  | [], _ => ⟨[], rfl, fun _ h => by cases h⟩
  | d :: l, h => by
    rw [List.all_cons, Bool.and_eq_true] at h
    obtain ⟨ns, rfl, ok⟩ := strs_of h.2
    cases d with
    | str z =>
      refine ⟨z :: ns, rfl, fun y hy => ?_⟩
      rcases List.mem_cons.mp hy with rfl | hy
      · exact of_decide_eq_true h.1
      · exact ok y hy
    | _ => cases h.1
theorem ints_of : ∀ {l : List PyData}, l.all wayB = true → ∃ is : List Int, l = is.map PyData.int ∧ ∀ z ∈ is, 1 ≤ z ∧ z ≤ 2
  | [], _ => ⟨[], rfl, fun _ h => by cases h⟩
  | d :: l, h => by
    rw [List.all_cons, Bool.and_eq_true] at h
    obtain ⟨ns, rfl, ok⟩ := ints_of h.2
    cases d with
    | int z =>
      refine ⟨z :: ns, rfl, fun y hy => ?_⟩
      rcases List.mem_cons.mp hy with rfl | hy
      · have q : (decide (1 ≤ y) && decide (y ≤ 2)) = true := h.1
        rw [Bool.and_eq_true, decide_eq_true_iff, decide_eq_true_iff] at q
        exact q
      · exact ok y hy
    | _ => cases h.1
theorem deedB_ok {e : PyData} (h : deedB e = true) : ∃ d : Deed, e = d.py ∧ DeedOk d := by
  unfold deedB at h
  split at h
  · rename_i w r
    split at h
    · rename_i q hq
      have hm := look_mem hq
      unfold formB2 at h
      rw [Bool.and_eq_true, Bool.and_eq_true, decide_eq_true_iff] at h
      obtain ⟨h1, h2, h3⟩ := h
      obtain ⟨ns, e1, ok1⟩ := strs_of h2
      obtain ⟨is, e2, ok2⟩ := ints_of h3
      have e3 : r = ns.map PyData.str ++ is.map PyData.int := by rw [← e1, ← e2, List.take_append_drop]
      have l1 : ns.length = q.1 := by
        have := congrArg List.length e1
        rw [List.length_take, List.length_map] at this
        omega
      have l2 : is.length = q.2 := by
        have := congrArg List.length e2
        rw [List.length_drop, List.length_map] at this
        omega
      exact ⟨⟨w, ns, is⟩, by rw [e3]; rfl, q.1, q.2, hm, l1, ok1, l2, ok2⟩
    · cases h
  · cases h
theorem dnames_py {d : Deed} (h : DeedOk d) : dnames d.py = d.names := by
  obtain ⟨m, k, hm, nm, okN, nk, okW⟩ := h
  show (match FORM.lookup d.word with
    | some q => ((d.names.map PyData.str ++ d.way.map PyData.int).take q.1).map strD
    | none => []) = d.names
  rw [form_look _ hm]
  show ((d.names.map PyData.str ++ d.way.map PyData.int).take m).map strD = d.names
  rw [List.take_left' (by rw [List.length_map, nm]), List.map_map]
  exact List.map_id _
def StepOk (kn : List Str) (n : Str) (e : PyData) : Prop := NameOk n ∧ n ∉ kn ∧ deedB e = true ∧ ∀ z ∈ dnames e, z ∈ kn
instance (kn : List Str) (n : Str) (e : PyData) : Decidable (StepOk kn n e) := by
  unfold StepOk
  exact inferInstance
def stepB (kn : List Str) : PyData → Option Str
  | .tuple [.str n, e] => if StepOk kn n e then some n else none
  | _ => none
def goesB : List Str → List PyData → Bool
  | _, [] => true
  | kn, d :: r => match stepB kn d with
    | some n => goesB (kn ++ [n]) r
    | none => false
def itemsOf : PyData → Option (List PyData)
  | .list ds => some ds
  | .tuple ds => some ds
  | _ => none
def drawV (kn : List Str) (d : PyData) : Bool := match itemsOf d with
  | some ds => goesB kn ds
  | none => false
theorem goes_bad {kn : List Str} {d : PyData} {r : List PyData} (h : stepB kn d = none) : goesB kn (d :: r) = false := by
  show (match stepB kn d with
    | some n => goesB (kn ++ [n]) r
    | none => false) = false
  rw [h]
theorem goes_good {kn : List Str} {n : Str} {e : PyData} {r : List PyData} (h : StepOk kn n e) : goesB kn (.tuple [.str n, e] :: r) = goesB (kn ++ [n]) r := by
  show (match (if StepOk kn n e then some n else none : Option Str) with
    | some n => goesB (kn ++ [n]) r
    | none => false) = _
  rw [if_pos h]
theorem step_no {kn : List Str} {n : Str} {e : PyData} (h : ¬ StepOk kn n e) : stepB kn (.tuple [.str n, e]) = none := if_neg h
/-- words that may stand ahead of a tuple -/
def Ready (NOW : List Str) (d : PyData) : Prop := ∀ w r, d = .tuple (.str w :: r) → (∃ q, FORM.lookup w = some q) ∨ w ∈ NOW
theorem Ready.other {NOW : List Str} {d : PyData} (h : isT d = false) : Ready NOW d := fun w r e => by
  rw [e] at h
  cases h
theorem Ready.py {NOW : List Str} {d : Deed} (h : DeedOk d) : Ready NOW d.py := fun w r e => by
  obtain ⟨m, k, hm, _⟩ := h
  have e2 : d.word = w := by
    injection e with e
    injection e with e _
    injection e
  rw [← e2]
  exact .inl ⟨_, form_look _ hm⟩
/-! #### what stands there -/
theorem dq_strs {N : List Addr} {H : Hp} : ∀ {ns : List Str} {xs : List V} {ds : List PyData}, DqAll N H xs (ns.map PyData.str ++ ds) → ∃ ys, xs = ns.map V.str ++ ys ∧ DqAll N H ys ds
  | [], xs, ds, h => ⟨xs, rfl, h⟩
  | n :: ns, xs, ds, h => by
    cases h with
    | cons h1 h2 =>
      obtain ⟨ys, rfl, q⟩ := dq_strs h2
      cases h1
      exact ⟨ys, rfl, q⟩
theorem dq_ints {N : List Addr} {H : Hp} : ∀ {is : List Int} {xs : List V}, DqAll N H xs (is.map PyData.int) → xs = is.map V.int
  | [], xs, h => by
    cases h
    rfl
  | n :: ns, xs, h => by
    cases h with
    | cons h1 h2 =>
      rw [dq_ints h2]
      cases h1
      rfl
theorem Dq.deed {N : List Addr} {H : Hp} {v : V} {d : Deed} (h : Dq N H v d.py) : ∃ a, v = .ref a ∧ a ∉ N ∧ H a = some (.tup d.vs) := by
  cases h with
  | tup n e a =>
    cases a with
    | cons h1 h2 =>
      obtain ⟨ys, rfl, q⟩ := dq_strs h2
      have := dq_ints q
      subst this
      cases h1
      exact ⟨_, rfl, n, e⟩
theorem dq_str_of {N : List Addr} {H : Hp} : ∀ (ns : List Str) {xs : List V} {ds : List PyData}, DqAll N H xs ds → DqAll N H (ns.map V.str ++ xs) (ns.map PyData.str ++ ds)
  | [], _, _, h => h
  | n :: ns, _, _, h => .cons (.str n) (dq_str_of ns h)
theorem dq_int_of {N : List Addr} {H : Hp} : ∀ (is : List Int), DqAll N H (is.map V.int) (is.map PyData.int)
  | [] => .nil
  | n :: ns => .cons (.int n) (dq_int_of ns)
theorem Dq.of_deed {N : List Addr} {H : Hp} {a : Addr} {d : Deed} (n : a ∉ N) (h : H a = some (.tup d.vs)) : Dq N H (.ref a) d.py :=
  .tup n h (.cons (.str _) (dq_str_of _ (dq_int_of _)))
/-! #### lists of such -/
theorem F2.drop {α β : Type} {R : α → β → Prop} : ∀ {as : List α} {bs : List β} (n : Nat), F2 R as bs → F2 R (as.drop n) (bs.drop n)
  | _, _, 0, h => h
  | _, _, _ + 1, .nil => .nil
  | _, _, n + 1, .cons _ h => F2.drop n h
theorem F2.take {α β : Type} {R : α → β → Prop} : ∀ {as : List α} {bs : List β} (n : Nat), F2 R as bs → F2 R (as.take n) (bs.take n)
  | _, _, 0, _ => .nil
  | _, _, _ + 1, .nil => .nil
  | _, _, n + 1, .cons h1 h => .cons h1 (F2.take n h)
theorem dp_some {K : PySem.W.Frag} {N : List Addr} {H : Hp} {ys : List V} {es : List PyData} (h : F2 (Dq N H) ys es) (g : ∀ e ∈ es, gdb e = true) : DpAll K H ys es ∧ PyData.canLayAll0 es = true ∧ PyData.depthAll es ≤ 50 := by
  have c := lay_all fun e he => (gdb_lay (g e he)).1
  exact ⟨DqAll.dp es ys (DqAll.of h) c, c, depth_all fun e he => (gdb_lay (g e he)).2⟩
theorem eqv_nilL (es : List PyData) : PyData.eqv (.list es) (.list []) = es.isEmpty := by
  cases es <;> rfl
theorem tail_neD {K : PySem.W.Frag} {N : List Addr} {σ : L2.St} {H : Hp} {D : Addr} {ys : List V} {es : List PyData} {Q : VK} (hD : H D = some (.lst ys)) (hf : F2 (Dq N H) ys es) (g : ∀ e ∈ es, gdb e = true) (k : ∀ H', Same H H' → Q (.bl (!ys.isEmpty)) H') : tLst tNil σ H fun y H2 => rNeD K (.ref D) y H2 Q := by
  refine ⟨(by show 0 ≤ sizeLine; decide), fun q nq => ?_⟩
  have s := same_upd (o := .lst []) nq
  obtain ⟨a, b, c⟩ := dp_some (K := K) (hf.mono fun _ _ z => z.same s) g
  refine ⟨.list es, .list [], .lst (SqL.of (s _ _ hD)) a, .lst (SqL.of upd_same) .nil, ?_, rfl, ?_⟩
  · show (PyData.canLayAll0 es && decide (PyData.depthAll es + 1 ≤ 64)) = true
    rw [b, decide_eq_true (by omega)]
    rfl
  · rw [eqv_nilL]
    have e : es.isEmpty = ys.isEmpty := by
      have := hf.len
      cases ys <;> cases es <;> first | rfl | cases this
    rw [e]
    exact k _ s
end Own
set_option Elab.async false
set_option linter.all false
set_option maxRecDepth 100000
set_option maxHeartbeats 400000
namespace L2
open PySem PySem.Spec PyProof.Rows
/-! ### d.get(k, x) of a written dict -/
section
variable {X : Cx} {d : Addr} {es : Array DictEntry} {n : Nat}
theorem mt_get_kd (D : KDict X.K X.w d es n) : MtR X "dict.get" (fun x xs H Q => ∃ (z : Str) (dv : V), x = .ref d ∧ xs = [.str z, dv] ∧ ((∃ u0 v0, PySem.W.nsIn X.K d z = some (some u0) ∧ RelV v0 u0 ∧ Q v0 H) ∨ (PySem.W.nsIn X.K d z = some none ∧ Q dv H))) := by
  intro pins s σ H x xs v us Q I rx rs h
  obtain ⟨z, dv, rfl, rfl, h⟩ := h
  cases rx
  obtain ⟨u1, u2, rfl, r1, r2⟩ := vals2 rs
  obtain ⟨t, rfl⟩ := r1
  have hm := PySem.W.mapOf_K (prog := X.prog) (w := X.w) I.kIn D.at_ D.lit
  refine call_meetsIn PySem.F.slot_dict_get hm.typeIs PySem.F.entry_dict_get (PySem.F.args_dict_get_3 _ _ _) (meets_dict_get_default (PySem.strKind X.prog X.w) d (PySem.strKind_is X.prog X.w z t) D.low u2) ⟨_, hm, ?_⟩
  rcases h with ⟨u0, v0, e, r, q⟩ | ⟨e, q⟩
  · rw [PySem.W.find_K D.at_ e]
    exact ⟨v0, H, I.tok _, r, q⟩
  · rw [PySem.W.find_K D.at_ e]
    exact ⟨dv, H, I.tok _, r2, q⟩
/-- o.get(e, f), o a written dict -/
def tGetK (K : PySem.W.Frag) (d : Addr) (td : TE) (t : TA) : TE := fun σ H Q => td σ H fun x H1 => x = .ref d ∧ t σ H1 fun xs H2 => ∃ (z : Str) (dv : V), xs = [.str z, dv] ∧ ((∃ u0 v0, PySem.W.nsIn K d z = some (some u0) ∧ RelV v0 u0 ∧ Q v0 H2) ∨ (PySem.W.nsIn K d z = some none ∧ Q dv H2))
theorem pe_getK {o e : Expr} {ex : List Expr} {apos cpos : Pos} {td : TE} {t : TA} (D : KDict X.K X.w d es n) (ho : PE X o td) (ha : PA X (e :: ex) t) (hbase : attributeBase o "get" X.env (eval o X.env) = eval o X.env := by rfl)
    (hfew : ((backTo cpos (starEach (e :: ex) X.env)).all (fun x => !x.1) && (backToKw cpos (keywordEach [] X.env)).all (fun x => x.1.isSome)
      && decide ((e :: ex).length + ([] : List Keyword).length + (if ([] : List Keyword).isEmpty then 0 else 1) < 30)) = true := by rfl)
    (hline : (apos.endLine == cpos.line) = true := by rfl) (hs : starEach (e :: ex) X.env = (false, eval e X.env) :: starEach ex X.env := by rfl) (hplain : (backTo cpos (starEach ex X.env)).any (·.1) = false := by rfl) :
    PE X (.Call (.Attribute o "get" apos) (e :: ex) [] cpos) (tGetK X.K d td t) := by
  refine ⟨fun pins s σ H Q I h => ?_⟩
  refine wpAny_Call_method hbase hfew hline PySem.F.plainAttrs_dict PySem.F.slot_dict_get PySem.F.type_dict_get (thn (ho.run pins s σ H _ I h) fun u s1 q => ?_)
  obtain ⟨x, H1, I1, rx, rfl, q1⟩ := q
  cases rx
  have hm := PySem.W.mapOf_K (prog := X.prog) (w := X.w) I1.kIn D.at_ D.lit
  refine ⟨hm.typeIs, hm.noDict, ?_⟩
  have hA := ha.run cpos pins s1 σ H1 _ I1 q1
  rw [hs] at hA ⊢
  refine Calls.callWith_builtin (by show (false || (backTo cpos (starEach ex X.env)).any (·.1)) = false; rw [hplain] <;> rfl) (Calls.evalArgs_plain ?_)
  exact thn hA fun us s2 q2 => by
    obtain ⟨vs, H2, I2, r2, z, dv, e2, q3⟩ := q2
    exact mt_get_kd D pins s2 σ H2 (.ref d) vs (.ref d) us Q I2 rfl r2 ⟨z, dv, rfl, e2, q3⟩
end
end L2
set_option Elab.async false
set_option linter.all false
set_option maxRecDepth 100000
set_option maxHeartbeats 4000000
namespace Own
open PySem PySem.Spec PyProof.Rows L2
/-! ### enumerate over a tuple, and over what is a list or a tuple -/
section
open PySem (wpAny_stack_any)
theorem meets_enum1 {v : Value} {o : Obj} {G : Heap → Prop} (B : Begins v o G) :
    Meets (Builtin.«enumerate.__new__» ⟨[.type "enumerate", v], []⟩) (fun _ R s => G s.heap ∧
      R (.ok (.ret (.ref (s.heap.push o).objs.size))) { s with heap := (s.heap.push o).push { cls := .type "enumerate", data := .fields #[.none, .bool false, .ref s.heap.objs.size, rawInt 0, .none, .none] } }) := by
  refine Meets.of_wp fun prog w A R s h => ?_
  obtain ⟨hp, gg, dd, tk, os⟩ := s
  obtain ⟨hG, hR⟩ := h
  have hsub := sub_enumerate
  have q1 : ∀ {A2 : Around} {E : Value → Shared → Prop} {Q : Value → Shared → Prop}, Q (.ref hp.objs.size) ⟨hp.push o, gg, dd, tk, os⟩ → wpAny (model prog w) A2 (pyIter v) Q E ⟨hp, gg, dd, tk, os⟩ := fun q => B.iter prog w _ _ ⟨hp, gg, dd, tk, os⟩ _ hG q
  wp_walk using q1
  refine wpAny_stack_any fun st => wpAny_pure ?_
  split
  · rename_i c _ _ _ _ _
    cases (c == Value.type "enumerate") with
    | false => wp_walk using q1; exact ⟨_, rfl, hR⟩
    | true => wp_walk using q1; exact ⟨_, rfl, hR⟩
  · wp_walk using q1
    exact ⟨_, rfl, hR⟩
theorem call_enum_tuple {prog : Program} {w : World} {A : Around} {E : Value → Shared → Prop} {s : Shared} {l : Addr} {items : Array Value} {Q : Value → Shared → Prop} (hT : s.heap.IsTuple l items)
    (h : ∀ h', IsEnum h' (s.heap.objs.size + 1) s.heap.objs.size 0 .none → h'.IsTupleIter s.heap.objs.size l 0 → (∀ b o, s.heap.get? b = some o → h'.get? b = some o) → Q (.ref (s.heap.objs.size + 1)) { s with heap := h' }) :
    wpAny (model prog w) A (call (.type "enumerate") [.ref l]) Q E s := by
  refine callType_new F.called_enumerate (by decide) (F.typeCall_enumerate_1 _) (F.newCall_enumerate_1 _) (fun obj => F.args_object_init_2 obj _) F.entry_enumerate_new (meets_enum1 (begins_tuple l items)) ⟨hT, ?_⟩
  have hz : (s.heap.push { cls := .type "tuple_iterator", data := .fields #[.ref l, .int 0 0] }).objs.size = s.heap.objs.size + 1 := Heap.size_push ..
  show _ ∧ _
  rw [hz]
  have atE := Heap.get?_push_size (s.heap.push { cls := .type "tuple_iterator", data := .fields #[.ref l, .int 0 0] }) (o := { cls := .type "enumerate", data := .fields #[.none, .bool false, .ref s.heap.objs.size, rawInt 0, .none, .none] }) rfl
  rw [hz] at atE
  exact ⟨⟨_, atE, rfl⟩, h _ atE ⟨_, Heap.get?_push_of_some _ (Heap.get?_push_size _ rfl), rfl, rfl⟩ fun b o x => Heap.get?_push_of_some _ (Heap.get?_push_of_some _ x)⟩
end
theorem next_enum_tupEnd {prog : Program} {w : World} {A : Around} {E : Value → Shared → Prop} {s : Shared} {e it l : Addr} {i : Nat} {items : Array Value} {old : Value} {Q : Option Value → Shared → Prop} (hh : A.handled = none)
    (he : IsEnum s.heap e it i old) (hit : s.heap.IsTupleIter it l i) (hl : s.heap.IsTuple l items) (hx : items[i]? = none) (hQ : ∀ h', Heap.ExtBut it s.heap h' → Q none { s with heap := h' }) : wpAny (model prog w) A (pyNext (.ref e)) Q E s := by
  have ty : s.TypeIs (.ref e) "enumerate" := ⟨_, he, rfl⟩
  unfold pyNext
  refine wpAny_bind (wpAny_attempt (wpAny_callSpecial?_slot (name := Str.ofString "__next__") ty F.slot_enumerate_next (wpAny_call_entry F.slot_enumerate_next ty F.entry_enumerate_next ?_ (F.args_enumerate_next_1 _))))
  show wpAny _ _ (field (.ref e) 2 >>= _) _ _ s
  refine wpAny_bind (wpAny_field he rfl (x := .ref it) rfl (wpAny_bind (wpAny_nextOf_tuple_end (show A.in1.handled = none from hh) hit hl hx fun h1 x he1 hx1 => ?_)))
  obtain ⟨o, ho, hc⟩ := hx1
  exact wpAny_bind (wpAny_isInstance (T := "StopIteration") (b := true) ⟨o, ho, hc⟩ isSubtype_stop (wpAny_pure (hQ _ he1)))
def IteT (K : PySem.W.Frag) (a : Addr) : It :=
  ⟨fun i H => ∃ (xs : List V) (x : V), SqT K H a xs ∧ xs[i]? = some x, fun i H v H' => ∃ T x, v = .ref T ∧ H T = none ∧ H' = L2.upd H T (.tup [.int (i : Nat), x]) ∧ ∀ xs, SqT K H a xs → xs[i]? = some x, fun i H => ∃ xs : List V, SqT K H a xs ∧ xs.length ≤ i⟩
theorem turn_enumT {P : Program} {w : World} {K : PySem.W.Frag} {elts : List Expr} {kk : Nat} {tpos : Pos} (a e it : Addr) :
    Turn P w K (.Tuple elts kk tpos) (IteT K a) [e, it] e (fun i h => (∃ old, IsEnum h e it ((i : Nat) : Int) old) ∧ h.IsTupleIter it a i ∧ e ≠ it) := by
  have two : ∀ {b : Addr}, b ∈ [e, it] → b = e ∨ b = it := fun hb => by simpa using hb
  refine ⟨by simp, fun i h st b hb => ?_, fun i h h' st k => ?_, ?_, ?_, fun A i s Q E st h => ?_⟩
  · obtain ⟨⟨old, he⟩, ⟨o, ho, hc, hd⟩, _⟩ := st
    cases two hb with
    | inl z => subst z; exact ⟨_, he, fun v q => nomatch q⟩
    | inr z => subst z; exact ⟨o, ho, fun v q => by rw [hd] at q; cases q⟩
  · obtain ⟨⟨old, he⟩, hi, hne⟩ := st
    exact ⟨⟨old, k e (by simp) _ he⟩, hi.at fun o q => k it (by simp) o q, hne⟩
  · intro X hP hw hK hc i pins s σ H E I hf st hg
    subst hP hw hK
    obtain ⟨⟨old, he⟩, hit, hne⟩ := st
    obtain ⟨xs, x, hq, hx⟩ := hg
    obtain ⟨its, rv, p, hz⟩ := I.tuple hq
    have pT : s.heap.IsTuple a its.toArray := p
    have eN : e ≠ a := fun z => by
      obtain ⟨o, ho, hcl, _⟩ := pT
      subst z
      rw [he] at ho
      cases ho
      injection hcl with q
      revert q
      decide
    have iN : a ≠ it := fun z => by
      obtain ⟨o, ho, hcl, _⟩ := pT
      obtain ⟨o2, ho2, hcl2, _⟩ := hit
      subst z
      rw [ho] at ho2
      cases ho2
      rw [hcl] at hcl2
      injection hcl2 with q
      revert q
      decide
    have el : e < s.heap.objs.size := Heap.lt_size he
    have il : it < s.heap.objs.size := by
      obtain ⟨_, q, _⟩ := hit
      exact Heap.lt_size q
    have hlen := (List.getElem?_eq_some_iff.mp hx).1
    have hn := rv.length
    refine wpAny_pyNext_enum_itemC (Draws.tuple (A := X.A.in1) (show X.A.in1.handled = none from I.ok.hd hc) it a iN its.toArray) he ⟨hit, pT⟩ (by simp; omega) hne (by simp [hne, eN]) fun u h1 tk hu ho hst hT hsz hk => ?_
    refine ⟨_, rfl, wpAny_letOwnedTupleGo_enum (s := { s with heap := h1, toks := tk + 1 }) ho fun h2 he2 sb => ?_⟩
    have hT2 : h2.get? s.heap.objs.size = some { cls := .type "tuple", data := .seq #[.int i tk, u] } := (sb.2 _ (Nat.ne_of_gt el)).trans hT
    have ru : RelV x u := by
      obtain ⟨u2, hu2, r2⟩ := rv.get hx
      have : its.toArray[i]? = its[i]? := by simp
      rw [this, hu2] at hu
      cases hu
      exact r2
    have I1 : Inv X pins σ (L2.upd H s.heap.objs.size (.tup [.int (i : Nat), x])) { s with heap := h2, toks := tk + 1 } :=
      I.turnedNew (ch := [e, it]) (fun b ob hb q => (sb.2 b (fun z => hb (by simp [z]))).trans (hk b ob (fun z => hb (by simp [z])) (fun z => hb (by simp [z])) q)) hf (Nat.le_refl _)
        ⟨by show 2 ≤ sizeLine; decide, [.int i tk, u], .cons ⟨_, rfl⟩ (.cons ru .nil), ⟨_, hT2, rfl, _, rfl⟩⟩
    refine ⟨.ref s.heap.objs.size, _, I1, rfl, ⟨_, x, rfl, I.hok.fresh (Nat.le_refl _), rfl, fun ys hy => by rw [I.tuple_inj hy hq]; exact hx⟩, ⟨⟨u, ?_⟩, hst.1.at fun o q => (sb.2 it (Ne.symm hne)).trans q, hne⟩, fun b hb => ?_⟩
    · have e1 : ((i + 1 : Nat) : Int) = (i : Int) + 1 := by omega
      rw [e1]
      exact he2
    · have lt : b < s.heap.objs.size := by
        cases two hb with
        | inl z => subst z; exact el
        | inr z => subst z; exact il
      rw [upd_ne (Nat.ne_of_lt lt)]
      exact (hf b hb).1
  · intro X hP hw hK hc i pins s σ H E I hf st hg
    subst hP hw hK
    obtain ⟨⟨old, he⟩, hit, hne⟩ := st
    obtain ⟨xs, hq, hx⟩ := hg
    obtain ⟨its, rv, p, hz⟩ := I.tuple hq
    obtain ⟨f0, f1, f2, f3, f4, f5⟩ := hf it (by simp)
    have pT : s.heap.IsTuple a its.toArray := p
    have hl := rv.length
    exact next_enum_tupEnd (I.ok.hd hc) he hit pT (by simp; omega) fun h1 eb => ⟨rfl, I.turned (t' := s.toks) (fun b o hb q => eb b o hb q) f0 f1 f3 f4 f5⟩
  · obtain ⟨⟨old, he⟩, _⟩ := st
    exact wpAny_pyIter_enum he h
/-- enumerate(e), e a list or a tuple -/
def iEnumS (K : PySem.W.Frag) (ta : TA) : TI := fun σ H R => ta σ H fun vs H1 => ∃ a, vs = [.ref a] ∧ ((∃ xs, SqL K H1 a xs ∧ R (Ite K a) H1) ∨ ∃ xs, SqT K H1 a xs ∧ R (IteT K a) H1)
theorem pi_enumS {X : Cx} {e : Expr} {ta : TA} {p pos tpos : Pos} {elts : List Expr} {kk : Nat} (hg : Gl X "enumerate") (hm : X.mg "enumerate" = none) (ha : PA X [e] ta) (hs : starEach [e] X.env = [(false, eval e X.env)] := by rfl) :
    PI X (.Tuple elts kk tpos) (.Call (.Name "enumerate" p) [e] [] pos) (iEnumS X.K ta) := by
  refine ⟨fun pins s σ H R I h => ?_⟩
  refine Call_ (ld_blt I hg hm boot_enumerate (PyProof.Rows.callWith_type1 (thn (ha.run pos pins s σ H _ I h) fun us s1 h1 => ?_) hs rfl))
  obtain ⟨vs, H1, I1, r1, a, rfl, q⟩ := h1
  match us, r1 with
  | [_], .cons r .nil =>
    cases r
    have low : ∀ b ∈ [s1.heap.objs.size + 1, s1.heap.objs.size], s1.heap.objs.size ≤ b := fun b hb => by
      have : b = s1.heap.objs.size + 1 ∨ b = s1.heap.objs.size := by simpa using hb
      omega
    rcases q with ⟨xs, hq, q⟩ | ⟨xs, hq, q⟩
    · obtain ⟨its, rv, pl, hz⟩ := I1.list hq
      refine call_enumerate_list pl.isList fun h2 he hit hsz hk => wpAny_pyIter_enum he ?_
      exact ⟨s1.heap.objs.size + 1, [s1.heap.objs.size + 1, s1.heap.objs.size], _, _, H1, rfl, I1.kept (t' := s1.toks) hk, turn_enum a _ _, ⟨⟨.none, he⟩, hit, Nat.succ_ne_self _⟩, fun b hb => I1.fpOk (low b hb) (I1.hok.fresh (low b hb)), q⟩
    · obtain ⟨its, rv, pl, hz⟩ := I1.tuple hq
      refine call_enum_tuple (show s1.heap.IsTuple a its.toArray from pl) fun h2 he hit hk => wpAny_pyIter_enum he ?_
      exact ⟨s1.heap.objs.size + 1, [s1.heap.objs.size + 1, s1.heap.objs.size], _, _, H1, rfl, I1.kept (t' := s1.toks) hk, turn_enumT a _ _, ⟨⟨.none, he⟩, hit, Nat.succ_ne_self _⟩, fun b hb => I1.fpOk (low b hb) (I1.hok.fresh (low b hb)), q⟩
theorem walk_enumT {K : PySem.W.Frag} {a : Addr} {xs : List V} : Walk (IteT K a) xs.length (fun H => SqT K H a xs) (YPair (fun i => some (.int (i : Nat))) (fun i => xs[i]?)) := by
  refine ⟨fun i _ hi q => ⟨xs, xs[i], q, by simp [hi]⟩, fun _ q => ⟨xs, q, Nat.le_refl _⟩, fun i H v H' _ q y => ?_⟩
  obtain ⟨T, x, e1, e2, e3, e4⟩ := y
  exact ⟨T, _, x, e1, e2, e3, rfl, e4 xs q⟩
end Own
set_option Elab.async false
set_option linter.all false
set_option maxRecDepth 100000
set_option maxHeartbeats 400000
namespace Own
open PySem PySem.Spec PyProof.Rows L2 LamX
/-! ### what the walk asks of the module -/
/-- the module's constants -/
structure Cst (K : PySem.W.Frag) (mg : Str → Option Value) : Prop where
  letters : ∃ t, mg "LETTERS" = some (.str "abcdefghijklmnopqrstuvwxyz" t)
  digits : ∃ t, mg "DIGITS" = some (.str "0123456789" t)
/-- the module's two tables -/
structure Dct (NOW : List Str) (K : PySem.W.Frag) (w : World) (mg : Str → Option Value) : Prop where
  forms : ∃ p es n, mg "FORMS" = some (.ref p) ∧ KDict K w p es n ∧ (∀ t ∈ FORM, ∃ q, PySem.W.nsIn K p t.1 = some (some (.ref q)) ∧ ∀ H, SqT K H q [.int t.2.1, .int t.2.2]) ∧ ∀ z ∈ NOW, PySem.W.nsIn K p z = some none
  others : ∃ p es n, mg "OTHERS" = some (.ref p) ∧ KDict K w p es n ∧ ∀ t ∈ FORM, (∃ z u, OTHL.lookup t.1 = some z ∧ PySem.W.nsIn K p t.1 = some (some (.str z u))) ∨ (OTHL.lookup t.1 = none ∧ PySem.W.nsIn K p t.1 = some none)
/-- an error class without fields -/
structure ExcT (K : PySem.W.Frag) (mg : Str → Option Value) (x : Str) (C : Addr) : Prop where
  g : mg x = some (.ref C)
  x : PySem.W.excIn K C He.veBase "ValueError.__new__" = true
  k : PySem.W.keepIn K (.ref C) = true
  b : PySem.W.subIn K (.ref C) (.type "BaseException") = some true
  t : PySem.W.typeIn K (.ref C) = some (.type "type")
/-- a def of the module, ready to be called -/
structure Fk (P : Program) (w : World) (K : PySem.W.Frag) (mg : Str → Option Value) (base : Heap) (CX : CXT) (k : Nat) (x : Str) (fd : FuncData) (ps : List Str) (sp : Sp) : Prop where
  ok : FnOk P w K mg base CX k (He.ga K x) fd ps sp
  b : Binds K fd ps []
  kp : PySem.W.keepIn K (.ref (He.ga K x)) = true
  g : mg x = some (.ref (He.ga K x))
def signs (z : Str) : List V := z.cps.toList.map fun c => V.str ⟨#[c]⟩
theorem walk_signs {z : Str} : Walk (Its z) (signs z).length (fun _ => True) (YAt (signs z)) := by
  have e : (signs z).length = z.cps.size := by unfold signs; rw [List.length_map, Array.length_toList]
  rw [e]
  refine walk_str.mono (fun _ h => h) fun i H x H' hi _ y => ?_
  obtain ⟨e1, c, hc, rfl⟩ := y
  refine ⟨e1, ?_⟩
  unfold signs
  rw [List.getElem?_map, Array.getElem?_toList, hc]
  rfl
theorem signs_len (z : Str) : (signs z).length = z.length := by
  unfold signs
  rw [List.length_map]
  rfl
theorem cut_mid {xs : List V} {i j : Nat} (hj : j ≤ xs.length) (hi : i ≤ j) : cutV xs (some (i : Int)) (some (j : Int)) = (xs.drop i).take (j - i) := by
  show (xs.drop (HT.sIx xs.length 0 (some (i : Int)))).take (HT.sIx xs.length xs.length (some (j : Int)) - HT.sIx xs.length 0 (some (i : Int))) = _
  rw [HT.sIx_nat, HT.sIx_nat, Nat.min_eq_left hj, Nat.min_eq_left (by omega)]
theorem cut_mid1 {xs : List V} {m : Nat} (hj : 1 + m ≤ xs.length) : cutV xs (some 1) (some (1 + (m : Int))) = (xs.drop 1).take m := by
  have e : (1 + (m : Int)) = ((1 + m : Nat) : Int) := by omega
  rw [e]
  have := cut_mid (i := 1) hj (by omega)
  rw [Nat.add_sub_cancel_left] at this
  exact this
theorem cut_notwhole {xs : List V} {j : Option Int} (h : 0 < xs.length) : ¬ (HT.sIx xs.length 0 (some 1) = 0 ∧ HT.sIx xs.length xs.length j = xs.length) := by
  rintro ⟨h1, _⟩
  have e : HT.sIx xs.length 0 (some ((1 : Nat) : Int)) = min 1 xs.length := HT.sIx_nat _ _ _
  have h' : HT.sIx xs.length 0 (some ((1 : Nat) : Int)) = 0 := h1
  omega
theorem fok_name {z : Str} (h : NameOk z) : fok (.str z) = true := by
  show z.cps.all (· < 0x110000) = true
  rw [← Array.all_toList, List.all_eq_true]
  intro c hc
  have h1 : ∀ c ∈ LEDI, c < 0x110000 := by decide +kernel
  exact decide_eq_true (h1 c (h.2.2.2 c hc))
theorem fok_names {ns : List Str} (h : ∀ z ∈ ns, NameOk z) : (ns.map V.str).all fok = true := by
  rw [List.all_map, List.all_eq_true]
  exact fun z hz => fok_name (h z hz)
theorem fok_signs {z : Str} (h : fok (.str z) = true) : ∀ x ∈ signs z, fok x = true := fun x hx => by
  obtain ⟨c, hc, rfl⟩ := List.mem_map.mp hx
  have h' : z.cps.all (· < 0x110000) = true := h
  rw [← Array.all_toList, List.all_eq_true] at h'
  have := h' c hc
  show (#[c] : Array Nat).all (· < 0x110000) = true
  rw [← Array.all_toList]
  show (decide (c < 0x110000) && true) = true
  rw [this]
  rfl
end Own
set_option Elab.async false
set_option linter.all false
set_option maxRecDepth 100000
set_option maxHeartbeats 400000
namespace Own
open PySem PySem.Spec PyProof.Rows L2 LamX
/-! ### is_name of any value -/
def spName : Sp := fun vs H Q _ => ∃ (x : V) (d : PyData), vs = [x] ∧ Dq [] H x d ∧ vdb d = true ∧ ∀ H', Same H H' → Q (.bl (nameB d)) H'
/-- a sign that may stand in a name -/
def ledB : V → Bool
  | .str z => decide (∀ c ∈ z.cps.toList, c ∈ LEDI)
  | _ => false
theorem name_none {d : PyData} (h : isS d = false) : nameB d = false := by
  cases d <;> first | rfl | cases h
theorem vdb_gdb {d : PyData} (h : vdb d = true) (n : isD d = false) : gdb d = true := by
  unfold vdb at h
  rw [n] at h
  exact h
theorem name_eq {z : Str} {c : Nat} {r : List Nat} (ec : z.cps.toList = c :: r) (h8 : z.length ≤ 8) : nameB (.str z) = (decide (c ∈ LET) && !(signs z).any fun x => !ledB x) := by
  show decide (NameOk z) = _
  have z2 : z ≠ "" := fun e => by
    rw [e] at ec
    cases ec
  have e1 : (!(signs z).any fun x => !ledB x) = decide (∀ c ∈ z.cps.toList, c ∈ LEDI) := by
    rw [Bool.eq_iff_iff, Bool.not_eq_true', ← Bool.not_eq_true, List.any_eq_true, decide_eq_true_iff]
    constructor
    · intro h c hc
      refine Classical.byContradiction fun n => h ⟨.str ⟨#[c]⟩, List.mem_map.mpr ⟨c, hc, rfl⟩, ?_⟩
      show (!decide (∀ x ∈ ([c] : List Nat), x ∈ LEDI)) = true
      simpa using n
    · rintro h ⟨x, hx, hn⟩
      obtain ⟨c, hc, rfl⟩ := List.mem_map.mp hx
      have : (!decide (∀ x ∈ ([c] : List Nat), x ∈ LEDI)) = true := hn
      have q := h c hc
      simp [q] at this
  rw [e1, Bool.eq_iff_iff, decide_eq_true_iff, Bool.and_eq_true, decide_eq_true_iff, decide_eq_true_iff]
  unfold NameOk
  rw [ec]
  constructor
  · rintro ⟨_, _, a, b⟩
    exact ⟨a c rfl, b⟩
  · rintro ⟨a, b⟩
    exact ⟨h8, z2, fun y hy => by cases hy; exact a, b⟩
section
variable {P : Program} {w : World} {K : PySem.W.Frag} {mg : Str → Option Value} {base : Heap} {f fN fI fD : Addr} {fd2 fdN fdI fdD : FuncData}
theorem scName : FnScope ["value", "mark"] ["value"] (defScope sName) := ⟨rfl, rfl, rfl, by decide +kernel, rfl, by decide +kernel, by decide +kernel⟩
theorem ok_name (F : FnP K "is_name" sName f fd2) (T : Txt K mg) (C : Cst K mg) : FnOk P w K mg base CX0 1 f fd2 ["value"] spName := by
  obtain ⟨tl, hl⟩ := C.letters
  obtain ⟨td, hd⟩ := C.digits
  refine F.ok scName (fun vs H Q E h => ?_) (fun cdv A outer s H vs Q E hr h => ?_)
  · obtain ⟨x, d, rfl, _⟩ := h
    rfl
  · obtain ⟨x, d, rfl, hx, vd, k⟩ := h
    refine ⟨_, PSs.nox (pss_cons (ps_if (PW.pt (pw_or (pt_not (pt_val (pe_callB call_isi (by rfl) T.isi boot_isinstance (pa_cons (pv 0) (pa_cons (pe_bltn (v := .ty "str") (by rfl) T.str (by decide +kernel) rfl) pa_nil)))))
        (pw_or (pt_cmpR op_eq (pv 0) pe_str (nomark _)) (pw_or1 (pt_cmpR op_gt (pe_callB call_len_str (by rfl) T.len PySem.boot_len (pa_cons (pv 0) pa_nil)) pe_int (nomark _)))))) (pss_one (ps_ret pe_bl)) pss_nil)
      (pss_one (ps_ret (pe_and (pe_cmpR op_in_sign (pe_ix ix_str (pv 0) pe_int (fun _ _ => rfl)) (pe_glob (v := .str "abcdefghijklmnopqrstuvwxyz") (by rfl) hl ⟨_, rfl⟩) (by rfl))
        (pe_one (pe_cmpR (op_eqD hr.units) (pe_lc (own := [("mark", 1)]) (g := gName 1) (by rfl) scName.nd (pi_str (pv 0)) (blkOk_by (own := [("mark", 1)]) (N := ["value", "mark"]) (sc := defScope sName) (by decide +kernel))
          (fun _ _ _ _ _ => pg_name (i := 1) scName.nd rfl (Or.inl rfl)) (fun _ _ _ _ _ => pts_one (pt_cmpR op_notIn_sign (pv 1) (pe_op op_add_str (pe_glob (v := .str "abcdefghijklmnopqrstuvwxyz") (by rfl) hl ⟨_, rfl⟩) (pe_glob (v := .str "0123456789") (by rfl) hd ⟨_, rfl⟩)) (by rfl))) (fun _ _ _ _ _ => pv 1)) (pe_lst pa_nil) (nomark _))))))), ?_⟩
    refine ⟨_, rfl, x, .ty "str", .type (tyOf d), .type "str", isS d, rfl, .ty _, hx.ty, kit_ty (kit_str d), _, rfl, ?_⟩
    cases es : isS d with
    | false =>
      refine iteT ?_
      have q := k H (Same.refl _)
      rw [name_none es] at q
      exact q
    | true =>
      refine iteF ?_
      obtain ⟨z, rfl⟩ : ∃ z, d = .str z := by
        cases d <;> first | exact ⟨_, rfl⟩ | cases es
      obtain ⟨zl, zf⟩ := gdb_str (vdb_gdb vd rfl)
      cases hx
      have zs : z.length ≤ sizeLine := Nat.le_trans zl (by decide)
      refine ⟨_, rfl, rfl, _, rfl, ?_⟩
      rw [decStr]
      by_cases z2 : z = ""
      · rw [decide_eq_true z2]
        refine iteT ?_
        have q := k H (Same.refl _)
        have e : nameB (.str z) = false := decide_eq_false fun h => h.2.1 z2
        rw [e] at q
        exact q
      rw [decide_eq_false z2]
      refine iteF ?_
      refine ⟨_, rfl, z, rfl, zs, _, _, rfl, rfl, _, rfl, ?_⟩
      by_cases z8 : z.length ≤ 8
      · have e8 : decide ((8 : Int) < ((z.length : Nat) : Int)) = false := decide_eq_false (by omega)
        rw [e8]
        refine iteF ?_
        obtain ⟨c, r, ec⟩ : ∃ c r, z.cps.toList = c :: r := by
          cases e : z.cps.toList with
          | nil =>
            exfalso
            apply z2
            exact TL.ext_tl e
          | cons c r => exact ⟨c, r, rfl⟩
        have en := name_eq ec z8
        rw [en] at k
        refine ⟨_, rfl, z, _, c, rfl, rfl, zs, ?_, ⟨c, _, rfl, rfl, decide (c ∈ LET), rfl, ?_⟩⟩
        · rw [ec]
          exact atI_nat (j := 0) rfl
        cases hc : decide (c ∈ LET) with
        | false =>
          refine iteF ?_
          have q := k H (Same.refl _)
          rw [hc] at q
          exact q
        | true =>
          refine iteT ?_
          refine ⟨_, rfl, z, rfl, fun D nD => ?_⟩
          have sl : (signs z).length < sizeLine := by
            rw [signs_len]
            exact Nat.lt_of_le_of_lt z8 (by decide)
          refine lc_filt (p := fun x => !ledB x) walk_signs nD sl (fun _ _ => trivial) (by show 1 < 2; decide) (fun x H' hx _ R kR => ?_) fun H' sH eD => ?_
          · obtain ⟨c, hc, rfl⟩ := List.mem_map.mp hx
            refine ⟨_, rfl, _, _, rfl, rfl, by decide, ⟨c, _, rfl, rfl, _, rfl, ?_⟩⟩
            have e1 : ledB (V.str ⟨#[c]⟩) = decide (c ∈ ("abcdefghijklmnopqrstuvwxyz" ++ "0123456789" : Str).cps.toList) := by
              show decide (∀ x ∈ ([c] : List Nat), x ∈ LEDI) = _
              rw [Bool.eq_iff_iff, decide_eq_true_iff, decide_eq_true_iff]
              exact ⟨fun h => h c (by simp), fun h y hy => by rw [List.mem_singleton.mp hy]; exact h⟩
            have q := kR H' (Same.refl _)
            rw [e1] at q
            exact q
          · refine tail_eq eD (all_filter (List.all_eq_true.mpr (fok_signs zf))) fun H'' s2 => ?_
            have q := k H'' (sH.trans s2)
            rw [hc, Bool.true_and, ← filter_any, Bool.not_not] at q
            exact q
      · have e8 : decide ((8 : Int) < ((z.length : Nat) : Int)) = true := decide_eq_true (by omega)
        rw [e8]
        refine iteT ?_
        have q := k H (Same.refl _)
        have e : nameB (.str z) = false := decide_eq_false fun h => z8 h.1
        rw [e] at q
        exact q
end
end Own
set_option Elab.async false
set_option linter.all false
set_option maxRecDepth 100000
set_option maxHeartbeats 400000
namespace Own
open PySem PySem.Spec PyProof.Rows L2 LamX
/-! ### deeds, any value -/
theorem Dq.kind {K : PySem.W.Frag} {N : List Addr} {H : Hp} {d : PyData} {v : V} (h : Dq N H v d) : Kind K H v (isI d) (isB d) := ⟨tyOf d, h.ty, kit_int d, kit_bool d⟩
def DeedIn (NOW : List Str) (H : Hp) (x : V) (d : PyData) : Prop := Dq [] H x d ∧ vdb d = true ∧ Ready NOW d
theorem DeedIn.same {NOW : List Str} {H H' : Hp} {x : V} {d : PyData} (h : DeedIn NOW H x d) (e : Same H H') : DeedIn NOW H' x d := ⟨h.1.same e, h.2⟩
theorem strok_of {z : Str} {n : Nat} (h : NameOk z) (hn : 8 ≤ n) : z.length ≤ n := Nat.le_trans h.1 hn
def spDeed (NOW : List Str) : Sp := fun vs H Q _ => ∃ (x : V) (d : PyData), vs = [x] ∧ DeedIn NOW H x d ∧ ∀ H', Same H H' → Q (.bl (deedB d)) H'
def spNeedD (NOW : List Str) (CD : Addr) : Sp := fun vs H Q E => ∃ (x : V) (d : PyData), vs = [x] ∧ DeedIn NOW H x d ∧ ((deedB d = true ∧ ∀ H', Same H H' → Q .non H') ∨ (deedB d = false ∧ ∀ H', Same H H' → E (.ref CD) none H'))
/-- a def of a deed: an error for what is none -/
def spOfDeed (NOW : List Str) (CD : Addr) (R : Deed → VK → Hp → Prop) : Sp := fun vs H Q E => ∃ (x : V) (d : PyData), vs = [x] ∧ DeedIn NOW H x d ∧ ((∃ dd, d = dd.py ∧ DeedOk dd ∧ R dd Q H) ∨ (deedB d = false ∧ ∀ H', Same H H' → E (.ref CD) none H'))
def rNames : Deed → VK → Hp → Prop := fun d Q H => ∀ p H', Same H H' → H p = none → H' p = some (.tup ((once d.names).map V.str)) → Q (.ref p) H'
def rTool : Deed → VK → Hp → Prop := fun d Q H => ∀ H', Same H H' → Q (.str (toolS d.word)) H'
theorem deed_head (d : Deed) : atI d.vs (0 : Int) = some (.str d.word) := at_nat (k := 0) rfl
theorem deed_len (d : Deed) : d.vs.length = 1 + d.names.length + d.way.length := by
  unfold Deed.vs
  rw [List.length_cons, List.length_append, List.length_map, List.length_map]
  omega
theorem deed_names {d : Deed} {m : Nat} (h : d.names.length = m) : cutV d.vs (some 1) (some (1 + (m : Int))) = d.names.map V.str := by
  rw [cut_mid1 (by rw [deed_len]; omega)]
  unfold Deed.vs
  rw [List.drop_succ_cons, List.drop_zero, ← h]
  exact List.take_left' (by rw [List.length_map])
theorem deed_notwhole {d : Deed} {j : Option Int} : ¬ (HT.sIx d.vs.length 0 (some 1) = 0 ∧ HT.sIx d.vs.length d.vs.length j = d.vs.length) := cut_notwhole (by rw [deed_len]; omega)
theorem deed_none {d : PyData} (h : isT d = false) : deedB d = false := by
  cases d <;> first | rfl | cases h
theorem deed_head_none {e : PyData} {r : List PyData} (h : isS e = false) : deedB (.tuple (e :: r)) = false := by
  cases e <;> first | rfl | cases h
theorem deedB_cons (w : Str) (r : List PyData) {q : Nat × Nat} (h : FORM.lookup w = some q) : deedB (.tuple (.str w :: r)) = formB2 q r := by
  show (match FORM.lookup w with
    | some q => formB2 q r
    | none => false) = _
  rw [h]
theorem deedB_no (w : Str) (r : List PyData) (h : FORM.lookup w = none) : deedB (.tuple (.str w :: r)) = false := by
  show (match FORM.lookup w with
    | some q => formB2 q r
    | none => false) = _
  rw [h]
section
variable {NOW : List Str} {P : Program} {w : World} {K : PySem.W.Frag} {mg : Str → Option Value} {base : Heap} {f fN fI fD CD : Addr} {fd2 fdN fdI fdD : FuncData}
theorem scDeed : FnScope ["value", "many", "ways", "name"] ["value"] (defScope sDeed) := ⟨rfl, rfl, rfl, by decide +kernel, rfl, by decide +kernel, by decide +kernel⟩
theorem ok_deed (F : FnP K "is_deed" sDeed f fd2) (KN : Fk P w K mg base CX0 1 "is_name" fdN ["value"] spName) (KI : Fk P w K mg base CX0 1 "is_whole" fdI ["value"] (spWhole K)) (T : Txt K mg) (W : Dct NOW K w mg) (hNOW : ∀ z ∈ NOW, FORM.lookup z = none) :
    FnOk P w K mg base CX0 2 f fd2 ["value"] (spDeed NOW) := by
  obtain ⟨pf, es, n0, hpf, DF, atF, noF⟩ := W.forms
  refine F.ok scDeed (fun vs H Q E h => ?_) (fun cdv A outer s H vs Q E hr h => ?_)
  · obtain ⟨x, d, rfl, _⟩ := h
    rfl
  · obtain ⟨x, d, rfl, ⟨hx, vd, rdy⟩, k⟩ := h
    refine ⟨_, PSs.nox (pss_cons (ps_if (PW.pt (pw_or (pt_not (pt_val (pe_callB call_isi (by rfl) T.isi boot_isinstance (pa_cons (pv 0) (pa_cons (pe_bltn (v := .ty "tuple") (by rfl) T.tuple (by decide +kernel) rfl) pa_nil)))))
        (pw_or (pt_cmpR op_eq (pe_callB call_len_seq (by rfl) T.len PySem.boot_len (pa_cons (pv 0) pa_nil)) pe_int (nomark _)) (pw_or1 (pt_not (pt_val (pe_callB call_isi (by rfl) T.isi boot_isinstance (pa_cons (pe_ix ix_tup (pv 0) pe_int (fun _ _ => rfl)) (pa_cons (pe_bltn (v := .ty "str") (by rfl) T.str (by decide +kernel) rfl) pa_nil))))))))) (pss_one (ps_ret pe_bl)) pss_nil)
      (pss_cons (ps_if (pt_cmpR (op_notIn_kd DF) (pe_ix ix_tup (pv 0) pe_int (fun _ _ => rfl)) (pe_glob (v := .ref pf) (by rfl) hpf rfl) (by rfl)) (pss_one (ps_ret pe_bl)) pss_nil)
      (pss_cons (ps_asg (pe_ix ix_kdict (pe_glob (v := .ref pf) (by rfl) hpf rfl) (pe_ix ix_tup (pv 0) pe_int (fun _ _ => rfl)) (fun _ _ => rfl)) (pg_tup rfl (pgs_cons (pg_name (i := 1) scDeed.nd rfl (.inl rfl)) (pgs_cons (pg_name (i := 2) scDeed.nd rfl (.inl rfl)) pgs_nil))))
      (pss_cons (ps_if (pt_cmpR op_ne (pe_callB call_len_seq (by rfl) T.len PySem.boot_len (pa_cons (pv 0) pa_nil)) (pe_op op_add (pe_op op_add pe_int (pv 1)) (pv 2)) (nomark _)) (pss_one (ps_ret pe_bl)) pss_nil)
      (pss_cons (ps_if (pt_cmpR (op_neD hr.units) (pe_lc (own := [("name", 3)]) (g := gName 3) (by rfl) scDeed.nd (pi_tup (pe_slice sl_tup (pv 0) (po_some pe_int) (po_some (pe_op op_add pe_int (pv 1))))) (blkOk_by (own := [("name", 3)]) (N := ["value", "many", "ways", "name"]) (sc := defScope sDeed) (by decide +kernel))
          (fun _ _ _ _ _ => pg_name (i := 3) scDeed.nd rfl (Or.inl rfl)) (fun _ _ _ _ _ => pts_one (pt_not (pt_val (pe_call KN.ok hr (by rfl) KN.g KN.kp KN.b .nil pass0 (pa_cons (pv 3) pa_nil))))) (fun _ _ _ _ _ => pv 3)) (pe_lst pa_nil) (nomark _)) (pss_one (ps_ret pe_bl)) pss_nil)
      (pss_one (ps_ret (pe_or (pe_cmpR op_eq (pv 2) pe_int (nomark _)) (pe_one (pe_and (pe_call KI.ok hr (by rfl) KI.g KI.kp KI.b .nil pass0 (pa_cons (pe_ix ix_tup (pv 0) (pe_op op_add pe_int (pv 1)) (fun _ _ => rfl)) pa_nil))
        (pe_one (pe_chain op_le op_le pe_int (pe_ix ix_tup (pv 0) (pe_op op_add pe_int (pv 1)) (fun _ _ => rfl)) pe_int)))))))))))), ?_⟩
    have k0 := k H (Same.refl _)
    refine ⟨_, rfl, x, .ty "tuple", .type (tyOf d), .type "tuple", isT d, rfl, .ty _, hx.ty, kit_ty (kit_tuple d), _, rfl, ?_⟩
    cases eT : isT d with
    | false =>
      refine iteT ?_
      rw [deed_none eT] at k0
      exact k0
    | true =>
    refine iteF ?_
    cases hx with
    | non => cases eT
    | bl => cases eT
    | int => cases eT
    | str => cases eT
    | lst => cases eT
    | dict => cases eT
    | @tup a xs ds na ha hds =>
    have hs : SqT K H a xs := SqT.of ha
    obtain ⟨l1000, gds⟩ := gdb_tuple (vdb_gdb vd rfl)
    have f2 := hds.f2
    have len := f2.len
    refine ⟨_, rfl, a, _, rfl, .inr hs, rfl, _, rfl, ?_⟩
    cases hds with
    | nil =>
      refine iteT ?_
      exact k0
    | @cons v0 vs0 d0 ds0 h0 h1 =>
    have e0 : decide (V.int (((v0 :: vs0).length : Nat) : Int) = V.int 0) = false := decide_eq_false (by simp only [V.int.injEq, List.length_cons]; omega)
    rw [e0]
    refine iteF ?_
    have at0 : atI (v0 :: vs0) (0 : Int) = some v0 := at_nat (k := 0) rfl
    refine ⟨_, rfl, a, _, _, _, rfl, rfl, hs, at0, v0, .ty "str", .type (tyOf d0), .type "str", isS d0, rfl, .ty _, h0.ty, kit_ty (kit_str d0), _, rfl, ?_⟩
    cases eS : isS d0 with
    | false =>
      refine iteT ?_
      rw [deed_head_none eS] at k0
      exact k0
    | true =>
    refine iteF ?_
    obtain ⟨wd, rfl⟩ : ∃ z, d0 = .str z := by
      cases d0 <;> first | exact ⟨_, rfl⟩ | cases eS
    cases h0
    rcases rdy wd ds0 rfl with ⟨⟨m, kk⟩, hq⟩ | hno
    rotate_left
    · refine ⟨_, rfl, a, _, _, _, rfl, rfl, hs, at0, wd, _, rfl, rfl, noF wd hno, _, rfl, ?_⟩
      refine iteT ?_
      rw [deedB_no _ _ (hNOW _ hno)] at k0
      exact k0
    have hm := look_mem hq
    obtain ⟨f1, _, f3, f4⟩ := form_facts _ hm
    obtain ⟨q, hq2, sq⟩ := atF _ hm
    have eB := deedB_cons wd ds0 hq
    rw [eB] at k k0
    refine ⟨_, rfl, a, _, _, _, rfl, rfl, hs, at0, wd, _, rfl, rfl, hq2, _, rfl, ?_⟩
    refine iteF ?_
    refine ⟨_, rfl, a, _, _, _, rfl, rfl, hs, at0, pf, wd, .ref q, rfl, rfl, ⟨es, n0, _, DF.at_, DF.lit, hq2, rfl⟩, ?_⟩
    refine ⟨q, _, rfl, sq H, rfl, _, _, rfl, _, _, rfl, rfl, ?_⟩
    refine ⟨_, rfl, a, _, rfl, .inr hs, _, rfl, _, _, rfl, rfl, _, rfl, _, _, rfl, rfl, rfl, _, rfl, ?_⟩
    have l2 : vs0.length = ds0.length := by simpa using len
    by_cases hl : ds0.length = m + kk
    rotate_left
    · have e1 : (!decide (V.int (((V.str wd :: vs0).length : Nat) : Int) = V.int (1 + (m : Int) + (kk : Int)))) = true := by
        rw [decide_eq_false (by simp only [V.int.injEq, List.length_cons]; omega)]
        rfl
      rw [e1]
      refine iteT ?_
      have : formB2 (m, kk) ds0 = false := by
        unfold formB2
        rw [decide_eq_false hl]
        rfl
      rw [this] at k0
      exact k0
    have e1 : (!decide (V.int (((V.str wd :: vs0).length : Nat) : Int) = V.int (1 + (m : Int) + (kk : Int)))) = false := by
      rw [decide_eq_true (by simp only [V.int.injEq, List.length_cons]; omega)]
      rfl
    rw [e1]
    refine iteF ?_
    refine ⟨_, rfl, _, rfl, _, rfl, _, _, rfl, rfl, _, rfl, a, _, rfl, hs, cut_notwhole (by simp), fun p np => ?_⟩
    have lm : 1 + m ≤ (V.str wd :: vs0).length := by
      rw [List.length_cons, l2, hl]
      omega
    rw [cut_mid1 (m := m) lm, List.drop_succ_cons, List.drop_zero]
    have s1 := same_upd (o := .tup (vs0.take m)) np
    have f3' : m ≤ 5 := f3
    have hz : (vs0.take m).length < sizeLine := by
      rw [List.length_take]
      exact Nat.lt_of_le_of_lt (Nat.le_trans (Nat.min_le_left _ _) f3') (by decide)
    have hp := upd_same (H := H) (a := p) (o := .tup (vs0.take m))
    have gt : ∀ e ∈ ds0.take m, gdb e = true := fun e he => gds e (List.mem_cons_of_mem _ (List.mem_of_mem_take he))
    refine ⟨p, rfl, ⟨_, SqT.of hp⟩, fun D nD => ?_⟩
    refine lc_any (N := []) (ds := ds0.take m) (p := fun e => !nameB e) walk_tup (F2.take m (h1.same s1).f2) nD hz (fun H' s' => SqT.of (s' _ _ hp)) (by show 3 < 4; decide) (fun y e H' he hy _ R kR => ?_) fun H1 ys es1 sH eD f5 sub em => ?_
    · refine ⟨_, rfl, y, e, rfl, hy, ?_, fun H2 s3 => ⟨_, rfl, kR H2 s3⟩⟩
      unfold vdb
      rw [gt e he, Bool.or_true]
    refine tail_neD eD f5 (fun e he => gt e (sub e he)) fun H2 s2 => ⟨_, rfl, ?_⟩
    rw [em, Bool.not_not]
    have sA := (s1.trans sH).trans s2
    have k2 := k H2 sA
    unfold formB2 at k2
    rw [decide_eq_true hl, Bool.true_and] at k2
    have eN : (ds0.take m).any (fun e => !nameB e) = !(ds0.take m).all nameB := by
      rw [List.all_eq_not_any_not, Bool.not_not]
    rw [eN]
    have e3 : formB2 (m, kk) ds0 = ((ds0.take m).all nameB && (ds0.drop m).all wayB) := by
      unfold formB2
      rw [decide_eq_true hl, Bool.true_and]
    cases eA : (ds0.take m).all nameB with
    | false =>
      refine iteT ?_
      have k2' : Q (.bl ((ds0.take m).all nameB && (ds0.drop m).all wayB)) H2 := k2
      rw [eA] at k2'
      exact k2'
    | true =>
    have k2' : Q (.bl ((ds0.take m).all nameB && (ds0.drop m).all wayB)) H2 := k2
    rw [eA, Bool.true_and] at k2'
    refine iteF ?_
    refine ⟨_, rfl, rfl, _, rfl, ?_⟩
    by_cases hk : kk = 0
    · subst hk
      have e5 : ds0.drop m = [] := List.drop_eq_nil_of_le (by omega)
      rw [e5] at k2'
      exact iteT k2'
    have e4 : decide (V.int (kk : Int) = V.int 0) = false := decide_eq_false (by simp only [V.int.injEq]; omega)
    rw [e4]
    refine iteF ?_
    have f4' : kk ≤ 1 := f4
    have k1 : kk = 1 := by omega
    subst k1
    obtain ⟨eW, hW⟩ : ∃ e, ds0.drop m = [e] := by
      have : (ds0.drop m).length = 1 := by
        rw [List.length_drop, hl]
        omega
      match hd : ds0.drop m, this with
      | [e], _ => exact ⟨e, rfl⟩
    have hat0 : ds0[m]? = some eW := by
      have : (ds0.drop m)[0]? = some eW := by rw [hW]; rfl
      rw [List.getElem?_drop] at this
      simpa using this
    obtain ⟨vW, hvW, hqW⟩ := h1.f2.at' hat0
    have hat : atI (V.str wd :: vs0) (1 + (m : Int)) = some vW := by
      have e6 : (1 + (m : Int)) = ((m + 1 : Nat) : Int) := by omega
      rw [e6]
      exact at_nat hvW
    have hs2 : SqT K H2 a (V.str wd :: vs0) := seqT sA hs
    rw [hW] at k2'
    refine ⟨_, rfl, _, rfl, _, _, rfl, rfl, a, _, _, _, rfl, rfl, hs2, hat, vW, isI eW, isB eW, rfl, (hqW.same sA).kind, _, rfl, ?_⟩
    have k3 : Q (.bl (wayB eW)) H2 := by
      have : [eW].all wayB = wayB eW := by simp
      rw [this] at k2'
      exact k2'
    cases hqW with
    | int z =>
      refine iteT ?_
      have k4 : Q (.bl (decide (1 ≤ z) && decide (z ≤ 2))) H2 := k3
      refine ⟨_, rfl, _, rfl, _, _, rfl, rfl, a, _, _, _, rfl, rfl, hs2, hat, _, _, rfl, rfl, decide (1 ≤ z), rfl, ?_⟩
      cases eZ : decide (1 ≤ z) with
      | false =>
        rw [eZ] at k4
        exact iteF k4
      | true =>
        rw [eZ] at k4
        refine iteT ?_
        exact ⟨_, _, rfl, rfl, k4⟩
    | non => exact iteF k3
    | bl => exact iteF k3
    | str => exact iteF k3
    | lst => exact iteF k3
    | tup => exact iteF k3
    | dict => exact iteF k3
theorem scNeedD : FnScope ["deed"] ["deed"] (defScope sNeedD) := ⟨rfl, rfl, rfl, by decide +kernel, rfl, by decide +kernel, by decide +kernel⟩
theorem ok_needd (F : FnP K "need_deed" sNeedD f fd2) (KD : Fk P w K mg base CX0 2 "is_deed" fdD ["value"] (spDeed NOW)) (B : ExcT K mg "BadDeed" CD) : FnOk P w K mg base (L2.CX P w) 3 f fd2 ["deed"] (spNeedD NOW CD) := by
  refine F.ok scNeedD (fun vs H Q E h => ?_) (fun cdv A outer s H vs Q E hr h => ?_)
  · obtain ⟨x, d, rfl, _⟩ := h
    rfl
  · obtain ⟨x, d, rfl, hx, k⟩ := h
    refine ⟨_, pss_one (ps_if (pt_not (pt_val (pe_call KD.ok hr (by rfl) KD.g KD.kp KD.b .nil pass0 (pa_cons (pv 0) pa_nil)))) (pss_one (ps_raise rfl (takes_of rfl rfl rfl rfl) (pmk_own PySem.F.excBase_ValueError B.x B.g B.k (raises_own B.b B.t) rfl))) pss_nil), ?_⟩
    refine ⟨_, rfl, x, d, rfl, hx, fun H1 s1 => ⟨_, rfl, ?_⟩⟩
    rcases k with ⟨e, k⟩ | ⟨e, k⟩
    · rw [e]
      exact iteF (k H1 s1)
    · rw [e]
      exact iteT (k H1 s1)
theorem scTool : FnScope ["deed"] ["deed"] (defScope sTool) := ⟨rfl, rfl, rfl, by decide +kernel, rfl, by decide +kernel, by decide +kernel⟩
theorem ok_tool (F : FnP K "tool_of" sTool f fd2) (KD : Fk P w K mg base (L2.CX P w) 3 "need_deed" fdD ["deed"] (spNeedD NOW CD)) (W : Dct NOW K w mg) : FnOk P w K mg base (L2.CX P w) 4 f fd2 ["deed"] (spOfDeed NOW CD rTool) := by
  obtain ⟨po, es, n0, hpo, DO, atO⟩ := W.others
  refine F.ok scTool (fun vs H Q E h => ?_) (fun cdv A outer s H vs Q E hr h => ?_)
  · obtain ⟨x, d, rfl, _⟩ := h
    rfl
  · obtain ⟨x, d, rfl, hx, k⟩ := h
    refine ⟨_, pss_cons (ps_expr (pe_call KD.ok hr (by rfl) KD.g KD.kp KD.b .nil (passes_call (takes_of rfl rfl rfl rfl) fun _ _ _ _ h => h) (pa_cons (pv 0) pa_nil)))
      (PSs.nox (pss_one (ps_ret (pe_getK DO (pe_glob (v := .ref po) (by rfl) hpo rfl) (pa_cons (pe_ix ix_tup (pv 0) pe_int (fun _ _ => rfl)) (pa_cons (pe_ix ix_tup (pv 0) pe_int (fun _ _ => rfl)) pa_nil)))))), ?_⟩
    rcases k with ⟨dd, rfl, ok, k⟩ | ⟨e, k⟩
    rotate_left
    · exact ⟨_, rfl, x, d, rfl, hx, .inr ⟨e, k⟩⟩
    refine ⟨_, rfl, x, _, rfl, hx, .inl ⟨deedB_of ok, fun H1 s1 => ?_⟩⟩
    obtain ⟨a, rfl, _, ha⟩ := hx.1.deed
    have hs : SqT K H1 a dd.vs := SqT.of (s1 _ _ ha)
    obtain ⟨m, kk, hm, _⟩ := ok
    refine ⟨rfl, _, rfl, a, _, _, _, rfl, rfl, hs, deed_head dd, _, rfl, a, _, _, _, rfl, rfl, hs, deed_head dd, dd.word, .str dd.word, rfl, ?_⟩
    have q := k H1 s1
    unfold toolS at q
    rcases atO _ hm with ⟨z, u, e1, e2⟩ | ⟨e1, e2⟩
    · rw [e1] at q
      exact .inl ⟨_, .str z, e2, ⟨u, rfl⟩, q⟩
    · rw [e1] at q
      exact .inr ⟨e2, q⟩
theorem scNames : FnScope ["deed", "found", "name"] ["deed"] (defScope sNames) := ⟨rfl, rfl, rfl, by decide +kernel, rfl, by decide +kernel, by decide +kernel⟩
theorem once_step (ns : List Str) (i : Nat) (z : Str) (h : ns[i]? = some z) : once (ns.take (i + 1)) = if z ∈ once (ns.take i) then once (ns.take i) else once (ns.take i) ++ [z] := by
  unfold once
  rw [take_snoc h, List.foldl_append]
  rfl
theorem flat_strs (c : List Str) : (c.map V.str).all flatV = true := by
  rw [List.all_map, List.all_eq_true]
  intro _ _
  rfl
theorem ok_names (F : FnP K "names_of" sNames f fd2) (KD : Fk P w K mg base (L2.CX P w) 3 "need_deed" fdD ["deed"] (spNeedD NOW CD)) (T : Txt K mg) (W : Dct NOW K w mg) : FnOk P w K mg base (L2.CX P w) 4 f fd2 ["deed"] (spOfDeed NOW CD rNames) := by
  obtain ⟨pf, es, nE, hpf, DF, atF, _⟩ := W.forms
  refine F.ok scNames (fun vs H Q E h => ?_) (fun cdv A outer s H vs Q E hr h => ?_)
  · obtain ⟨x, d, rfl, _⟩ := h
    rfl
  · obtain ⟨x, d, rfl, hx, k⟩ := h
    refine ⟨_, pss_cons (ps_expr (pe_call KD.ok hr (by rfl) KD.g KD.kp KD.b .nil (passes_call (takes_of rfl rfl rfl rfl) fun _ _ _ _ h => h) (pa_cons (pv 0) pa_nil)))
      (PSs.nox (pss_cons (ps_set (i := 1) scNames.nd rfl (.inl rfl) (pe_lst pa_nil))
      (pss_cons (ps_for PassesOwn.never rfl (pi_tup (pe_slice sl_tup (pv 0) (po_some pe_int) (po_some (pe_op op_add pe_int (pe_ix ix_tup (pe_ix ix_kdict (pe_glob (v := .ref pf) (by rfl) hpf rfl) (pe_ix ix_tup (pv 0) pe_int (fun _ _ => rfl)) (fun _ _ => rfl)) pe_int (fun _ _ => rfl)))))) (pg_name (i := 2) scNames.nd rfl (Or.inl rfl))
        (pss_one (ps_if (pt_cmpR op_notIn_seq (pv 2) (pv 1) (by rfl)) (pss_one (ps_expr (pe_bm PySem.F.plainAttrs_list PySem.F.slot_list_append PySem.F.type_list_append mt_append (pv 1) (pa_cons (pv 2) pa_nil)))) pss_nil)))
      (pss_one (ps_ret (pe_tupleOf (by rfl) T.tuple (pv 1))))))), ?_⟩
    rcases k with ⟨d, rfl, ok, k⟩ | ⟨e, k⟩
    rotate_left
    · exact ⟨_, rfl, x, d, rfl, hx, .inr ⟨e, k⟩⟩
    refine ⟨_, rfl, x, _, rfl, hx, .inl ⟨deedB_of ok, fun H1 s1 => ?_⟩⟩
    obtain ⟨a, rfl, _, ha⟩ := hx.1.deed
    obtain ⟨m, kk, hm, nm, okN, _⟩ := id ok
    obtain ⟨q, hq, sq⟩ := atF _ hm
    obtain ⟨f1, f2, f3, f4⟩ := form_facts _ hm
    refine ⟨(by show 0 ≤ sizeLine; decide), fun l0 n0 => ?_⟩
    have s2 := same_upd (o := .lst []) n0
    generalize hH2 : L2.upd H1 l0 (.lst []) = H2 at s2
    have hl0 : H2 l0 = some (.lst []) := by rw [← hH2, upd_same]
    have hs : SqT K H2 a d.vs := SqT.of (s2 _ _ (s1 _ _ ha))
    refine ⟨_, rfl, _, rfl, _, rfl, a, _, _, _, rfl, rfl, hs, deed_head d, pf, d.word, .ref q, rfl, rfl, ⟨es, nE, _, DF.at_, DF.lit, hq, rfl⟩, q, _, _, _, rfl, rfl, sq H2, at_nat (k := 0) rfl, _, _, rfl, rfl, _, rfl, a, _, rfl, hs, deed_notwhole, fun p np => ?_⟩
    rw [deed_names nm]
    have s3 := same_upd (o := .tup (d.names.map V.str)) np
    have npl : l0 ≠ p := ne_of_none hl0 np
    generalize hH3 : L2.upd H2 p (.tup (d.names.map V.str)) = H3 at s3
    have hp : H3 p = some (.tup (d.names.map V.str)) := by rw [← hH3, upd_same]
    have hl3 := s3 _ _ hl0
    have low := (s1.trans s2).trans s3
    have lz : H l0 = none := s1.free n0
    refine ⟨p, rfl, ⟨_, SqT.of hp⟩, ?_⟩
    refine for_tup (K := K) (a := p) (xs := d.names.map V.str) (fun i σ G => ∃ v2, σ = [some (.ref a), some (.ref l0), v2] ∧ Kp [l0] H3 G ∧ G l0 = some (.lst ((once (d.names.take i)).map V.str))) ⟨none, rfl, Kp.refl _ _, hl3⟩ (fun i σ G _ ⟨_, _, kG, _⟩ => SqT.of (kG _ _ hp (by simp [npl.symm]))) ?_ ?_
    · rintro i y σ G hi ⟨v2, rfl, kG, gl⟩
      rw [List.getElem?_map] at hi
      cases ez : d.names[i]? with
      | none => rw [ez] at hi; cases hi
      | some z =>
        rw [ez] at hi
        cases hi
        refine ⟨_, rfl, _, rfl, l0, _, rfl, .inl (SqL.of gl), rfl, flat_strs _, _, rfl, ?_⟩
        rw [inV_str]
        have eo := once_step d.names i z ez
        by_cases hz : z ∈ once (d.names.take i)
        · rw [if_pos hz] at eo
          rw [decide_eq_true hz]
          refine iteF ?_
          exact ⟨_, rfl, kG, by rw [eo]; exact gl⟩
        · rw [if_neg hz] at eo
          rw [decide_eq_false hz]
          refine iteT ?_
          have len : (once (d.names.take i)).length ≤ 5 := by
            have h1 := once_len (d.names.take i) []
            have h2 : (d.names.take i).length ≤ 5 := by
              rw [List.length_take, nm]
              have f3' : m ≤ 5 := f3
              omega
            have h3 : ([] : List Str).length = 0 := rfl
            unfold once
            omega
          refine ⟨_, rfl, .inl ⟨rfl, _, .inl (.inl gl)⟩, _, rfl, l0, _, _, rfl, rfl, gl, by rw [List.length_map]; exact Nat.lt_of_le_of_lt len (by decide), ?_⟩
          refine ⟨_, rfl, kG.trans (Kp.upd (by simp)), ?_⟩
          rw [upd_same, eo, List.map_append]
          rfl
    · rintro σ G ⟨v2, rfl, kG, gl⟩
      rw [List.length_map, List.take_length] at gl
      refine ⟨_, rfl, .inl ⟨l0, _, rfl, SqL.of gl, fun r nr => ?_⟩⟩
      have s4 := same_upd (o := .tup ((once d.names).map V.str)) nr
      have hr0 : H r = none := by
        cases e : H r with
        | none => rfl
        | some o =>
          have : r ≠ l0 := fun z => by rw [z, lz] at e; cases e
          have := kG _ _ (low _ _ e) (by simp [this])
          rw [nr] at this
          cases this
      refine k r _ (fun b o e => s4 _ _ (kG _ _ (low _ _ e) ?_)) hr0 upd_same
      have : b ≠ l0 := fun z => by rw [z, lz] at e; cases e
      simp [this]
end
end Own
set_option Elab.async false
set_option linter.all false
set_option maxRecDepth 100000
set_option maxHeartbeats 400000
namespace Own
open PySem PySem.Spec PyProof.Rows L2 LamX
/-! ### the sheet: towers and numbers -/
theorem pe_never {X : Cx} {e : Expr} : PE X e fun _ _ _ => False := ⟨fun _ _ _ _ _ _ h => h.elim⟩
theorem pt_never {X : Cx} {e : Expr} : PT X e fun _ _ _ => False := ⟨fun _ _ _ _ _ _ h => h.elim⟩
def clsBody (s : Stmt) : List Stmt := match s with
  | .ClassDef _ _ _ b _ _ _ _ _ _ _ => b
  | _ => []
abbrev sTowI : Stmt := (clsBody cTower).getD 0 (.Pass ⟨0, 0, 0, 0⟩)
abbrev sNumI : Stmt := (clsBody cNumber).getD 0 (.Pass ⟨0, 0, 0, 0⟩)
/-- what the walk asks of the two classes -/
structure Obj2 (K : PySem.W.Frag) (mg : Str → Option Value) (CT CN fT fN pE : Addr) (dT dN : FuncData) : Prop where
  gT : mg "Tower" = some (.ref CT)
  gN : mg "Number" = some (.ref CN)
  kT : Mk K CT fT
  kN : Mk K CN fN
  iT : C8.InsC K CT
  cN : Cls K CN
  iN : C8.InsC K CN
  intN : PySem.W.kitOne K (.type "int") (.ref CN) = some false
  n1 : NoAttr K CT "rows"
  n2 : NoAttr K CT "squares"
  n3 : NoAttr K CN "tower"
  n4 : NoAttr K CN "vector"
  eE : ∃ o, K.lookup pE = some o ∧ o.cls = .type "tuple"
  sE : ∀ H, SqT K H pE []
  most : ∃ t, mg "MOST" = some (.int 6 t)
  FT : FunD K "__init__" "Tower.__init__" (defArgs sTowI) (defBody sTowI) (defScope sTowI) [.ref pE, .non] [] fT dT
  FN : FunD K "__init__" "Number.__init__" (defArgs sNumI) (defBody sNumI) (defScope sNumI) [.non] [] fN dN
def spRows (pE : Addr) : Sp := fun vs H Q _ => vs = [.ref pE] ∧ ∀ p H', Same H H' → H p = none → H' p = some (.tup []) → Q (.ref p) H'
def spTowI (CT pE : Addr) : Sp := fun vs H Q _ => ∃ (x dx : Addr), vs = [.ref x, .ref pE, .non] ∧ H x = some (.ins CT dx []) ∧ ∀ H' fs, Kp [x] H H' → H' x = some (.ins CT dx fs) → Q .non H'
def spNeedT (CT : Addr) : Sp := fun vs H Q _ => ∃ (x dx : Addr) (fs : List (Str × V)), vs = [.ref x] ∧ H x = some (.ins CT dx fs) ∧ Q .non H
def spLowest : Sp := fun vs H Q _ => ∃ (v ws : Addr) (n : Int), vs = [.ref v] ∧ H v = some (.tup [.ref ws, .int 1]) ∧ H ws = some (.tup [.int n]) ∧ Q (.ref v) H
def spNumI (CT CN : Addr) : Sp := fun vs H Q _ => ∃ (x dx t dt : Addr) (fs : List (Str × V)) (pp v ws : Addr) (n : Int), vs = [.ref x, .ref t, pp |> V.ref, .ref v] ∧ H x = some (.ins CN dx []) ∧ H t = some (.ins CT dt fs) ∧ H v = some (.tup [.ref ws, .int 1]) ∧ H ws = some (.tup [.int n]) ∧
  ∀ H' fs', Kp [x] H H' → H' x = some (.ins CN dx fs') → Q .non H'
def spFrac (CN : Addr) : Sp := fun vs H Q _ => ∃ n : Int, vs = [.int n, .int 1] ∧ ∀ p dx fs H', Same H H' → H' p = some (.ins CN dx fs) → Q (.ref p) H'
def SHEET : List Str := "o" :: "u" :: "uu" :: "v" :: "vv" :: []
/-- a pair of Numbers -/
def PointV (CN : Addr) (H : Hp) (v : V) : Prop := ∃ t a b da fa db fb, v = .ref t ∧ H t = some (.tup [.ref a, .ref b]) ∧ H a = some (.ins CN da fa) ∧ H b = some (.ins CN db fb)
theorem PointV.same {CN : Addr} {H H' : Hp} {v : V} (h : PointV CN H v) (e : Same H H') : PointV CN H' v := by
  obtain ⟨t, a, b, da, fa, db, fb, rfl, h1, h2, h3⟩ := h
  exact ⟨t, a, b, da, fa, db, fb, rfl, e _ _ h1, e _ _ h2, e _ _ h3⟩
def spSheet (CN : Addr) : Sp := fun vs H Q _ => vs = [] ∧ ∀ d ws H', Same H H' → H d = none → ws.length = 5 → H' d = some (.dK ((SHEET.map Sum.inr).zip ws)) → (∀ v ∈ ws, PointV CN H' v) → Q (.ref d) H'
section
variable {P : Program} {w : World} {K : PySem.W.Frag} {mg : Str → Option Value} {base : Heap} {f fR fI fW fL fNd CT CN fT fN pE : Addr} {fd2 fdR fdI fdW fdL dT dN fdNd : FuncData}
theorem scRows : FnScope ["squares", "rows", "at", "parts", "vector"] ["squares"] (defScope sRowsOf) := ⟨rfl, rfl, rfl, by decide +kernel, rfl, by decide +kernel, by decide +kernel⟩
theorem ok_rows (F : FnP K "rows_of" sRowsOf f fd2) (T : Txt K mg) (O : Obj2 K mg CT CN fT fN pE dT dN) : FnOk P w K mg base CX0 1 f fd2 ["squares"] (spRows pE) := by
  obtain ⟨tm, hm⟩ := O.most
  obtain ⟨oE, eE, cE⟩ := O.eE
  refine F.ok scRows (fun vs H Q E h => ?_) (fun cdv A outer s H vs Q E hr h => ?_)
  · obtain ⟨rfl, _⟩ := h
    rfl
  · obtain ⟨rfl, k⟩ := h
    refine ⟨_, PSs.nox (pss_cons (ps_if (PW.pt (pw_or (pt_not (pt_val (pe_callB call_isi (by rfl) T.isi boot_isinstance (pa_cons (pv 0) (pa_cons (pe_bltn (v := .ty "tuple") (by rfl) T.tuple (by decide +kernel) rfl) pa_nil)))))
        (pw_or1 (pt_cmpR op_gt (pe_callB call_len_seq (by rfl) T.len PySem.boot_len (pa_cons (pv 0) pa_nil)) (pe_glob (v := .int 6) (by rfl) hm ⟨_, rfl⟩) (nomark _))))) pss_never pss_nil)
      (pss_cons (ps_set (i := 1) scRows.nd rfl (.inl rfl) (pe_tup pa_nil))
      (pss_cons (ps_for PassesOwn.never rfl (pi_enumS (by rfl) T.enum (pa_cons (pv 0) pa_nil)) (pg_tup rfl (pgs_cons (pg_name (i := 2) scRows.nd rfl (.inl rfl)) (pgs_cons (pg_name (i := 3) scRows.nd rfl (.inl rfl)) pgs_nil))) pss_never)
      (pss_one (ps_ret (pv 1)))))), ?_⟩
    refine ⟨_, rfl, .ref pE, .ty "tuple", .type "tuple", .type "tuple", true, rfl, .ty _, .kTuple eE cE, kit_ty (by decide +kernel), true, rfl, ?_⟩
    refine iteF ?_
    refine ⟨_, rfl, pE, _, rfl, .inr (O.sE H), _, _, rfl, rfl, _, rfl, ?_⟩
    refine iteF ?_
    refine ⟨(by show 0 ≤ sizeLine; decide), fun p np => ?_⟩
    have s1 := same_upd (o := .tup []) np
    refine ⟨_, rfl, pE, rfl, .inr ⟨_, O.sE _, ?_⟩⟩
    refine for_it walk_enumT (fun i σ G => σ = [some (.ref pE), some (.ref p), none, none, none] ∧ G = L2.upd H p (.tup [])) ⟨rfl, rfl⟩ (fun i σ G _ q => O.sE G) (fun i x σ G H' hi => absurd hi (Nat.not_lt_zero _)) ?_
    rintro σ G ⟨rfl, rfl⟩
    exact ⟨_, rfl, k p _ s1 np upd_same⟩
theorem scTowI : FnScope ["self", "squares", "known"] ["self", "squares", "known"] (defScope sTowI) := ⟨rfl, rfl, rfl, by decide +kernel, rfl, by decide +kernel, by decide +kernel⟩
theorem ok_towI (FR : FnP K "rows_of" sRowsOf fR fdR) (gR : mg "rows_of" = some (.ref fR)) (T : Txt K mg) (O : Obj2 K mg CT CN fT fN pE dT dN) : FnOk P w K mg base CX0 2 fT dT ["self", "squares", "known"] (spTowI CT pE) := by
  have GR : FnOk P w K mg base CX0 1 fR fdR ["squares"] (spRows pE) := ok_rows FR T O
  have bR : Binds K fdR ["squares"] [] := FR.bindsN fun _ _ _ _ _ _ us hl => match us, hl with | [_], _ => rfl
  refine O.FT.ok scTowI (fun vs H Q E h => ?_) (fun cdv A outer s H vs Q E hr h => ?_)
  · obtain ⟨x, dx, rfl, _⟩ := h
    rfl
  · obtain ⟨x, dx, rfl, hx, k⟩ := h
    refine ⟨_, PSs.nox (pss_cons (ps_fld (pv 0) (pe_ifExp (pt_cmpR op_isN (pv 2) pe_non (nomark _)) (pe_call GR hr (by rfl) gR FR.kp bR .nil pass0 (pa_cons (pv 1) pa_nil)) pe_never) rfl)
      (pss_one (ps_fld (pv 0) (pv 1) rfl))), ?_⟩
    refine ⟨_, rfl, rfl, _, rfl, ?_⟩
    refine iteT ?_
    refine ⟨_, rfl, rfl, fun p H1 s1 np hp => ?_⟩
    refine ⟨_, rfl, x, CT, dx, _, rfl, s1 _ _ hx, O.iT.cl, O.n1, by decide, ?_⟩
    refine ⟨_, rfl, _, rfl, x, CT, dx, _, rfl, upd_same, O.iT.cl, O.n2, by show (1 : Nat) < 1000; decide, ?_⟩
    refine k _ _ (((Kp.of s1).trans (Kp.upd (by simp))).trans (Kp.upd (by simp))) upd_same
theorem scNeedT : FnScope ["value"] ["value"] (defScope sNeedT) := ⟨rfl, rfl, rfl, by decide +kernel, rfl, by decide +kernel, by decide +kernel⟩
theorem ok_needt (F : FnP K "need_tower" sNeedT f fd2) (T : Txt K mg) (O : Obj2 K mg CT CN fT fN pE dT dN) : FnOk P w K mg base CX0 1 f fd2 ["value"] (spNeedT CT) := by
  refine F.ok scNeedT (fun vs H Q E h => ?_) (fun cdv A outer s H vs Q E hr h => ?_)
  · obtain ⟨x, dx, fs, rfl, _⟩ := h
    rfl
  · obtain ⟨x, dx, fs, rfl, hx, k⟩ := h
    refine ⟨_, PSs.nox (pss_one (ps_if (pt_not (pt_val (pe_callB (C8.call_isC O.iT) (by rfl) T.isi boot_isinstance (pa_cons (pv 0) (pa_cons (pe_glob (v := .ref CT) (by rfl) O.gT rfl) pa_nil))))) pss_never pss_nil)), ?_⟩
    refine ⟨_, rfl, x, dx, fs, rfl, hx, _, rfl, ?_⟩
    exact iteF k
theorem scLowest : FnScope ["vector", "wholes", "both", "whole"] ["vector"] (defScope sLowest) := ⟨rfl, rfl, rfl, by decide +kernel, rfl, by decide +kernel, by decide +kernel⟩
theorem ok_lowest (F : FnP K "vec_lowest" sLowest f fd2) : FnOk P w K mg base CX0 1 f fd2 ["vector"] spLowest := by
  refine F.ok scLowest (fun vs H Q E h => ?_) (fun cdv A outer s H vs Q E hr h => ?_)
  · obtain ⟨v, ws, n, rfl, _⟩ := h
    rfl
  · obtain ⟨v, ws, n, rfl, hv, hw, k⟩ := h
    refine ⟨_, PSs.nox (pss_cons (ps_asg (pv 0) (pg_tup rfl (pgs_cons (pg_name (i := 1) scLowest.nd rfl (.inl rfl)) (pgs_cons (pg_name (i := 2) scLowest.nd rfl (.inr rfl)) pgs_nil))))
      (pss_cons (ps_for PassesOwn.never rfl (pi_tup (pv 1)) (pg_name (i := 3) scLowest.nd rfl (Or.inl rfl)) (pss_cons (ps_if (pt_cmpR op_eq (pv 2) pe_int (nomark _)) (pss_one (ps_ret (pv 0))) pss_nil) pss_never)) pss_never)), ?_⟩
    refine ⟨_, rfl, v, _, rfl, SqT.of hv, rfl, _, _, rfl, _, _, rfl, rfl, ?_⟩
    refine ⟨_, rfl, ws, rfl, ⟨_, SqT.of hw⟩, ?_⟩
    refine for_tup (K := K) (a := ws) (xs := [V.int n]) (fun i σ G => i = 0 ∧ G = H ∧ σ = [some (.ref v), some (.ref ws), some (.int 1), none]) ⟨rfl, rfl, rfl⟩ (fun i σ G _ q => by rw [q.2.1]; exact SqT.of hw) ?_ ?_
    · rintro i y σ G hi ⟨rfl, rfl, rfl⟩
      cases hi
      refine ⟨_, rfl, rfl, _, rfl, ?_⟩
      refine iteT ?_
      exact ⟨_, rfl, k⟩
    · rintro σ G ⟨h0, _⟩
      cases h0
theorem scNumI : FnScope ["self", "tower", "parts", "known"] ["self", "tower", "parts", "known"] (defScope sNumI) := ⟨rfl, rfl, rfl, by decide +kernel, rfl, by decide +kernel, by decide +kernel⟩
theorem ok_numI (FW : FnP K "need_tower" sNeedT fW fdW) (FL : FnP K "vec_lowest" sLowest fL fdL) (gW : mg "need_tower" = some (.ref fW)) (gL : mg "vec_lowest" = some (.ref fL)) (T : Txt K mg) (O : Obj2 K mg CT CN fT fN pE dT dN) :
    FnOk P w K mg base CX0 2 fN dN ["self", "tower", "parts", "known"] (spNumI CT CN) := by
  have GW : FnOk P w K mg base CX0 1 fW fdW ["value"] (spNeedT CT) := ok_needt FW T O
  have bW : Binds K fdW ["value"] [] := FW.bindsN fun _ _ _ _ _ _ us hl => match us, hl with | [_], _ => rfl
  have GL : FnOk P w K mg base CX0 1 fL fdL ["vector"] spLowest := ok_lowest FL
  have bL : Binds K fdL ["vector"] [] := FL.bindsN fun _ _ _ _ _ _ us hl => match us, hl with | [_], _ => rfl
  refine O.FN.ok scNumI (fun vs H Q E h => ?_) (fun cdv A outer s H vs Q E hr h => ?_)
  · obtain ⟨x, dx, t, dt, fs, pp, v, ws, n, rfl, _⟩ := h
    rfl
  · obtain ⟨x, dx, t, dt, fs, pp, v, ws, n, rfl, hx, ht, hv, hw, k⟩ := h
    refine ⟨_, PSs.nox (pss_cons (ps_expr (pe_call GW hr (by rfl) gW FW.kp bW .nil pass0 (pa_cons (pv 1) pa_nil)))
      (pss_cons (ps_if (PW.pt (pw_and (pt_cmpR op_isN (pv 3) pe_non (nomark _)) (pw_and1 pt_never))) pss_never pss_nil)
      (pss_cons (ps_fld (pv 0) (pv 1) rfl)
      (pss_one (ps_fld (pv 0) (pe_ifExp (pt_cmpR op_isN (pv 3) pe_non (nomark _)) pe_never (pe_call GL hr (by rfl) gL FL.kp bL .nil pass0 (pa_cons (pv 3) pa_nil))) rfl))))), ?_⟩
    refine ⟨_, rfl, t, dt, fs, rfl, ht, ?_⟩
    refine ⟨_, rfl, rfl, _, rfl, ?_⟩
    refine iteF ?_
    refine iteF ?_
    refine ⟨_, rfl, _, rfl, x, CN, dx, _, rfl, hx, O.cN, O.n3, by decide, ?_⟩
    have nv : v ≠ x := ne_of hv hx (by intro z; cases z)
    have nw : ws ≠ x := ne_of hw hx (by intro z; cases z)
    refine ⟨_, rfl, rfl, _, rfl, ?_⟩
    refine iteF ?_
    refine ⟨_, rfl, v, ws, n, rfl, by rw [upd_ne nv]; exact hv, by rw [upd_ne nw]; exact hw, ?_⟩
    refine ⟨_, rfl, x, CN, dx, _, rfl, upd_same, O.cN, O.n4, by show (1 : Nat) < 1000; decide, ?_⟩
    exact k _ _ ((Kp.upd (by simp)).trans (Kp.upd (by simp))) upd_same
theorem scFrac : FnScope ["n", "d"] ["n", "d"] (defScope sFrac) := ⟨rfl, rfl, rfl, by decide +kernel, rfl, by decide +kernel, by decide +kernel⟩
/-- a new instance, made: all is as it was -/
theorem made_same {H H' : Hp} {x dx C : Addr} (nx : H x = none) (ndx : H dx = none) (ne : dx ≠ x) (k : Kp [x] (L2.upd (L2.upd H dx (.own x)) x (.ins C dx [])) H') : Same H H' := fun b o e => by
  have n1 : b ≠ x := ne_of_none e nx
  have n2 : b ≠ dx := ne_of_none e ndx
  refine k b o ?_ (by simp [n1])
  rw [upd_ne n1, upd_ne n2]
  exact e
theorem ok_frac (F : FunD K "fraction" "fraction" (defArgs sFrac) (defBody sFrac) (defScope sFrac) [.int 1] [] f fd2) (FI : FnP K "is_whole" sWhole fI fdI) (FR : FnP K "rows_of" sRowsOf fR fdR) (FW : FnP K "need_tower" sNeedT fW fdW) (FL : FnP K "vec_lowest" sLowest fL fdL)
    (gI : mg "is_whole" = some (.ref fI)) (gR : mg "rows_of" = some (.ref fR)) (gW : mg "need_tower" = some (.ref fW)) (gL : mg "vec_lowest" = some (.ref fL)) (T : Txt K mg) (O : Obj2 K mg CT CN fT fN pE dT dN) :
    FnOk P w K mg base CX0 4 f fd2 ["n", "d"] (spFrac CN) := by
  have GI : FnOk P w K mg base CX0 1 fI fdI ["value"] (spWhole K) := ok_whole FI T
  have bI : Binds K fdI ["value"] [] := FI.bindsN fun _ _ _ _ _ _ us hl => match us, hl with | [_], _ => rfl
  have GT : FnOk P w K mg base CX0 2 fT dT ["self", "squares", "known"] (spTowI CT pE) := ok_towI FR gR T O
  have GN : FnOk P w K mg base CX0 2 fN dN ["self", "tower", "parts", "known"] (spNumI CT CN) := ok_numI FW FL gW gL T O
  obtain ⟨dsT, vT, bT⟩ := O.FT.binds1 (ps := ["self", "squares", "known"]) 1 0 (by simp) rfl fun T kV doc pm an cdv ct us its l1 l2 => match us, its, l1, l2 with | [_], [_, _], _, _ => ⟨_, rfl, rfl⟩
  obtain ⟨dsN, vN, bN⟩ := O.FN.binds1 (ps := ["self", "tower", "parts", "known"]) 4 1 (by simp) rfl fun T kV doc pm an cdv ct us its l1 l2 => match us, its, l1, l2 with | [_, _, _, _], [_], _, _ => ⟨_, rfl, rfl⟩
  refine F.ok scFrac (fun vs H Q E h => ?_) (fun cdv A outer s H vs Q E hr h => ?_)
  · obtain ⟨n, rfl, _⟩ := h
    rfl
  · obtain ⟨n, rfl, k⟩ := h
    have hr1 := hr.mono (show 1 ≤ 3 by decide)
    refine ⟨_, PSs.nox (pss_cons (ps_if (PW.pt (pw_or (pt_not (pt_val (pe_call GI hr1 (by rfl) gI FI.kp bI .nil pass0 (pa_cons (pv 0) pa_nil)))) (pw_or (pt_not (pt_val (pe_call GI hr1 (by rfl) gI FI.kp bI .nil pass0 (pa_cons (pv 1) pa_nil))))
        (pw_or1 (pt_cmpR op_lt (pv 1) pe_int (nomark _)))))) pss_never pss_nil)
      (pss_one (ps_ret (pe_make O.kN GN hr (by rfl) O.gN bN vN pass0 (pa_cons (pe_make0 O.kT GT hr (by rfl) O.gT bT vT pass0) (pa_cons (pe_tup pa_nil) (pa_cons (pe_tup (pa_cons (pe_tup (pa_cons (pv 0) pa_nil)) (pa_cons (pv 1) pa_nil))) pa_nil))))))), ?_⟩
    refine ⟨_, rfl, .int n, true, false, rfl, Kind.int n, _, rfl, ?_⟩
    refine iteF ?_
    refine ⟨_, rfl, .int 1, true, false, rfl, Kind.int 1, _, rfl, ?_⟩
    refine iteF ?_
    refine ⟨_, rfl, _, _, rfl, rfl, _, rfl, ?_⟩
    refine iteF ?_
    intro x dx nx ndx ne
    refine ⟨x, dx, rfl, upd_same, fun H1 fs1 k1 h1 => ⟨rfl, ?_⟩⟩
    have s1 := made_same nx ndx ne k1
    refine ⟨(by show 0 ≤ sizeLine; decide), fun pp npp => ?_⟩
    have s2 := same_upd (o := .tup []) npp
    refine ⟨_, rfl, (by show 1 ≤ sizeLine; decide), fun ws nws => ⟨_, rfl, (by show 2 ≤ sizeLine; decide), fun v nv => ?_⟩⟩
    have s3 := same_upd (o := .tup [.int n]) nws
    have s4 := same_upd (o := .tup [.ref ws, .int 1]) nv
    intro y dy ny ndy ne2
    have keep : ∀ {b : Addr} {o : HO} {H0 : Hp}, H0 b = some o → H0 y = none → H0 dy = none → (L2.upd (L2.upd H0 dy (.own y)) y (.ins CN dy [])) b = some o := fun {b o H0} e n1 n2 => by
      rw [upd_ne (ne_of_none e n1), upd_ne (ne_of_none e n2)]
      exact e
    refine ⟨y, dy, x, dx, fs1, pp, v, ws, n, rfl, upd_same, keep (s4 _ _ (s3 _ _ (s2 _ _ h1))) ny ndy, keep upd_same ny ndy, keep (s4 _ _ upd_same) ny ndy, fun H2 fs2 k2 h2 => ⟨rfl, ?_⟩⟩
    exact k y dy fs2 H2 ((((s1.trans s2).trans s3).trans s4).trans (made_same ny ndy ne2 k2)) h2
theorem scSheet : FnScope ["zero", "one", "two"] [] (defScope sSheet) := ⟨rfl, rfl, rfl, by decide +kernel, rfl, by decide +kernel, by decide +kernel⟩
theorem ok_sheet (F : FnP K "sheet" sSheet f fd2) {fF : Addr} {fdF : FuncData} (FF : FunD K "fraction" "fraction" (defArgs sFrac) (defBody sFrac) (defScope sFrac) [.int 1] [] fF fdF) (FI : FnP K "is_whole" sWhole fI fdI) (FR : FnP K "rows_of" sRowsOf fR fdR) (FW : FnP K "need_tower" sNeedT fW fdW) (FL : FnP K "vec_lowest" sLowest fL fdL)
    (gF : mg "fraction" = some (.ref fF)) (gI : mg "is_whole" = some (.ref fI)) (gR : mg "rows_of" = some (.ref fR)) (gW : mg "need_tower" = some (.ref fW)) (gL : mg "vec_lowest" = some (.ref fL)) (T : Txt K mg) (O : Obj2 K mg CT CN fT fN pE dT dN) :
    FnOk P w K mg base CX0 5 f fd2 [] (spSheet CN) := by
  have GF : FnOk P w K mg base CX0 4 fF fdF ["n", "d"] (spFrac CN) := ok_frac FF FI FR FW FL gI gR gW gL T O
  obtain ⟨ds, vD, bF⟩ := FF.binds1 (ps := ["n", "d"]) 1 0 (by simp) rfl fun T kV doc pm an cdv ct us its l1 l2 => match us, its, l1, l2 with | [_], [_], _, _ => ⟨_, rfl, rfl⟩
  refine F.ok scSheet (fun vs H Q E h => ?_) (fun cdv A outer s H vs Q E hr h => ?_)
  · obtain ⟨rfl, _⟩ := h
    rfl
  · obtain ⟨rfl, k⟩ := h
    refine ⟨_, PSs.nox (pss_cons (ps_par3 (i := 0) (j := 1) (l := 2) rfl scSheet.nd rfl rfl rfl (by decide) (by decide) (by decide) rfl rfl rfl (pa_cons (pe_call GF hr (by rfl) gF FF.kp bF vD pass0 (pa_cons pe_int pa_nil)) (pa_cons (pe_call GF hr (by rfl) gF FF.kp bF vD pass0 (pa_cons pe_int pa_nil)) (pa_cons (pe_call GF hr (by rfl) gF FF.kp bF vD pass0 (pa_cons pe_int pa_nil)) pa_nil))) rfl)
      (pss_one (ps_ret (pe_disp (pps_cons pe_str (pe_tup (pa_cons (pv 0) (pa_cons (pv 0) pa_nil))) (pps_cons pe_str (pe_tup (pa_cons (pv 1) (pa_cons (pv 0) pa_nil))) (pps_cons pe_str (pe_tup (pa_cons (pv 2) (pa_cons (pv 0) pa_nil)))
        (pps_cons pe_str (pe_tup (pa_cons (pv 0) (pa_cons (pv 1) pa_nil))) (pps_cons pe_str (pe_tup (pa_cons (pv 0) (pa_cons (pv 2) pa_nil))) pps_nil))))) (by rfl) (by rfl) (fun z => by cases z) (by decide))))), ?_⟩
    refine ⟨0, rfl, fun v0 x0 f0 H1 s1 i0 => ⟨1, rfl, fun v1 x1 f1 H2 s2 i1 => ⟨2, rfl, fun v2 x2 f2 H3 s3 i2 => ⟨_, _, _, rfl, ?_⟩⟩⟩⟩
    intro d nd
    have two : (2 : Nat) ≤ sizeLine := by decide
    refine ⟨_, rfl, _, rfl, two, fun t1 n1 => ⟨_, rfl, _, rfl, two, fun t2 n2 => ⟨_, rfl, _, rfl, two, fun t3 n3 => ⟨_, rfl, _, rfl, two, fun t4 n4 => ⟨_, rfl, _, rfl, two, fun t5 n5 => ?_⟩⟩⟩⟩⟩
    have e0 := same_upd (o := .dK []) nd
    have e1 := same_upd (o := .tup [.ref v0, .ref v0]) n1
    have e2 := same_upd (o := .tup [.ref v1, .ref v0]) n2
    have e3 := same_upd (o := .tup [.ref v2, .ref v0]) n3
    have e4 := same_upd (o := .tup [.ref v0, .ref v1]) n4
    have e5 := same_upd (o := .tup [.ref v0, .ref v2]) n5
    have all := (((e1.trans e2).trans e3).trans e4).trans e5
    refine ⟨all _ _ upd_same, (SHEET.map Sum.inr).zip [.ref t1, .ref t2, .ref t3, .ref t4, .ref t5], rfl, by show 5 ≤ 15; decide, ?_⟩
    have al0 : Same H3 (L2.upd (L2.upd (L2.upd (L2.upd (L2.upd (L2.upd H3 d (.dK [])) t1 (.tup [.ref v0, .ref v0])) t2 (.tup [.ref v1, .ref v0])) t3 (.tup [.ref v2, .ref v0])) t4 (.tup [.ref v0, .ref v1])) t5 (.tup [.ref v0, .ref v2])) := e0.trans all
    have j0 := al0 _ _ (s3 _ _ (s2 _ _ i0))
    have j1 := al0 _ _ (s3 _ _ i1)
    have j2 := al0 _ _ i2
    have g1 := (((e2.trans e3).trans e4).trans e5) _ _ (upd_same (a := t1) (o := .tup [V.ref v0, .ref v0]))
    have g2 := ((e3.trans e4).trans e5) _ _ (upd_same (a := t2) (o := .tup [V.ref v1, .ref v0]))
    have g3 := (e4.trans e5) _ _ (upd_same (a := t3) (o := .tup [V.ref v2, .ref v0]))
    have g4 := e5 _ _ (upd_same (a := t4) (o := .tup [V.ref v0, .ref v1]))
    have g5 := upd_same (H := L2.upd (L2.upd (L2.upd (L2.upd (L2.upd H3 d (.dK [])) t1 (.tup [.ref v0, .ref v0])) t2 (.tup [.ref v1, .ref v0])) t3 (.tup [.ref v2, .ref v0])) t4 (.tup [.ref v0, .ref v1])) (a := t5) (o := .tup [V.ref v0, .ref v2])
    have gd := all _ _ (upd_same (H := H3) (a := d) (o := .dK []))
    have freeH := ((s1.trans s2).trans s3).free nd
    generalize L2.upd (L2.upd (L2.upd (L2.upd (L2.upd (L2.upd H3 d (.dK [])) t1 (.tup [.ref v0, .ref v0])) t2 (.tup [.ref v1, .ref v0])) t3 (.tup [.ref v2, .ref v0])) t4 (.tup [.ref v0, .ref v1])) t5 (.tup [.ref v0, .ref v2]) = G at al0 j0 j1 j2 g1 g2 g3 g4 g5 gd
    have off : ∀ {b : Addr} {o : HO} (oo : HO), G b = some o → (∀ kvs, o ≠ .dK kvs) → (L2.upd G d oo) b = some o := fun {b o} oo h n => by
      rw [upd_ne (ne_of h gd (n _))]
      exact h
    refine k d [.ref t1, .ref t2, .ref t3, .ref t4, .ref t5] _ (((s1.trans s2).trans s3).trans fun b o e => ?_) freeH rfl ?_ fun v hv => ?_
    · rw [upd_ne (ne_of_none e nd)]
      exact al0 _ _ e
    · rw [upd_same]
      kernel_rfl
    · simp only [List.mem_cons, List.not_mem_nil, or_false] at hv
      rcases hv with rfl | rfl | rfl | rfl | rfl
      · exact ⟨_, _, _, _, _, _, _, rfl, off _ g1 (fun _ z => by cases z), (off _ j0 fun _ z => by cases z), (off _ j0 fun _ z => by cases z)⟩
      · exact ⟨_, _, _, _, _, _, _, rfl, off _ g2 (fun _ z => by cases z), (off _ j1 fun _ z => by cases z), (off _ j0 fun _ z => by cases z)⟩
      · exact ⟨_, _, _, _, _, _, _, rfl, off _ g3 (fun _ z => by cases z), (off _ j2 fun _ z => by cases z), (off _ j0 fun _ z => by cases z)⟩
      · exact ⟨_, _, _, _, _, _, _, rfl, off _ g4 (fun _ z => by cases z), (off _ j0 fun _ z => by cases z), (off _ j1 fun _ z => by cases z)⟩
      · exact ⟨_, _, _, _, _, _, _, rfl, off _ g5 (fun _ z => by cases z), (off _ j0 fun _ z => by cases z), (off _ j2 fun _ z => by cases z)⟩
end
end Own
set_option Elab.async false
set_option linter.all false
set_option maxRecDepth 100000
set_option maxHeartbeats 1000000
namespace Own
open PySem PySem.Spec PyProof.Rows L2 LamX
/-! ### vectors with one whole: n over d -/
def VQ (H : Hp) (p : Addr) (n : Int) (d : Nat) : Prop := ∃ ws, H p = some (.tup [.ref ws, .int (d : Int)]) ∧ H ws = some (.tup [.int n])
theorem VQ.same {H H' : Hp} {p : Addr} {n : Int} {d : Nat} (h : VQ H p n d) (e : Same H H') : VQ H' p n d := by
  obtain ⟨ws, h1, h2⟩ := h
  exact ⟨ws, e _ _ h1, e _ _ h2⟩
theorem VQ.new {H : Hp} {ws p : Addr} {n : Int} {d : Nat} (n1 : H ws = none) (n2 : (L2.upd H ws (.tup [.int n])) p = none) : VQ (L2.upd (L2.upd H ws (.tup [.int n])) p (.tup [.ref ws, .int (d : Int)])) p n d :=
  ⟨ws, upd_same, same_upd n2 _ _ upd_same⟩
/-- so great a number may stand in the sums of the walk -/
def Fit (b : Nat) (q : Rat) : Prop := q.num.natAbs < 2 ^ b ∧ q.den < 2 ^ b
theorem log_lt {n b : Nat} (h : n < 2 ^ b) (hb : 0 < b) : n.log2 < b := by
  by_cases h0 : n = 0
  · subst h0
    simpa using hb
  · exact (Nat.log2_lt h0).mpr h
theorem walk_zipT {K : PySem.W.Frag} {a b : Addr} {xs ys : List V} {n : Nat} (hn : n = min xs.length ys.length) : Walk (RZ.ItzT K a b) n (fun H => SqT K H a xs ∧ SqT K H b ys) (YPair (fun i => xs[i]?) (fun i => ys[i]?)) := by
  subst hn
  refine ⟨fun i _ hi q => ?_, fun _ q => ⟨xs, ys, q.1, q.2, by omega⟩, fun i H v H' _ q y => ?_⟩
  · have h1 : i < xs.length := by omega
    have h2 : i < ys.length := by omega
    exact ⟨xs, ys, xs[i], ys[i], q.1, q.2, by simp [h1], by simp [h2]⟩
  · obtain ⟨T, x, z, h1, h2, h3, h4, h5⟩ := y
    exact ⟨T, x, z, h1, h2, h3, h4 xs q.1, h5 ys q.2⟩
/-- [f x for x in xs] -/
theorem lc_map {It0 : It} {G : Hp → Prop} {te : TE} {m : Nat} {σ : L2.St} {H1 : Hp} {D : Addr} {Qd : Hp → Prop} {xs : List V} {f : V → V} (w : Walk It0 xs.length G (YAt xs)) (hD : H1 D = none) (hz : xs.length < sizeLine) (hG : ∀ H', Same H1 H' → G H')
    (he : ∀ x H', x ∈ xs → Same H1 H' → ∀ R : V → Hp → Prop, R (f x) H' → te ((wipe σ [m]).set m (some x)) H' R)
    (hd : ∀ H', Same H1 H' → H' D = some (.lst (xs.map f)) → Qd H') :
    ∃ W : Nat → Nat → Hp → Prop, (∃ m, W 0 m (upd H1 D (.lst []))) ∧ ∀ i k H, W i k H →
      (It0.stop i H ∧ Qd H) ∨ (It0.go i H ∧ ∃ Nx : Hp → Prop, (∀ H', Nx H' → ∃ k', k' < k ∧ W (i + 1) k' H') ∧ ∀ x H', It0.yld i H x H' → gName m x (wipe σ [m]) H' fun σ2 H2 => wipe σ2 [m] = wipe σ [m] ∧ tYes σ2 H2 fun b H3 =>
        if b = true then te σ2 H3 fun y H4 => ∃ acc, H4 D = some (.lst acc) ∧ acc.length < sizeLine ∧ Nx (upd H4 D (.lst (acc ++ [y]))) else Nx H3) := by
  refine lc_rel (p := fun _ => true) (c := f) (rel := fun _ y x => y = x) w hD hz hG (fun _ q => q) (fun _ q _ => q) (fun v => ?_) (fun x H' mx _ R k => k H' (Same.refl _)) (fun x H' mx _ s R k => he x H' mx s R (k _ H' (Same.refl _) rfl)) fun H' ys sH eD f2 => hd H' sH ?_
  · show ((σ.set m none).set m (some v)).set m none = σ.set m none
    rw [List.set_set, List.set_set]
  · rw [eD, f2.map_eq (f := fun x => x), List.map_id', List.filter_eq_self.mpr fun _ _ => rfl]
def spLowQ : Sp := fun vs H Q _ => ∃ (v : Addr) (n : Int) (d : Nat), vs = [.ref v] ∧ VQ H v n d ∧ d ≠ 0 ∧ d.log2 < 9000 ∧ ∀ r H', Same H H' → VQ H' r (mkRat n d).num (mkRat n d).den → Q (.ref r) H'
def spNegQ : Sp := fun vs H Q _ => ∃ (v : Addr) (n : Int) (d : Nat), vs = [.ref v] ∧ VQ H v n d ∧ ∀ r H', Same H H' → VQ H' r (-n) d → Q (.ref r) H'
section
variable {P : Program} {w : World} {K : PySem.W.Frag} {mg : Str → Option Value} {base : Heap} {f fN fP : Addr} {fd2 fdN fdP : FuncData}
abbrev nsLowest : List Str := ["vector", "wholes", "both", "whole"]
theorem scLowQ : FnScope nsLowest ["vector"] (defScope sLowest) := ⟨rfl, rfl, rfl, by decide +kernel, rfl, by decide +kernel, by decide +kernel⟩
theorem ok_lowQ (F : FnP K "vec_lowest" sLowest f fd2) (T : Txt K mg) (gG : mg "gcd" = some (.builtin "math.gcd")) : FnOk P w K mg base CX0 1 f fd2 ["vector"] spLowQ := by
  refine F.ok scLowQ (fun vs H Q E h => ?_) (fun cdv A outer s H vs Q E hr h => ?_)
  · obtain ⟨v, n, d, rfl, _⟩ := h
    rfl
  · obtain ⟨v, n, d, rfl, ⟨ws, hv, hw⟩, hd, hl, k⟩ := h
    refine ⟨_, PSs.nox (pss_cons (ps_asg (pv 0) (pg_tup rfl (pgs_cons (pg_name (i := 1) scLowQ.nd rfl (.inl rfl)) (pgs_cons (pg_name (i := 2) scLowQ.nd rfl (.inr rfl)) pgs_nil))))
      (pss_cons (ps_for PassesOwn.never rfl (pi_tup (pv 1)) (pg_name (i := 3) scLowQ.nd rfl (Or.inl rfl))
        (pss_cons (ps_if (pt_cmpR op_eq (pv 2) pe_int (nomark _)) (pss_one (ps_ret (pv 0))) pss_nil)
        (pss_one (ps_set (i := 2) scLowQ.nd rfl (.inr rfl) (pe_callBfun cr_gcd (by rfl) gG (pa_cons (pv 2) (pa_cons (pv 3) pa_nil)))))))
      (pss_cons (ps_if (pt_cmpR op_eq (pv 2) pe_int (nomark _)) (pss_one (ps_ret (pv 0))) pss_nil)
      (pss_one (ps_ret (pe_tup (pa_cons (pe_tupleOf (by rfl) T.tuple (pe_lc (own := [("whole", 3)]) (g := gName 3) (tt := tYes) (by rfl) scLowQ.nd (pi_tup (pv 1)) (blkOk_by (own := [("whole", 3)]) (N := nsLowest) (sc := defScope sLowest) (by decide +kernel))
          (fun _ _ _ _ _ => pg_name (i := 3) scLowQ.nd rfl (Or.inl rfl)) (fun _ _ _ _ _ => pts_nil) (fun _ _ _ _ _ => pe_op op_fdivW (pv 3) (pv 2)))) (pa_cons (pe_op op_fdivW (pe_ix ix_tup (pv 0) pe_int (fun _ _ => rfl)) (pv 2)) pa_nil)))))))), ?_⟩
    have hvq : VQ H v n d := ⟨ws, hv, hw⟩
    refine ⟨_, rfl, v, _, rfl, SqT.of hv, rfl, _, _, rfl, _, _, rfl, rfl, ?_⟩
    refine ⟨_, rfl, ws, rfl, ⟨_, SqT.of hw⟩, ?_⟩
    have d0 : 0 < d := Nat.pos_of_ne_zero hd
    refine for_tup (K := K) (a := ws) (xs := [V.int n]) (fun i σ G => G = H ∧ ((i = 0 ∧ σ = [some (.ref v), some (.ref ws), some (.int (d : Int)), none]) ∨ (i = 1 ∧ σ = [some (.ref v), some (.ref ws), some (.int ((Nat.gcd d n.natAbs : Nat) : Int)), some (.int n)] ∧ d ≠ 1))) ⟨rfl, .inl ⟨rfl, rfl⟩⟩ (fun i σ G _ q => by rw [q.1]; exact SqT.of hw) ?_ ?_
    · rintro i y σ G hi ⟨rfl, ⟨rfl, rfl⟩ | ⟨rfl, rfl, _⟩⟩
      · cases hi
        refine ⟨_, rfl, rfl, _, rfl, ?_⟩
        by_cases h1 : d = 1
        · subst h1
          refine iteT ?_
          refine ⟨_, rfl, k v _ (Same.refl _) ?_⟩
          rw [Rat.num_mkRat, Rat.den_mkRat]
          simpa using hvq
        · have e : decide (V.int (d : Int) = V.int 1) = false := decide_eq_false fun z => h1 (by injection z; omega)
          rw [e]
          refine iteF ?_
          refine ⟨_, rfl, _, rfl, _, _, rfl, ?_⟩
          refine ⟨rfl, .inr ⟨rfl, ?_, h1⟩⟩
          rfl
      · cases hi
    · rintro σ G ⟨rfl, ⟨h0, _⟩ | ⟨_, rfl, hd1⟩⟩
      · cases h0
      refine ⟨_, rfl, rfl, _, rfl, ?_⟩
      have gp : 0 < Nat.gcd d n.natAbs := Nat.gcd_pos_of_pos_left _ d0
      by_cases h1 : Nat.gcd d n.natAbs = 1
      · rw [h1]
        refine iteT ?_
        refine ⟨_, rfl, k v _ (Same.refl _) ?_⟩
        rw [Rat.num_mkRat, Rat.den_mkRat, if_neg hd, if_neg hd, h1]
        simpa using hvq
      · have e : decide (V.int ((Nat.gcd d n.natAbs : Nat) : Int) = V.int 1) = false := decide_eq_false fun z => h1 (by injection z; omega)
        rw [e]
        refine iteF ?_
        have hc : CDivW n ((Nat.gcd d n.natAbs : Nat) : Int) ∧ CDivW (d : Int) ((Nat.gcd d n.natAbs : Nat) : Int) := by
          have h2 : (Nat.gcd d n.natAbs) ≤ d := Nat.gcd_le_left _ d0
          have h3 : (((Nat.gcd d n.natAbs : Nat) : Int)).natAbs.log2 < 9000 := by
            rw [Int.natAbs_natCast]
            refine (Nat.log2_lt (by omega)).mpr ?_
            exact Nat.lt_of_le_of_lt h2 ((Nat.log2_lt hd).mp hl)
          exact ⟨⟨by omega, h3⟩, ⟨by omega, h3⟩⟩
        refine ⟨_, rfl, ws, rfl, ⟨_, SqT.of hw⟩, fun D nD => ?_⟩
        refine lc_map (f := fun x => match x with | .int i => .int (i / ((Nat.gcd d n.natAbs : Nat) : Int)) | x => x) (xs := [V.int n]) walk_tup nD (by show 1 < sizeLine; decide) (fun H' s => SqT.of (s _ _ hw)) (fun x H' hx s R hR => ?_) fun H1 s1 hD1 => ?_
        · rw [List.mem_singleton.mp hx] at hR ⊢
          exact ⟨_, rfl, _, rfl, _, _, rfl, rfl, hc.1, hR⟩
        refine .inl ⟨D, _, rfl, SqL.of hD1, fun q nq => ?_⟩
        have s2 := same_upd (o := .tup ([V.int n].map fun x => match x with | .int i => .int (i / ((Nat.gcd d n.natAbs : Nat) : Int)) | x => x)) nq
        have hv2 := s2 _ _ (s1 _ _ hv)
        refine ⟨_, rfl, v, _, _, _, rfl, rfl, SqT.of hv2, at_nat (k := 1) rfl, _, rfl, _, _, rfl, rfl, hc.2, (by show 2 ≤ sizeLine; decide), fun r nr => ?_⟩
        have s3 := same_upd (o := .tup [.ref q, .int ((d : Int) / ((Nat.gcd d n.natAbs : Nat) : Int))]) nr
        refine k r _ ((s1.trans s2).trans s3) ⟨q, ?_, ?_⟩
        · rw [upd_same, Rat.den_mkRat, if_neg hd]
          norm_cast
        · refine s3 _ _ ?_
          rw [upd_same, Rat.num_mkRat, if_neg hd]
          rfl
end
end Own
set_option Elab.async false
set_option linter.all false
set_option maxRecDepth 100000
set_option maxHeartbeats 1000000
set_option exponentiation.threshold 300
namespace Own
open PySem PySem.Spec PyProof.Rows L2 LamX
structure TxtN (mg : Str → Option Value) : Prop where
  gcd : mg "gcd" = some (.builtin "math.gcd")
  zip : mg "zip" = none
  any : mg "any" = none
theorem iteTr {b : Bool} {A B : Prop} (h : b = true) (a : A) : if b = true then A else B := by
  rw [h]
  exact iteT a
theorem iteFr {b : Bool} {A B : Prop} (h : b = false) (a : B) : if b = true then A else B := by
  rw [h]
  exact iteF a
/-- [z for a, b in zip(t, u)], of tuples with one item -/
theorem lc_zip1 {K : PySem.W.Frag} {ta tb D : Addr} {x y z : V} {te : TE} {i j : Nat} {σ : L2.St} {H1 : Hp} {Qd : Hp → Prop} (ha : SqT K H1 ta [x]) (hb : SqT K H1 tb [y]) (hD : H1 D = none)
    (hw : wipe ((((wipe σ [i, j]).set i (some x)).set j (some y))) [i, j] = wipe σ [i, j])
    (he : ∀ H', Same H1 H' → ∀ R : V → Hp → Prop, R z H' → te (((wipe σ [i, j]).set i (some x)).set j (some y)) H' R) (hd : ∀ H', Same H1 H' → H' D = some (.lst [z]) → Qd H') :
    ∃ W : Nat → Nat → Hp → Prop, (∃ m, W 0 m (upd H1 D (.lst []))) ∧ ∀ k m H, W k m H →
      ((RZ.ItzT K ta tb).stop k H ∧ Qd H) ∨ ((RZ.ItzT K ta tb).go k H ∧ ∃ Nx : Hp → Prop, (∀ H', Nx H' → ∃ m', m' < m ∧ W (k + 1) m' H') ∧ ∀ v H', (RZ.ItzT K ta tb).yld k H v H' → gTup K 2 (gCons (gName i) (gCons (gName j) gNil)) v (wipe σ [i, j]) H' fun σ2 H2 => wipe σ2 [i, j] = wipe σ [i, j] ∧ tYes σ2 H2 fun b H3 =>
        if b = true then te σ2 H3 fun y H4 => ∃ acc, H4 D = some (.lst acc) ∧ acc.length < sizeLine ∧ Nx (upd H4 D (.lst (acc ++ [y]))) else Nx H3) := by
  refine lc_it (walk_zipT (n := 1) rfl) (fun k H => Same H1 H ∧ H D = some (.lst (if k = 0 then [] else [z]))) ⟨same_upd hD, upd_same⟩ (fun k H _ q => ⟨seqT q.1 ha, seqT q.1 hb⟩) ?_ ?_
  · rintro k v G G' hk ⟨sG, eD⟩ ⟨T, u1, u2, rfl, nT, rfl, h1, h2⟩
    obtain rfl : k = 0 := by omega
    cases h1
    cases h2
    have sT := same_upd (o := .tup [x, y]) nT
    refine ⟨T, _, rfl, SqT.of upd_same, rfl, _, _, rfl, _, _, rfl, rfl, hw, yes_if ?_⟩
    refine he _ (sG.trans sT) _ ⟨[], sT _ _ eD, by show 0 < sizeLine; decide, fun c o hc => ?_, ?_⟩
    · have nc : c ≠ D := fun z => by rw [z, hD] at hc; cases hc
      rw [upd_ne nc]
      exact sT _ _ (sG _ _ hc)
    · exact upd_same
  · rintro G ⟨sG, eD⟩
    exact hd G sG eD
def Sz (n : Int) (d : Nat) : Prop := n.natAbs.log2 < 100000 ∧ d.log2 < 9000
theorem Sz.mul {n m : Int} {d e : Nat} (h : Sz n d) (h' : Sz m e) : CMulW n m ∧ CMulW n (e : Int) ∧ CMulW m (d : Int) ∧ CMulW (d : Int) (e : Int) := by
  obtain ⟨h1, h2⟩ := h
  obtain ⟨h3, h4⟩ := h'
  unfold CMulW
  rw [Int.natAbs_natCast, Int.natAbs_natCast]
  omega
def spPlusQ : Sp := fun vs H Q _ => ∃ (v1 v2 : Addr) (n1 n2 : Int) (d1 d2 : Nat), vs = [.ref v1, .ref v2] ∧ VQ H v1 n1 d1 ∧ VQ H v2 n2 d2 ∧ d1 ≠ 0 ∧ d2 ≠ 0 ∧ Sz n1 d1 ∧ Sz n2 d2 ∧
  ∀ r n d H', Same H H' → VQ H' r n d → d ≠ 0 → d ≤ d1 * d2 → mkRat n d = mkRat n1 d1 + mkRat n2 d2 → Q (.ref r) H'
def spLessQ : Sp := fun vs H Q _ => ∃ (v1 v2 : Addr) (n1 n2 : Int) (d1 d2 : Nat), vs = [.ref v1, .ref v2] ∧ VQ H v1 n1 d1 ∧ VQ H v2 n2 d2 ∧ d1 ≠ 0 ∧ d2 ≠ 0 ∧ Sz n1 d1 ∧ Sz n2 d2 ∧
  ∀ r n d H', Same H H' → VQ H' r n d → d ≠ 0 → d ≤ d1 * d2 → mkRat n d = mkRat n1 d1 - mkRat n2 d2 → Q (.ref r) H'
section
variable {P : Program} {w : World} {K : PySem.W.Frag} {mg : Str → Option Value} {base : Heap} {f fN fP : Addr} {fd2 fdN fdP : FuncData}
theorem scNegQ : FnScope ["vector", "whole"] ["vector"] (defScope sNeg) := ⟨rfl, rfl, rfl, by decide +kernel, rfl, by decide +kernel, by decide +kernel⟩
theorem ok_negQ (F : FnP K "vec_negated" sNeg f fd2) (T : Txt K mg) : FnOk P w K mg base CX0 1 f fd2 ["vector"] spNegQ := by
  refine F.ok scNegQ (fun vs H Q E h => ?_) (fun cdv A outer s H vs Q E hr h => ?_)
  · obtain ⟨v, n, d, rfl, _⟩ := h
    rfl
  · obtain ⟨v, n, d, rfl, ⟨ws, hv, hw⟩, k⟩ := h
    refine ⟨_, PSs.nox (pss_one (ps_ret (pe_tup (pa_cons (pe_tupleOf (by rfl) T.tuple (pe_lc (own := [("whole", 1)]) (g := gName 1) (tt := tYes) (by rfl) scNegQ.nd (pi_tup (pe_ix ix_tup (pv 0) pe_int (fun _ _ => rfl))) (blkOk_by (own := [("whole", 1)]) (N := ["vector", "whole"]) (sc := defScope sNeg) (by decide +kernel))
          (fun _ _ _ _ _ => pg_name (i := 1) scNegQ.nd rfl (Or.inl rfl)) (fun _ _ _ _ _ => pts_nil) (fun _ _ _ _ _ => pe_un un_neg (pv 1)))) (pa_cons (pe_ix ix_tup (pv 0) pe_int (fun _ _ => rfl)) pa_nil))))), ?_⟩
    refine ⟨_, rfl, v, _, _, _, rfl, rfl, SqT.of hv, at_nat (k := 0) rfl, ws, rfl, ⟨_, SqT.of hw⟩, fun D nD => ?_⟩
    refine lc_map (f := fun x => match x with | .int i => .int (-i) | x => x) (xs := [V.int n]) walk_tup nD (by show 1 < sizeLine; decide) (fun H' s => SqT.of (s _ _ hw)) (fun x H' hx s R hR => ?_) fun H1 s1 hD1 => ?_
    · rw [List.mem_singleton.mp hx] at hR ⊢
      exact ⟨_, rfl, _, rfl, hR⟩
    refine .inl ⟨D, _, rfl, SqL.of hD1, fun q nq => ?_⟩
    have s2 := same_upd (o := .tup ([V.int n].map fun x => match x with | .int i => .int (-i) | x => x)) nq
    refine ⟨_, rfl, v, _, _, _, rfl, rfl, SqT.of (s2 _ _ (s1 _ _ hv)), at_nat (k := 1) rfl, (by show 2 ≤ sizeLine; decide), fun r nr => ?_⟩
    have s3 := same_upd (o := .tup [.ref q, .int (d : Int)]) nr
    exact k r _ ((s1.trans s2).trans s3) ⟨q, upd_same, s3 _ _ upd_same⟩
abbrev nsVPlus : List Str := ["one", "other", "low", "high", "a", "b"]
theorem scVPlus : FnScope nsVPlus ["one", "other"] (defScope sVPlus) := ⟨rfl, rfl, rfl, by decide +kernel, rfl, by decide +kernel, by decide +kernel⟩
theorem ok_vplus (F : FnP K "vec_plus" sVPlus f fd2) (T : Txt K mg) (N : TxtN mg) : FnOk P w K mg base CX0 1 f fd2 ["one", "other"] spPlusQ := by
  refine F.ok scVPlus (fun vs H Q E h => ?_) (fun cdv A outer s H vs Q E hr h => ?_)
  · obtain ⟨v1, v2, n1, n2, d1, d2, rfl, _⟩ := h
    rfl
  · obtain ⟨v1, v2, n1, n2, d1, d2, rfl, ⟨w1, hv1, hw1⟩, ⟨w2, hv2, hw2⟩, e1, e2, z1, z2, k⟩ := h
    have com : ∀ {X : Cx} {el : Expr} {te : TE}, True := fun {_ _ _} => trivial
    refine ⟨_, PSs.nox (pss_cons (ps_asg (pe_tup (pa_cons (pe_ix ix_tup (pv 0) pe_int (fun _ _ => rfl)) (pa_cons (pe_ix ix_tup (pv 1) pe_int (fun _ _ => rfl)) pa_nil))) (pg_tup rfl (pgs_cons (pg_name (i := 2) scVPlus.nd rfl (.inr rfl)) (pgs_cons (pg_name (i := 3) scVPlus.nd rfl (.inr rfl)) pgs_nil))))
      (pss_cons (ps_if (pt_cmpR op_eq (pv 2) (pv 3) (nomark _)) (pss_one (ps_ret (pe_tup (pa_cons (pe_tupleOf (by rfl) T.tuple (pe_lc (own := [("a", 4), ("b", 5)]) (g := gTup K 2 (gCons (gName 4) (gCons (gName 5) gNil))) (tt := tYes) (by rfl) scVPlus.nd (RZ.pi_zipA (by rfl) N.zip (pa_cons (pe_ix ix_tup (pv 0) pe_int (fun _ _ => rfl)) (pa_cons (pe_ix ix_tup (pv 1) pe_int (fun _ _ => rfl)) pa_nil))) (blkOk_by (own := [("a", 4), ("b", 5)]) (N := nsVPlus) (sc := defScope sVPlus) (by decide +kernel))
          (fun _ _ _ _ _ => pg_tup rfl (pgs_cons (pg_name (i := 4) scVPlus.nd rfl (.inl rfl)) (pgs_cons (pg_name (i := 5) scVPlus.nd rfl (.inl rfl)) pgs_nil))) (fun _ _ _ _ _ => pts_nil) (fun _ _ _ _ _ => pe_op op_add (pv 4) (pv 5)))) (pa_cons (pv 2) pa_nil))))) pss_nil)
      (pss_cons (ps_if (pt_cmpR op_eq (pe_op op_mod (pv 3) (pv 2)) pe_int (nomark _)) (pss_one (ps_ret (pe_tup (pa_cons (pe_tupleOf (by rfl) T.tuple (pe_lc (own := [("a", 4), ("b", 5)]) (g := gTup K 2 (gCons (gName 4) (gCons (gName 5) gNil))) (tt := tYes) (by rfl) scVPlus.nd (RZ.pi_zipA (by rfl) N.zip (pa_cons (pe_ix ix_tup (pv 0) pe_int (fun _ _ => rfl)) (pa_cons (pe_ix ix_tup (pv 1) pe_int (fun _ _ => rfl)) pa_nil))) (blkOk_by (own := [("a", 4), ("b", 5)]) (N := nsVPlus) (sc := defScope sVPlus) (by decide +kernel))
          (fun _ _ _ _ _ => pg_tup rfl (pgs_cons (pg_name (i := 4) scVPlus.nd rfl (.inl rfl)) (pgs_cons (pg_name (i := 5) scVPlus.nd rfl (.inl rfl)) pgs_nil))) (fun _ _ _ _ _ => pts_nil) (fun _ _ _ _ _ => pe_op op_add (pe_op op_mulW (pv 4) (pe_op op_fdivW (pv 3) (pv 2))) (pv 5)))) (pa_cons (pv 3) pa_nil))))) pss_nil)
      (pss_cons (ps_if (pt_cmpR op_eq (pe_op op_mod (pv 2) (pv 3)) pe_int (nomark _)) (pss_one (ps_ret (pe_tup (pa_cons (pe_tupleOf (by rfl) T.tuple (pe_lc (own := [("a", 4), ("b", 5)]) (g := gTup K 2 (gCons (gName 4) (gCons (gName 5) gNil))) (tt := tYes) (by rfl) scVPlus.nd (RZ.pi_zipA (by rfl) N.zip (pa_cons (pe_ix ix_tup (pv 0) pe_int (fun _ _ => rfl)) (pa_cons (pe_ix ix_tup (pv 1) pe_int (fun _ _ => rfl)) pa_nil))) (blkOk_by (own := [("a", 4), ("b", 5)]) (N := nsVPlus) (sc := defScope sVPlus) (by decide +kernel))
          (fun _ _ _ _ _ => pg_tup rfl (pgs_cons (pg_name (i := 4) scVPlus.nd rfl (.inl rfl)) (pgs_cons (pg_name (i := 5) scVPlus.nd rfl (.inl rfl)) pgs_nil))) (fun _ _ _ _ _ => pts_nil) (fun _ _ _ _ _ => pe_op op_add (pv 4) (pe_op op_mulW (pv 5) (pe_op op_fdivW (pv 2) (pv 3)))))) (pa_cons (pv 2) pa_nil))))) pss_nil)
      (pss_one (ps_ret (pe_tup (pa_cons (pe_tupleOf (by rfl) T.tuple (pe_lc (own := [("a", 4), ("b", 5)]) (g := gTup K 2 (gCons (gName 4) (gCons (gName 5) gNil))) (tt := tYes) (by rfl) scVPlus.nd (RZ.pi_zipA (by rfl) N.zip (pa_cons (pe_ix ix_tup (pv 0) pe_int (fun _ _ => rfl)) (pa_cons (pe_ix ix_tup (pv 1) pe_int (fun _ _ => rfl)) pa_nil))) (blkOk_by (own := [("a", 4), ("b", 5)]) (N := nsVPlus) (sc := defScope sVPlus) (by decide +kernel))
          (fun _ _ _ _ _ => pg_tup rfl (pgs_cons (pg_name (i := 4) scVPlus.nd rfl (.inl rfl)) (pgs_cons (pg_name (i := 5) scVPlus.nd rfl (.inl rfl)) pgs_nil))) (fun _ _ _ _ _ => pts_nil) (fun _ _ _ _ _ => pe_op op_add (pe_op op_mulW (pv 4) (pv 3)) (pe_op op_mulW (pv 5) (pv 2))))) (pa_cons (pe_op op_mulW (pv 2) (pv 3)) pa_nil))))))))), ?_⟩
    have p1 : 0 < d1 := Nat.pos_of_ne_zero e1
    have p2 : 0 < d2 := Nat.pos_of_ne_zero e2
    obtain ⟨m1, m2, m3, m4⟩ := z1.mul z2
    refine ⟨_, rfl, v1, _, _, _, rfl, rfl, SqT.of hv1, at_nat (k := 1) rfl, _, rfl, v2, _, _, _, rfl, rfl, SqT.of hv2, at_nat (k := 1) rfl, (by show 2 ≤ sizeLine; decide), fun t nt => ?_⟩
    refine ⟨t, _, rfl, SqT.of upd_same, rfl, _, _, rfl, _, _, rfl, rfl, ?_⟩
    have s0 := same_upd (o := .tup [.int (d1 : Int), .int (d2 : Int)]) nt
    generalize L2.upd H t (.tup [.int (d1 : Int), .int (d2 : Int)]) = H0 at s0
    have g1 := s0 _ _ hv1
    have g2 := s0 _ _ hv2
    have g3 := s0 _ _ hw1
    have g4 := s0 _ _ hw2
    -- how each way ends
    have fin : ∀ {n : Int} {d : Nat} {D : Addr} {H1 : Hp} {σ : L2.St} {td : TE} {R : V → Hp → Prop}, Same H0 H1 → H1 D = some (.lst [.int n]) → d ≠ 0 → d ≤ d1 * d2 → mkRat n d = mkRat n1 d1 + mkRat n2 d2 → (∀ H2 Q', Q' (.int (d : Int)) H2 → td σ H2 Q') → (∀ r H', Q (.ref r) H' → R (.ref r) H') →
        kTup K (.ref D) H1 fun y H2 => td σ H2 fun z H3 => (2 ≤ sizeLine ∧ ∀ r, H3 r = none → R (.ref r) (L2.upd H3 r (.tup [y, z]))) := fun {n d D H1 σ td R} s1 hD hd hle he ht hR => by
      refine .inl ⟨D, _, rfl, SqL.of hD, fun q nq => ht _ _ ⟨by decide, fun r nr => hR r _ ?_⟩⟩
      have s2 := same_upd (o := .tup [.int n]) nq
      have s3 := same_upd (o := .tup [.ref q, .int (d : Int)]) nr
      exact k r n d _ (((s0.trans s1).trans s2).trans s3) ⟨q, upd_same, s3 _ _ upd_same⟩ hd hle he
    refine ⟨_, rfl, _, rfl, rfl, _, rfl, ?_⟩
    by_cases c1 : d1 = d2
    · subst c1
      rw [decide_eq_true rfl]
      refine iteT ?_
      refine ⟨_, rfl, v1, _, _, _, rfl, rfl, SqT.of g1, at_nat (k := 0) rfl, _, rfl, v2, _, _, _, rfl, rfl, SqT.of g2, at_nat (k := 0) rfl, w1, w2, _, _, rfl, .inr ⟨SqT.of g3, SqT.of g4, fun D nD => ?_⟩⟩
      refine lc_zip1 (z := .int (n1 + n2)) (SqT.of g3) (SqT.of g4) nD rfl (fun H' s' R hR => ⟨_, rfl, _, rfl, _, _, rfl, rfl, hR⟩) fun H1 s1 hD => ?_
      refine fin (n := n1 + n2) (d := d1) (td := tVar 2) s1 hD e1 (Nat.le_mul_of_pos_left _ p1) ?_ (fun H2 Q' q => ⟨_, rfl, q⟩) fun r H' q => q
      rw [Rat.mkRat_add_mkRat _ _ e1 e1, Rat.mkRat_eq_iff e1 (Nat.mul_ne_zero e1 e1)]
      rw [Int.natCast_mul]
      grind
    · have e : decide (V.int (d1 : Int) = V.int (d2 : Int)) = false := decide_eq_false fun z => c1 (by injection z; omega)
      refine iteFr e ?_
      refine ⟨_, rfl, _, rfl, _, _, rfl, rfl, (by omega), rfl, _, rfl, ?_⟩
      by_cases c2 : d1 ∣ d2
      · obtain ⟨kk, rfl⟩ := c2
        have ek : ((d1 * kk : Nat) : Int) % (d1 : Int) = 0 := by rw [Int.natCast_mul]; exact Int.mul_emod_right _ _
        have ed : ((d1 * kk : Nat) : Int) / (d1 : Int) = (kk : Int) := by rw [Int.natCast_mul]; exact Int.mul_ediv_cancel_left _ (by omega)
        refine iteTr (decide_eq_true (congrArg V.int ek)) ?_
        refine ⟨_, rfl, v1, _, _, _, rfl, rfl, SqT.of g1, at_nat (k := 0) rfl, _, rfl, v2, _, _, _, rfl, rfl, SqT.of g2, at_nat (k := 0) rfl, w1, w2, _, _, rfl, .inr ⟨SqT.of g3, SqT.of g4, fun D nD => ?_⟩⟩
        have kp : 0 < kk := Nat.pos_of_ne_zero fun z => e2 (by rw [z, Nat.mul_zero])
        have mk : CMulW n1 (kk : Int) := by
          have := z1.1
          have := z2.2
          unfold CMulW
          rw [Int.natAbs_natCast]
          have l : kk.log2 ≤ (d1 * kk).log2 := by
            refine (Nat.le_log2 e2).mpr (Nat.le_trans (Nat.log2_self_le (by omega)) (Nat.le_mul_of_pos_left _ p1))
          omega
        refine lc_zip1 (z := .int (n1 * kk + n2)) (SqT.of g3) (SqT.of g4) nD rfl (fun H' s' R hR => ⟨_, rfl, _, rfl, _, rfl, _, _, rfl, rfl, ⟨by omega, by rw [Int.natAbs_natCast]; exact z1.2⟩, _, _, rfl, rfl, by rw [ed]; exact mk, _, rfl, _, _, rfl, rfl, by rw [ed]; exact hR⟩) fun H1 s1 hD => ?_
        refine fin (n := n1 * kk + n2) (d := d1 * kk) (td := tVar 3) s1 hD e2 (Nat.le_mul_of_pos_left _ p1) ?_ (fun H2 Q' q => ⟨_, rfl, q⟩) fun r H' q => q
        rw [Rat.mkRat_add_mkRat _ _ e1 e2, Rat.mkRat_eq_iff e2 (Nat.mul_ne_zero e1 e2)]
        rw [Int.natCast_mul, Int.natCast_mul]
        grind
      · have ek : ¬ ((d2 : Int) % (d1 : Int) = 0) := fun z => c2 (Int.natCast_dvd_natCast.mp (Int.dvd_of_emod_eq_zero z))
        have e : decide (V.int ((d2 : Int) % (d1 : Int)) = V.int 0) = false := decide_eq_false fun z => ek (by injection z)
        refine iteFr e ?_
        refine ⟨_, rfl, _, rfl, _, _, rfl, rfl, (by omega), rfl, _, rfl, ?_⟩
        by_cases c3 : d2 ∣ d1
        · obtain ⟨kk, rfl⟩ := c3
          have ek : ((d2 * kk : Nat) : Int) % (d2 : Int) = 0 := by rw [Int.natCast_mul]; exact Int.mul_emod_right _ _
          have ed : ((d2 * kk : Nat) : Int) / (d2 : Int) = (kk : Int) := by rw [Int.natCast_mul]; exact Int.mul_ediv_cancel_left _ (by omega)
          refine iteTr (decide_eq_true (congrArg V.int ek)) ?_
          refine ⟨_, rfl, v1, _, _, _, rfl, rfl, SqT.of g1, at_nat (k := 0) rfl, _, rfl, v2, _, _, _, rfl, rfl, SqT.of g2, at_nat (k := 0) rfl, w1, w2, _, _, rfl, .inr ⟨SqT.of g3, SqT.of g4, fun D nD => ?_⟩⟩
          have mk : CMulW n2 (kk : Int) := by
            have := z2.1
            have := z1.2
            unfold CMulW
            rw [Int.natAbs_natCast]
            have kp : 0 < kk := Nat.pos_of_ne_zero fun z => e1 (by rw [z, Nat.mul_zero])
            have l : kk.log2 ≤ (d2 * kk).log2 := by
              refine (Nat.le_log2 e1).mpr (Nat.le_trans (Nat.log2_self_le (by omega)) (Nat.le_mul_of_pos_left _ p2))
            omega
          refine lc_zip1 (z := .int (n1 + n2 * kk)) (SqT.of g3) (SqT.of g4) nD rfl (fun H' s' R hR => ⟨_, rfl, _, rfl, _, rfl, _, rfl, _, _, rfl, rfl, ⟨by omega, by rw [Int.natAbs_natCast]; exact z2.2⟩, _, _, rfl, rfl, by rw [ed]; exact mk, _, _, rfl, rfl, by rw [ed]; exact hR⟩) fun H1 s1 hD => ?_
          refine fin (n := n1 + n2 * kk) (d := d2 * kk) (td := tVar 2) s1 hD e1 (Nat.le_mul_of_pos_right _ p2) ?_ (fun H2 Q' q => ⟨_, rfl, q⟩) fun r H' q => q
          rw [Rat.mkRat_add_mkRat _ _ e1 e2, Rat.mkRat_eq_iff e1 (Nat.mul_ne_zero e1 e2)]
          rw [Int.natCast_mul, Int.natCast_mul]
          grind
        · have ek : ¬ ((d1 : Int) % (d2 : Int) = 0) := fun z => c3 (Int.natCast_dvd_natCast.mp (Int.dvd_of_emod_eq_zero z))
          have e : decide (V.int ((d1 : Int) % (d2 : Int)) = V.int 0) = false := decide_eq_false fun z => ek (by injection z)
          refine iteFr e ?_
          refine ⟨_, rfl, v1, _, _, _, rfl, rfl, SqT.of g1, at_nat (k := 0) rfl, _, rfl, v2, _, _, _, rfl, rfl, SqT.of g2, at_nat (k := 0) rfl, w1, w2, _, _, rfl, .inr ⟨SqT.of g3, SqT.of g4, fun D nD => ?_⟩⟩
          refine lc_zip1 (z := .int (n1 * d2 + n2 * d1)) (SqT.of g3) (SqT.of g4) nD rfl (fun H' s' R hR => ⟨_, rfl, _, rfl, _, _, rfl, rfl, m2, _, rfl, _, rfl, _, _, rfl, rfl, m3, _, _, rfl, rfl, hR⟩) fun H1 s1 hD => ?_
          refine fin (n := n1 * d2 + n2 * d1) (d := d1 * d2) (td := tOp (rI CMulW fun i j => .int (i * j)) (tVar 2) (tVar 3)) s1 hD (Nat.mul_ne_zero e1 e2) (Nat.le_refl _) ?_ (fun H2 Q' q => ⟨_, rfl, _, rfl, _, _, rfl, rfl, m4, by rw [Int.natCast_mul] at q; exact q⟩) fun r H' q => q
          rw [Rat.mkRat_add_mkRat _ _ e1 e2]
theorem scVLess : FnScope ["one", "other"] ["one", "other"] (defScope sVLess) := ⟨rfl, rfl, rfl, by decide +kernel, rfl, by decide +kernel, by decide +kernel⟩
theorem ok_vless (F : FnP K "vec_less" sVLess f fd2) (KN : Fk P w K mg base CX0 1 "vec_negated" fdN ["vector"] spNegQ) (KP : Fk P w K mg base CX0 1 "vec_plus" fdP ["one", "other"] spPlusQ) : FnOk P w K mg base CX0 2 f fd2 ["one", "other"] spLessQ := by
  refine F.ok scVLess (fun vs H Q E h => ?_) (fun cdv A outer s H vs Q E hr h => ?_)
  · obtain ⟨v1, v2, n1, n2, d1, d2, rfl, _⟩ := h
    rfl
  · obtain ⟨v1, v2, n1, n2, d1, d2, rfl, hv1, hv2, e1, e2, z1, z2, k⟩ := h
    refine ⟨_, PSs.nox (pss_one (ps_ret (pe_call KP.ok hr (by rfl) KP.g KP.kp KP.b .nil pass0 (pa_cons (pv 0) (pa_cons (pe_call KN.ok hr (by rfl) KN.g KN.kp KN.b .nil pass0 (pa_cons (pv 1) pa_nil)) pa_nil))))), ?_⟩
    refine ⟨_, rfl, _, rfl, v2, n2, d2, rfl, hv2, fun r H1 s1 h1 => ?_⟩
    refine ⟨v1, r, n1, -n2, d1, d2, rfl, hv1.same s1, h1, e1, e2, z1, ⟨by rw [Int.natAbs_neg]; exact z2.1, z2.2⟩, fun r n d H2 s2 h2 hd hle he => k r n d H2 (s1.trans s2) h2 hd hle ?_⟩
    rw [he, Rat.sub_eq_add_neg, Rat.neg_mkRat]
end
end Own
set_option Elab.async false
set_option linter.all false
set_option maxRecDepth 100000
set_option maxHeartbeats 1000000
set_option exponentiation.threshold 300
namespace Own
open PySem PySem.Spec PyProof.Rows L2 LamX
/-! ### products, signs, quotients of vectors with one whole -/
def spWideQ : Sp := fun vs H Q _ => ∃ (v : Addr) (n : Int) (d : Nat), vs = [.ref v, .int 0] ∧ VQ H v n d ∧ ∀ r H', Same H H' → VQ H' r n d → Q (.ref r) H'
def spScale0 (K : PySem.W.Frag) : Sp := fun vs H Q _ => ∃ r : V, vs = [r, .int 0] ∧ Q (.int 1) H
def spRaw0 (K : PySem.W.Frag) : Sp := fun vs H Q _ => ∃ (r : V) (o1 o2 : Addr) (n m : Int), vs = [r, .int 0, .ref o1, .ref o2] ∧ SqT K H o1 [.int n] ∧ SqT K H o2 [.int m] ∧ CMulW n m ∧ ∀ l H', Same H H' → H l = none → H' l = some (.lst [.int (n * m)]) → Q (.ref l) H'
def spCommon : Sp := fun vs H Q _ => ∃ a b : Int, vs = [.int a, .int b] ∧ Q (.int ((Nat.gcd a.natAbs b.natAbs : Nat) : Int)) H
def spTimesQ (K : PySem.W.Frag) : Sp := fun vs H Q _ => ∃ (rw v1 v2 : Addr) (n1 n2 : Int) (d1 d2 : Nat), vs = [.ref rw, .ref v1, .ref v2] ∧ SqT K H rw [] ∧ VQ H v1 n1 d1 ∧ VQ H v2 n2 d2 ∧ d1 ≠ 0 ∧ d2 ≠ 0 ∧ Sz n1 d1 ∧ Sz n2 d2 ∧ (d1 * d2).log2 < 9000 ∧
  ∀ r n d H', Same H H' → VQ H' r n d → d ≠ 0 → d ≤ d1 * d2 → mkRat n d = mkRat n1 d1 * mkRat n2 d2 → Q (.ref r) H'
def sgn (n : Int) : Int := if 0 < n then 1 else if n < 0 then -1 else 0
def spSignQ : Sp := fun vs H Q _ => ∃ (r : V) (v : Addr) (n : Int) (d : Nat), vs = [r, .ref v] ∧ VQ H v n d ∧ ∀ H', Same H H' → Q (.int (sgn n)) H'
def spTurnQ : Sp := fun vs H Q _ => ∃ (r : V) (v : Addr) (n : Int) (d : Nat), vs = [r, .ref v] ∧ VQ H v n d ∧ n ≠ 0 ∧ ∀ r H', Same H H' → VQ H' r (if 0 < n then (d : Int) else -(d : Int)) n.natAbs → Q (.ref r) H'
theorem turn_inv {n : Int} {d : Nat} (hn : n ≠ 0) (hd : d ≠ 0) : mkRat (if 0 < n then (d : Int) else -(d : Int)) n.natAbs = (mkRat n d)⁻¹ := by
  have hN : (n.natAbs) ≠ 0 := by omega
  have e1 : mkRat n d ≠ 0 := (Rat.mkRat_ne_zero hd).mpr hn
  have e2 : mkRat n d * mkRat (if 0 < n then (d : Int) else -(d : Int)) n.natAbs = 1 := by
    rw [Rat.mkRat_mul_mkRat]
    have q : (1 : Rat) = mkRat 1 1 := by decide
    rw [q, Rat.mkRat_eq_iff (Nat.mul_ne_zero hd hN) (by decide)]
    by_cases h : 0 < n
    · rw [if_pos h]
      have : ((d * n.natAbs : Nat) : Int) = d * n := by rw [Int.natCast_mul]; congr 1; omega
      rw [this]
      grind
    · rw [if_neg h]
      have : ((d * n.natAbs : Nat) : Int) = d * (-n) := by rw [Int.natCast_mul]; congr 1; omega
      rw [this]
      grind
  grind
section
variable {P : Program} {w : World} {K : PySem.W.Frag} {mg : Str → Option Value} {base : Heap} {f fN fP : Addr} {fd2 fdN fdP fdR fdS fdC fdM : FuncData}
theorem scWideQ : FnScope ["vector", "many"] ["vector", "many"] (defScope sWide) := ⟨rfl, rfl, rfl, by decide +kernel, rfl, by decide +kernel, by decide +kernel⟩
theorem ok_wideQ (F : FnP K "vec_wide" sWide f fd2) (T : Txt K mg) : FnOk P w K mg base CX0 1 f fd2 ["vector", "many"] spWideQ := by
  refine F.ok scWideQ (fun vs H Q E h => ?_) (fun cdv A outer s H vs Q E hr h => ?_)
  · obtain ⟨v, n, d, rfl, _⟩ := h
    rfl
  · obtain ⟨v, n, d, rfl, ⟨ws, hv, hw⟩, k⟩ := h
    refine ⟨_, PSs.nox (pss_one (ps_ret (pe_tup (pa_cons (pe_op op_catT (pe_ix ix_tup (pv 0) pe_int (fun _ _ => rfl)) (pe_op op_repT0 (pe_tup (pa_cons pe_int pa_nil)) (pe_op op_sub (pe_op op_shl pe_int (pv 1)) (pe_callB call_len_seq (by rfl) T.len PySem.boot_len (pa_cons (pe_ix ix_tup (pv 0) pe_int (fun _ _ => rfl)) pa_nil))))) (pa_cons (pe_ix ix_tup (pv 0) pe_int (fun _ _ => rfl)) pa_nil))))), ?_⟩
    refine ⟨_, rfl, v, _, _, _, rfl, rfl, SqT.of hv, at_nat (k := 0) rfl, (by show 1 ≤ sizeLine; decide), fun z nz => ?_⟩
    have s1 := same_upd (o := .tup [V.int 0]) nz
    refine ⟨_, rfl, _, _, rfl, rfl, ⟨by decide, by decide, by decide⟩, _, rfl, v, _, _, _, rfl, rfl, SqT.of (s1 _ _ hv), at_nat (k := 0) rfl, ws, _, rfl, .inr (SqT.of (s1 _ _ hw)), _, _, rfl, rfl, ?_⟩
    refine ⟨z, _, rfl, rfl, SqT.of upd_same, (fun e => by cases e), fun y ny => ?_⟩
    have s2 := same_upd (o := .tup []) ny
    have s12 := s1.trans s2
    refine ⟨ws, y, _, _, rfl, rfl, SqT.of (s12 _ _ hw), SqT.of upd_same, (fun e => by cases e), (by show 1 ≤ sizeLine; decide), (fun _ => ?_), fun e => absurd rfl e⟩
    refine ⟨_, rfl, v, _, _, _, rfl, rfl, SqT.of (s12 _ _ hv), at_nat (k := 1) rfl, (by show 2 ≤ sizeLine; decide), fun r nr => ?_⟩
    have s3 := same_upd (o := .tup [.ref ws, .int (d : Int)]) nr
    exact k r _ (s12.trans s3) ⟨ws, upd_same, s3 _ _ (s12 _ _ hw)⟩
theorem scScale0 : FnScope ["rows", "many", "scale", "at"] ["rows", "many"] (defScope sScale) := ⟨rfl, rfl, rfl, by decide +kernel, rfl, by decide +kernel, by decide +kernel⟩
theorem ok_scale0 (F : FnP K "scale_of" sScale f fd2) (T : Txt K mg) : FnOk P w K mg base CX0 1 f fd2 ["rows", "many"] (spScale0 K) := by
  refine F.ok scScale0 (fun vs H Q E h => ?_) (fun cdv A outer s H vs Q E hr h => ?_)
  · obtain ⟨r, rfl, _⟩ := h
    rfl
  · obtain ⟨r, rfl, k⟩ := h
    refine ⟨_, PSs.nox (pss_cons (ps_set (i := 2) scScale0.nd rfl (.inl rfl) pe_int)
      (pss_cons (ps_for PassesOwn.never rfl (pi_range1 (by rfl) T.range (pa_cons (pv 1) pa_nil)) (pg_name (i := 3) scScale0.nd rfl (Or.inl rfl)) pss_never)
      (pss_one (ps_ret (pv 2))))), ?_⟩
    refine ⟨_, rfl, 0, rfl, by decide, by decide, ?_⟩
    refine for_range (lo := 0) (n := 0) (fun i σ G => σ = [some r, some (.int 0), some (.int 1), none] ∧ G = H) ⟨rfl, rfl⟩ (fun i σ G hi => absurd hi (Nat.not_lt_zero _)) ?_
    rintro σ G ⟨rfl, rfl⟩
    exact ⟨_, rfl, k⟩
abbrev nsRaw : List Str := ["rows", "many", "ones", "others", "half", "scale", "square", "under", "a", "b", "c", "d", "factor", "low", "whole", "high", "more", "extra", "both"]
theorem scRaw : FnScope nsRaw ["rows", "many", "ones", "others"] (defScope sRaw) := ⟨rfl, rfl, rfl, by decide +kernel, rfl, by decide +kernel, by decide +kernel⟩
theorem ok_raw0 (F : FnP K "raw_times" sRaw f fd2) (T : Txt K mg) : FnOk P w K mg base CX0 1 f fd2 ["rows", "many", "ones", "others"] (spRaw0 K) := by
  refine F.ok scRaw (fun vs H Q E h => ?_) (fun cdv A outer s H vs Q E hr h => ?_)
  · obtain ⟨r, o1, o2, n, m, rfl, _⟩ := h
    rfl
  · obtain ⟨r, o1, o2, n, m, rfl, h1, h2, hm, k⟩ := h
    refine ⟨_, PSs.nox (pss_cons (ps_if (pt_cmpR op_eq (pv 1) pe_int (nomark _)) (pss_one (ps_ret (pe_lst (pa_cons (pe_op op_mulW (pe_ix ix_tup (pv 2) pe_int (fun _ _ => rfl)) (pe_ix ix_tup (pv 3) pe_int (fun _ _ => rfl))) pa_nil)))) pss_nil) pss_never), ?_⟩
    refine ⟨_, rfl, rfl, _, rfl, ?_⟩
    refine iteT ?_
    refine ⟨_, rfl, o1, _, _, _, rfl, rfl, h1, at_nat (k := 0) rfl, _, rfl, o2, _, _, _, rfl, rfl, h2, at_nat (k := 0) rfl, _, _, rfl, rfl, hm, (by show 1 ≤ sizeLine; decide), fun l nl => ?_⟩
    exact k l _ (same_upd nl) nl upd_same
theorem scCommon : FnScope ["one", "other"] ["one", "other"] (defScope sCommon) := ⟨rfl, rfl, rfl, by decide +kernel, rfl, by decide +kernel, by decide +kernel⟩
theorem ok_common (F : FnP K "common" sCommon f fd2) (T : Txt K mg) : FnOk P w K mg base CX0 1 f fd2 ["one", "other"] spCommon := by
  refine F.ok scCommon (fun vs H Q E h => ?_) (fun cdv A outer s H vs Q E hr h => ?_)
  · obtain ⟨a, b, rfl, _⟩ := h
    rfl
  · obtain ⟨a, b, rfl, k⟩ := h
    refine ⟨_, PSs.nox (pss_cons (ps_par (i := 0) (j := 1) (by rfl) scCommon.nd rfl rfl (by decide) rfl rfl (pa_cons (pe_callB call_abs (by rfl) T.abs (by decide +kernel) (pa_cons (pv 0) pa_nil)) (pa_cons (pe_callB call_abs (by rfl) T.abs (by decide +kernel) (pa_cons (pv 1) pa_nil)) pa_nil)) (by rfl))
      (pss_cons (ps_while PassesOwn.never (pt_cmpR op_ne (pv 1) pe_int (nomark _)) (pss_one (ps_par (i := 0) (j := 1) (by rfl) scCommon.nd rfl rfl (by decide) rfl rfl (pa_cons (pv 1) (pa_cons (pe_op op_mod (pv 0) (pv 1)) pa_nil)) (by rfl))))
      (pss_one (ps_ret (pv 0))))), ?_⟩
    refine ⟨_, rfl, a, rfl, _, rfl, b, rfl, _, _, rfl, ?_⟩
    have ea : (if a < 0 then -a else a) = (a.natAbs : Int) := by split <;> omega
    have eb : (if b < 0 then -b else b) = (b.natAbs : Int) := by split <;> omega
    refine while_by (fun σ G => ∃ x y : Nat, σ = [some (.int (x : Int)), some (.int (y : Int))] ∧ G = H ∧ Nat.gcd x y = Nat.gcd a.natAbs b.natAbs) (fun σ _ => match σ with | [_, some (.int y)] => y.toNat | _ => 0) ⟨a.natAbs, b.natAbs, ?_, rfl, rfl⟩ ?_ ?_
    · rw [ea, eb]
      rfl
    · rintro σ G ⟨x, y, rfl, rfl, hg⟩
      refine ⟨_, rfl, rfl, _, rfl, ?_⟩
      by_cases hy : y = 0
      · subst hy
        refine iteF ?_
        refine ⟨_, rfl, ?_⟩
        rw [Nat.gcd_zero_right] at hg
        rw [hg]
        exact k
      · have e : (!decide (V.int (y : Int) = V.int 0)) = true := by
          rw [decide_eq_false fun z => hy (by injection z; omega)]
          rfl
        refine iteTr e ?_
        refine ⟨_, rfl, _, rfl, _, rfl, _, _, rfl, rfl, (by omega), _, _, rfl, ?_⟩
        refine ⟨⟨y, x % y, ?_, rfl, ?_⟩, ?_⟩
        · rw [Int.natCast_emod]
          rfl
        · rw [← hg, Nat.gcd_comm x y, Nat.gcd_rec y x, Nat.gcd_comm]
        · show ((x : Int) % (y : Int)).toNat < (y : Int).toNat
          have := Int.emod_lt_of_pos (x : Int) (show (0 : Int) < y by omega)
          have := Int.emod_nonneg (x : Int) (show (y : Int) ≠ 0 by omega)
          omega
    · rintro σ G Q1 Q2 imp ⟨v, hv, rest⟩
      exact ⟨v, hv, by
        obtain ⟨h1, b, hb, q⟩ := rest
        exact ⟨h1, b, hb, imp _ _ q⟩⟩
end
end Own
set_option Elab.async false
set_option linter.all false
set_option maxRecDepth 100000
set_option maxHeartbeats 1000000
set_option exponentiation.threshold 300
namespace Own
open PySem PySem.Spec PyProof.Rows L2 LamX
section
variable {P : Program} {w : World} {K : PySem.W.Frag} {mg : Str → Option Value} {base : Heap} {f fN fP : Addr} {fd2 fdN fdP fdR fdS fdC fdM : FuncData}
abbrev nsSmall : List Str := ["vector", "wholes", "both", "whole"]
theorem scSmallQ : FnScope nsSmall ["vector"] (defScope sSmall) := ⟨rfl, rfl, rfl, by decide +kernel, rfl, by decide +kernel, by decide +kernel⟩
theorem ok_smallQ (F : FnP K "vec_small" sSmall f fd2) (T : Txt K mg) (KC : Fk P w K mg base CX0 1 "common" fdC ["one", "other"] spCommon) : FnOk P w K mg base CX0 2 f fd2 ["vector"] spLowQ := by
  refine F.ok scSmallQ (fun vs H Q E h => ?_) (fun cdv A outer s H vs Q E hr h => ?_)
  · obtain ⟨v, n, d, rfl, _⟩ := h
    rfl
  · obtain ⟨v, n, d, rfl, ⟨ws, hv, hw⟩, hd, hl, k⟩ := h
    refine ⟨_, PSs.nox (pss_cons (ps_asg (pv 0) (pg_tup rfl (pgs_cons (pg_name (i := 1) scSmallQ.nd rfl (.inl rfl)) (pgs_cons (pg_name (i := 2) scSmallQ.nd rfl (.inr rfl)) pgs_nil))))
      (pss_cons (ps_for PassesOwn.never rfl (pi_tup (pv 1)) (pg_name (i := 3) scSmallQ.nd rfl (Or.inl rfl))
        (pss_cons (ps_if (pt_cmpR op_eq (pv 2) pe_int (nomark _)) (pss_one (ps_ret (pv 0))) pss_nil)
        (pss_one (ps_set (i := 2) scSmallQ.nd rfl (.inr rfl) (pe_call KC.ok hr (by rfl) KC.g KC.kp KC.b .nil pass0 (pa_cons (pv 2) (pa_cons (pv 3) pa_nil)))))))
      (pss_cons (ps_if (pt_cmpR op_eq (pv 2) pe_int (nomark _)) (pss_one (ps_ret (pv 0))) pss_nil)
      (pss_one (ps_ret (pe_tup (pa_cons (pe_tupleOf (by rfl) T.tuple (pe_lc (own := [("whole", 3)]) (g := gName 3) (tt := tYes) (by rfl) scSmallQ.nd (pi_tup (pv 1)) (blkOk_by (own := [("whole", 3)]) (N := nsSmall) (sc := defScope sSmall) (by decide +kernel))
          (fun _ _ _ _ _ => pg_name (i := 3) scSmallQ.nd rfl (Or.inl rfl)) (fun _ _ _ _ _ => pts_nil) (fun _ _ _ _ _ => pe_op op_fdivW (pv 3) (pv 2)))) (pa_cons (pe_op op_fdivW (pe_ix ix_tup (pv 0) pe_int (fun _ _ => rfl)) (pv 2)) pa_nil)))))))), ?_⟩
    have hvq : VQ H v n d := ⟨ws, hv, hw⟩
    refine ⟨_, rfl, v, _, rfl, SqT.of hv, rfl, _, _, rfl, _, _, rfl, rfl, ?_⟩
    refine ⟨_, rfl, ws, rfl, ⟨_, SqT.of hw⟩, ?_⟩
    have d0 : 0 < d := Nat.pos_of_ne_zero hd
    refine for_tup (K := K) (a := ws) (xs := [V.int n]) (fun i σ G => G = H ∧ ((i = 0 ∧ σ = [some (.ref v), some (.ref ws), some (.int (d : Int)), none]) ∨ (i = 1 ∧ σ = [some (.ref v), some (.ref ws), some (.int ((Nat.gcd d n.natAbs : Nat) : Int)), some (.int n)] ∧ d ≠ 1))) ⟨rfl, .inl ⟨rfl, rfl⟩⟩ (fun i σ G _ q => by rw [q.1]; exact SqT.of hw) ?_ ?_
    · rintro i y σ G hi ⟨rfl, ⟨rfl, rfl⟩ | ⟨rfl, rfl, _⟩⟩
      · cases hi
        refine ⟨_, rfl, rfl, _, rfl, ?_⟩
        by_cases h1 : d = 1
        · subst h1
          refine iteT ?_
          refine ⟨_, rfl, k v _ (Same.refl _) ?_⟩
          rw [Rat.num_mkRat, Rat.den_mkRat]
          simpa using hvq
        · have e : decide (V.int (d : Int) = V.int 1) = false := decide_eq_false fun z => h1 (by injection z; omega)
          rw [e]
          refine iteF ?_
          refine ⟨_, rfl, _, rfl, _, _, rfl, ?_⟩
          refine ⟨rfl, .inr ⟨rfl, ?_, h1⟩⟩
          rw [Int.natAbs_natCast]
          rfl
      · cases hi
    · rintro σ G ⟨rfl, ⟨h0, _⟩ | ⟨_, rfl, hd1⟩⟩
      · cases h0
      refine ⟨_, rfl, rfl, _, rfl, ?_⟩
      have gp : 0 < Nat.gcd d n.natAbs := Nat.gcd_pos_of_pos_left _ d0
      by_cases h1 : Nat.gcd d n.natAbs = 1
      · rw [h1]
        refine iteT ?_
        refine ⟨_, rfl, k v _ (Same.refl _) ?_⟩
        rw [Rat.num_mkRat, Rat.den_mkRat, if_neg hd, if_neg hd, h1]
        simpa using hvq
      · have e : decide (V.int ((Nat.gcd d n.natAbs : Nat) : Int) = V.int 1) = false := decide_eq_false fun z => h1 (by injection z; omega)
        rw [e]
        refine iteF ?_
        have hc : CDivW n ((Nat.gcd d n.natAbs : Nat) : Int) ∧ CDivW (d : Int) ((Nat.gcd d n.natAbs : Nat) : Int) := by
          have h2 : (Nat.gcd d n.natAbs) ≤ d := Nat.gcd_le_left _ d0
          have h3 : (((Nat.gcd d n.natAbs : Nat) : Int)).natAbs.log2 < 9000 := by
            rw [Int.natAbs_natCast]
            refine (Nat.log2_lt (by omega)).mpr ?_
            exact Nat.lt_of_le_of_lt h2 ((Nat.log2_lt hd).mp hl)
          exact ⟨⟨by omega, h3⟩, ⟨by omega, h3⟩⟩
        refine ⟨_, rfl, ws, rfl, ⟨_, SqT.of hw⟩, fun D nD => ?_⟩
        refine lc_map (f := fun x => match x with | .int i => .int (i / ((Nat.gcd d n.natAbs : Nat) : Int)) | x => x) (xs := [V.int n]) walk_tup nD (by show 1 < sizeLine; decide) (fun H' s => SqT.of (s _ _ hw)) (fun x H' hx s R hR => ?_) fun H1 s1 hD1 => ?_
        · rw [List.mem_singleton.mp hx] at hR ⊢
          exact ⟨_, rfl, _, rfl, _, _, rfl, rfl, hc.1, hR⟩
        refine .inl ⟨D, _, rfl, SqL.of hD1, fun q nq => ?_⟩
        have s2 := same_upd (o := .tup ([V.int n].map fun x => match x with | .int i => .int (i / ((Nat.gcd d n.natAbs : Nat) : Int)) | x => x)) nq
        have hv2 := s2 _ _ (s1 _ _ hv)
        refine ⟨_, rfl, v, _, _, _, rfl, rfl, SqT.of hv2, at_nat (k := 1) rfl, _, rfl, _, _, rfl, rfl, hc.2, (by show 2 ≤ sizeLine; decide), fun r nr => ?_⟩
        have s3 := same_upd (o := .tup [.ref q, .int ((d : Int) / ((Nat.gcd d n.natAbs : Nat) : Int))]) nr
        refine k r _ ((s1.trans s2).trans s3) ⟨q, ?_, ?_⟩
        · rw [upd_same, Rat.den_mkRat, if_neg hd]
          norm_cast
        · refine s3 _ _ ?_
          rw [upd_same, Rat.num_mkRat, if_neg hd]
          rfl
theorem scVTimes : FnScope ["rows", "one", "other", "wholes", "found"] ["rows", "one", "other"] (defScope sVTimes) := ⟨rfl, rfl, rfl, by decide +kernel, rfl, by decide +kernel, by decide +kernel⟩
theorem ok_vtimes (F : FnP K "vec_times" sVTimes f fd2) (T : Txt K mg) (KR : Fk P w K mg base CX0 1 "raw_times" fdR ["rows", "many", "ones", "others"] (spRaw0 K)) (KS : Fk P w K mg base CX0 1 "scale_of" fdS ["rows", "many"] (spScale0 K)) (KM : Fk P w K mg base CX0 2 "vec_small" fdM ["vector"] spLowQ)
    (gG : ∃ g t, mg "GREAT" = some (.int g t)) : FnOk P w K mg base CX0 3 f fd2 ["rows", "one", "other"] (spTimesQ K) := by
  obtain ⟨GG, tG, gG⟩ := gG
  refine F.ok scVTimes (fun vs H Q E h => ?_) (fun cdv A outer s H vs Q E hr h => ?_)
  · obtain ⟨rw, v1, v2, n1, n2, d1, d2, rfl, _⟩ := h
    rfl
  · obtain ⟨rw, v1, v2, n1, n2, d1, d2, rfl, hR, ⟨w1, hv1, hw1⟩, ⟨w2, hv2, hw2⟩, e1, e2, z1, z2, hl, k⟩ := h
    have hr1 := hr.mono (show 1 ≤ 2 by decide)
    obtain ⟨m1, m2, m3, m4⟩ := z1.mul z2
    have mm : CMulW n1 n2 := m1
    refine ⟨_, PSs.nox (pss_cons (ps_set (i := 3) scVTimes.nd rfl (.inl rfl) (pe_call KR.ok hr1 (by rfl) KR.g KR.kp KR.b .nil pass0 (pa_cons (pv 0) (pa_cons (pe_callB call_len_seq (by rfl) T.len PySem.boot_len (pa_cons (pv 0) pa_nil)) (pa_cons (pe_ix ix_tup (pv 1) pe_int (fun _ _ => rfl)) (pa_cons (pe_ix ix_tup (pv 2) pe_int (fun _ _ => rfl)) pa_nil))))))
      (pss_cons (ps_set (i := 4) scVTimes.nd rfl (.inl rfl) (pe_tup (pa_cons (pe_tupleOf (by rfl) T.tuple (pv 3)) (pa_cons (pe_op op_mulW (pe_op op_mulW (pe_ix ix_tup (pv 1) pe_int (fun _ _ => rfl)) (pe_ix ix_tup (pv 2) pe_int (fun _ _ => rfl))) (pe_call KS.ok hr1 (by rfl) KS.g KS.kp KS.b .nil pass0 (pa_cons (pv 0) (pa_cons (pe_callB call_len_seq (by rfl) T.len PySem.boot_len (pa_cons (pv 0) pa_nil)) pa_nil)))) pa_nil))))
      (pss_one (ps_ret (pe_ifExp (pt_cmpR op_lt (pe_ix ix_tup (pv 4) pe_int (fun _ _ => rfl)) (pe_glob (v := .int GG) (by rfl) gG ⟨_, rfl⟩) (nomark _)) (pv 4) (pe_call KM.ok hr (by rfl) KM.g KM.kp KM.b .nil pass0 (pa_cons (pv 4) pa_nil))))))), ?_⟩
    refine ⟨_, rfl, _, rfl, rw, _, rfl, .inr hR, _, rfl, v1, _, _, _, rfl, rfl, SqT.of hv1, at_nat (k := 0) rfl, _, rfl, v2, _, _, _, rfl, rfl, SqT.of hv2, at_nat (k := 0) rfl, ?_⟩
    refine ⟨_, w1, w2, n1, n2, rfl, SqT.of hw1, SqT.of hw2, mm, fun l H1 s1 nl hl1 => ?_⟩
    refine ⟨_, rfl, .inl ⟨l, _, rfl, SqL.of hl1, fun q nq => ?_⟩⟩
    have s2 := same_upd (o := .tup [V.int (n1 * n2)]) nq
    have s12 := s1.trans s2
    have m5 : CMulW ((d1 : Int) * (d2 : Int)) 1 := by
      unfold CMulW
      rw [← Int.natCast_mul, Int.natAbs_natCast]
      have : (1 : Int).natAbs.log2 = 0 := by decide
      omega
    refine ⟨_, rfl, v1, _, _, _, rfl, rfl, SqT.of (s12 _ _ hv1), at_nat (k := 1) rfl, _, rfl, v2, _, _, _, rfl, rfl, SqT.of (s12 _ _ hv2), at_nat (k := 1) rfl, _, _, rfl, rfl, m4, ?_⟩
    refine ⟨_, rfl, _, rfl, rw, _, rfl, .inr (seqT s12 hR), .ref rw, rfl, _, _, rfl, rfl, m5, (by show 2 ≤ sizeLine; decide), fun r nr => ?_⟩
    have eD : ((d1 : Int) * (d2 : Int) * 1) = ((d1 * d2 : Nat) : Int) := by rw [Int.mul_one, Int.natCast_mul]
    dsimp only at nr ⊢
    rw [eD]
    have s3 := same_upd (o := .tup [.ref q, .int ((d1 * d2 : Nat) : Int)]) nr
    have sA := s12.trans s3
    have hr0 := upd_same (H := L2.upd H1 q (.tup [V.int (n1 * n2)])) (a := r) (o := .tup [.ref q, .int ((d1 * d2 : Nat) : Int)])
    have hq0 := s3 _ _ (upd_same (H := H1) (a := q) (o := .tup [V.int (n1 * n2)]))
    generalize L2.upd (L2.upd H1 q (.tup [V.int (n1 * n2)])) r (.tup [.ref q, .int ((d1 * d2 : Nat) : Int)]) = H3 at sA hr0 hq0
    have e0 : d1 * d2 ≠ 0 := Nat.mul_ne_zero e1 e2
    have em : mkRat (n1 * n2) (d1 * d2) = mkRat n1 d1 * mkRat n2 d2 := (Rat.mkRat_mul_mkRat _ _ _ _).symm
    refine ⟨_, rfl, r, _, _, _, rfl, rfl, SqT.of hr0, at_nat (k := 1) rfl, ((d1 * d2 : Nat) : Int), GG, rfl, rfl, _, rfl, ?_⟩
    by_cases hc : (((d1 * d2 : Nat)) : Int) < GG
    · refine iteTr (decide_eq_true hc) ?_
      exact ⟨_, rfl, k r (n1 * n2) (d1 * d2) H3 sA ⟨q, hr0, hq0⟩ e0 (Nat.le_refl _) em⟩
    · refine iteFr (decide_eq_false hc) ?_
      refine ⟨_, rfl, r, n1 * n2, d1 * d2, rfl, ⟨q, hr0, hq0⟩, e0, hl, fun r2 H4 s4 h4 => ?_⟩
      refine k r2 _ _ H4 (sA.trans s4) h4 (mkRat (n1 * n2) (d1 * d2)).den_nz ?_ ?_
      · rw [Rat.den_mkRat, if_neg e0]
        exact Nat.div_le_self _ _
      · rw [Rat.mkRat_self, em]
theorem scVSign : FnScope ["rows", "vector", "first", "below", "second"] ["rows", "vector"] (defScope sVSign) := ⟨rfl, rfl, rfl, by decide +kernel, rfl, by decide +kernel, by decide +kernel⟩
theorem ok_vsign (F : FnP K "vec_sign" sVSign f fd2) (N : TxtN mg) : FnOk P w K mg base CX0 1 f fd2 ["rows", "vector"] spSignQ := by
  refine F.ok scVSign (fun vs H Q E h => ?_) (fun cdv A outer s H vs Q E hr h => ?_)
  · obtain ⟨r, v, n, d, rfl, _⟩ := h
    rfl
  · obtain ⟨r, v, n, d, rfl, ⟨ws, hv, hw⟩, k⟩ := h
    refine ⟨_, PSs.nox (pss_cons (ps_if (pt_not (pt_val (pe_callB (cr_anyT rfl) (by rfl) N.any (by decide +kernel) (pa_cons (pe_slice sl_tup (pe_ix ix_tup (pv 1) pe_int (fun _ _ => rfl)) (po_some pe_int) po_none) pa_nil))))
        (pss_cons (ps_set (i := 2) scVSign.nd rfl (.inl rfl) (pe_ix ix_tup (pe_ix ix_tup (pv 1) pe_int (fun _ _ => rfl)) pe_int (fun _ _ => rfl)))
        (pss_one (ps_ret (pe_ifExp (pt_cmpR op_gt (pv 2) pe_int (nomark _)) pe_int (pe_ifExp (pt_cmpR op_lt (pv 2) pe_int (nomark _)) (pe_un un_neg pe_int) pe_int))))) pss_nil) pss_never), ?_⟩
    refine ⟨_, rfl, v, _, _, _, rfl, rfl, SqT.of hv, at_nat (k := 0) rfl, _, rfl, ws, _, rfl, SqT.of hw, (by show ¬ (1 = 0 ∧ 1 = 1); decide), fun p np => ?_⟩
    have s1 := same_upd (o := .tup []) np
    refine ⟨p, [], rfl, SqT.of upd_same, _, rfl, ?_⟩
    refine iteT ?_
    refine ⟨_, rfl, v, _, _, _, rfl, rfl, SqT.of (s1 _ _ hv), at_nat (k := 0) rfl, ws, _, _, _, rfl, rfl, SqT.of (s1 _ _ hw), at_nat (k := 0) rfl, ?_⟩
    have k1 := k _ s1
    unfold sgn at k1
    refine ⟨_, rfl, _, _, rfl, rfl, _, rfl, ?_⟩
    refine ite2 (fun h => ?_) fun h => ?_
    · rw [if_pos (of_decide_eq_true h)] at k1
      exact k1
    · rw [if_neg fun q => h (decide_eq_true q)] at k1
      refine ⟨_, rfl, _, _, rfl, rfl, _, rfl, ?_⟩
      refine ite2 (fun h => ?_) fun h => ?_
      · rw [if_pos (of_decide_eq_true h)] at k1
        exact ⟨_, rfl, k1⟩
      · rw [if_neg fun q => h (decide_eq_true q)] at k1
        exact k1
theorem scVTurn : FnScope ["rows", "vector", "first", "under", "turned_top", "below", "share", "high"] ["rows", "vector"] (defScope sVTurned) := ⟨rfl, rfl, rfl, by decide +kernel, rfl, by decide +kernel, by decide +kernel⟩
theorem ok_vturn (F : FnP K "vec_turned" sVTurned f fd2) (T : Txt K mg) (N : TxtN mg) : FnOk P w K mg base CX0 1 f fd2 ["rows", "vector"] spTurnQ := by
  refine F.ok scVTurn (fun vs H Q E h => ?_) (fun cdv A outer s H vs Q E hr h => ?_)
  · obtain ⟨r, v, n, d, rfl, _⟩ := h
    rfl
  · obtain ⟨r, v, n, d, rfl, ⟨ws, hv, hw⟩, hn, k⟩ := h
    refine ⟨_, PSs.nox (pss_cons (ps_if (pt_not (pt_val (pe_callB (cr_anyT rfl) (by rfl) N.any (by decide +kernel) (pa_cons (pe_slice sl_tup (pe_ix ix_tup (pv 1) pe_int (fun _ _ => rfl)) (po_some pe_int) po_none) pa_nil))))
        (pss_cons (ps_par (i := 2) (j := 3) (by rfl) scVTurn.nd rfl rfl (by decide) rfl rfl (pa_cons (pe_ix ix_tup (pe_ix ix_tup (pv 1) pe_int (fun _ _ => rfl)) pe_int (fun _ _ => rfl)) (pa_cons (pe_ix ix_tup (pv 1) pe_int (fun _ _ => rfl)) pa_nil)) (by rfl))
        (pss_cons (ps_set (i := 4) scVTurn.nd rfl (.inl rfl) (pe_ifExp (pt_cmpR op_gt (pv 2) pe_int (nomark _)) (pv 3) (pe_un un_neg (pv 3))))
        (pss_one (ps_ret (pe_tup (pa_cons (pe_op op_catT (pe_tup (pa_cons (pv 4) pa_nil)) (pe_op op_repT0 (pe_tup (pa_cons pe_int pa_nil)) (pe_op op_sub (pe_callB call_len_seq (by rfl) T.len PySem.boot_len (pa_cons (pe_ix ix_tup (pv 1) pe_int (fun _ _ => rfl)) pa_nil)) pe_int))) (pa_cons (pe_callB call_abs (by rfl) T.abs (by decide +kernel) (pa_cons (pv 2) pa_nil)) pa_nil))))))) pss_nil) pss_never), ?_⟩
    refine ⟨_, rfl, v, _, _, _, rfl, rfl, SqT.of hv, at_nat (k := 0) rfl, _, rfl, ws, _, rfl, SqT.of hw, (by show ¬ (1 = 0 ∧ 1 = 1); decide), fun p np => ?_⟩
    have s1 := same_upd (o := .tup []) np
    refine ⟨p, [], rfl, SqT.of upd_same, _, rfl, ?_⟩
    refine iteT ?_
    refine ⟨_, rfl, v, _, _, _, rfl, rfl, SqT.of (s1 _ _ hv), at_nat (k := 0) rfl, ws, _, _, _, rfl, rfl, SqT.of (s1 _ _ hw), at_nat (k := 0) rfl, _, rfl, v, _, _, _, rfl, rfl, SqT.of (s1 _ _ hv), at_nat (k := 1) rfl, _, _, rfl, ?_⟩
    refine ⟨_, rfl, _, _, rfl, rfl, _, rfl, ?_⟩
    by_cases hc : 0 < n
    · refine iteTr (decide_eq_true hc) ?_
      refine ⟨_, rfl, ?_⟩
      refine ⟨_, rfl, ?_⟩
      refine ⟨(by show 1 ≤ sizeLine; decide), fun a na => ?_⟩
      have u1 := same_upd (o := .tup [V.int (d : Int)]) na
      refine ⟨(by show 1 ≤ sizeLine; decide), fun z nz => ?_⟩
      have u2 := same_upd (o := .tup [V.int 0]) nz
      have u12 := (s1.trans u1).trans u2
      refine ⟨_, rfl, v, _, _, _, rfl, rfl, SqT.of (u12 _ _ hv), at_nat (k := 0) rfl, ws, _, rfl, .inr (SqT.of (u12 _ _ hw)), _, _, rfl, rfl, ?_⟩
      refine ⟨z, _, rfl, rfl, SqT.of upd_same, (fun e => by cases e), fun y ny => ?_⟩
      have u3 := same_upd (o := .tup []) ny
      refine ⟨a, y, _, _, rfl, rfl, SqT.of (u3 _ _ (u2 _ _ upd_same)), SqT.of upd_same, (fun e => by cases e), (by show 1 ≤ sizeLine; decide), (fun _ => ?_), fun e => absurd rfl e⟩
      refine ⟨_, rfl, _, rfl, (by show 2 ≤ sizeLine; decide), fun q nq => ?_⟩
      have ea : (if n < 0 then -n else n) = ((n.natAbs : Nat) : Int) := by split <;> omega
      rw [ea]
      have u4 := same_upd (o := .tup [.ref a, .int ((n.natAbs : Nat) : Int)]) nq
      refine k q _ ((u12.trans u3).trans u4) ⟨a, upd_same, u4 _ _ (u3 _ _ (u2 _ _ ?_))⟩
      rw [upd_same, if_pos hc]
    · refine iteFr (decide_eq_false hc) ?_
      refine ⟨_, rfl, _, rfl, ?_⟩
      refine ⟨_, rfl, ?_⟩
      refine ⟨(by show 1 ≤ sizeLine; decide), fun a na => ?_⟩
      have u1 := same_upd (o := .tup [V.int (-(d : Int))]) na
      refine ⟨(by show 1 ≤ sizeLine; decide), fun z nz => ?_⟩
      have u2 := same_upd (o := .tup [V.int 0]) nz
      have u12 := (s1.trans u1).trans u2
      refine ⟨_, rfl, v, _, _, _, rfl, rfl, SqT.of (u12 _ _ hv), at_nat (k := 0) rfl, ws, _, rfl, .inr (SqT.of (u12 _ _ hw)), _, _, rfl, rfl, ?_⟩
      refine ⟨z, _, rfl, rfl, SqT.of upd_same, (fun e => by cases e), fun y ny => ?_⟩
      have u3 := same_upd (o := .tup []) ny
      refine ⟨a, y, _, _, rfl, rfl, SqT.of (u3 _ _ (u2 _ _ upd_same)), SqT.of upd_same, (fun e => by cases e), (by show 1 ≤ sizeLine; decide), (fun _ => ?_), fun e => absurd rfl e⟩
      refine ⟨_, rfl, _, rfl, (by show 2 ≤ sizeLine; decide), fun q nq => ?_⟩
      have ea : (if n < 0 then -n else n) = ((n.natAbs : Nat) : Int) := by split <;> omega
      rw [ea]
      have u4 := same_upd (o := .tup [.ref a, .int ((n.natAbs : Nat) : Int)]) nq
      refine k q _ ((u12.trans u3).trans u4) ⟨a, upd_same, u4 _ _ (u3 _ _ (u2 _ _ ?_))⟩
      rw [upd_same, if_neg hc]
end
end Own
set_option Elab.async false
set_option linter.all false
set_option maxRecDepth 100000
set_option maxHeartbeats 1000000
set_option exponentiation.threshold 300
namespace Own
open PySem PySem.Spec PyProof.Rows L2 LamX
/-! ### towers without rows, and Numbers over them -/
def TowQ (CT : Addr) (H : Hp) (t : Addr) : Prop := ∃ dt ft r, H t = some (.ins CT dt ft) ∧ ft.lookup ("rows" : Str) = some (V.ref r) ∧ H r = some (.tup [])
/-- the Number q -/
def NumQ (CT CN : Addr) (H : Hp) (a : Addr) (q : Rat) : Prop := ∃ dx fs t v, H a = some (.ins CN dx fs) ∧ fs.lookup ("tower" : Str) = some (V.ref t) ∧ fs.lookup ("vector" : Str) = some (V.ref v) ∧ TowQ CT H t ∧ VQ H v q.num q.den
theorem TowQ.same {CT : Addr} {H H' : Hp} {t : Addr} (h : TowQ CT H t) (e : Same H H') : TowQ CT H' t := by
  obtain ⟨dt, ft, r, h1, h2, h3⟩ := h
  exact ⟨dt, ft, r, e _ _ h1, h2, e _ _ h3⟩
theorem NumQ.same {CT CN : Addr} {H H' : Hp} {a : Addr} {q : Rat} (h : NumQ CT CN H a q) (e : Same H H') : NumQ CT CN H' a q := by
  obtain ⟨dx, fs, t, v, h1, h2, h3, h4, h5⟩ := h
  exact ⟨dx, fs, t, v, e _ _ h1, h2, h3, h4.same e, h5.same e⟩
theorem kp_tup {x : Addr} {H H' : Hp} {C dx : Addr} {fs : List (Str × V)} (hx : H x = some (.ins C dx fs)) (k : Kp [x] H H') {b : Addr} {l : List V} (hb : H b = some (.tup l)) : H' b = some (.tup l) :=
  k _ _ hb (by simp [ne_of hb hx (by intro z; cases z)])
theorem VQ.kp {x : Addr} {H H' : Hp} {C dx : Addr} {fs : List (Str × V)} (hx : H x = some (.ins C dx fs)) (k : Kp [x] H H') {v : Addr} {n : Int} {d : Nat} (h : VQ H v n d) : VQ H' v n d := by
  obtain ⟨ws, h1, h2⟩ := h
  exact ⟨ws, kp_tup hx k h1, kp_tup hx k h2⟩
theorem TowQ.kp {CT x : Addr} {H H' : Hp} (k : Kp [x] H H') {t : Addr} (nt : t ≠ x) {C dx : Addr} {fs : List (Str × V)} (hx : H x = some (.ins C dx fs)) (h : TowQ CT H t) : TowQ CT H' t := by
  obtain ⟨dt, ft, r, h1, h2, h3⟩ := h
  exact ⟨dt, ft, r, k _ _ h1 (by simp [nt]), h2, kp_tup hx k h3⟩
def spTowQ (CT pE : Addr) : Sp := fun vs H Q _ => ∃ (x dx : Addr), vs = [.ref x, .ref pE, .non] ∧ H x = some (.ins CT dx []) ∧ ∀ H', Kp [x] H H' → TowQ CT H' x → Q .non H'
def spNumQ (CT CN : Addr) : Sp := fun vs H Q _ => ∃ (x dx t : Addr) (pp v : Addr) (n : Int) (d : Nat), vs = [.ref x, .ref t, .ref pp, .ref v] ∧ H x = some (.ins CN dx []) ∧ t ≠ x ∧ TowQ CT H t ∧ VQ H v n d ∧ d ≠ 0 ∧ d.log2 < 9000 ∧
  ∀ H', Kp [x] H H' → NumQ CT CN H' x (mkRat n d) → Q .non H'
def spFracQ (CT CN : Addr) : Sp := fun vs H Q _ => ∃ n : Int, vs = [.int n, .int 1] ∧ ∀ p H', Same H H' → NumQ CT CN H' p (n : Rat) → Q (.ref p) H'
section
variable {P : Program} {w : World} {K : PySem.W.Frag} {mg : Str → Option Value} {base : Heap} {f fR fI fW fL fNd CT CN fT fN pE : Addr} {fd2 fdR fdI fdW fdL dT dN fdNd : FuncData}
theorem ok_towQ (FR : FnP K "rows_of" sRowsOf fR fdR) (gR : mg "rows_of" = some (.ref fR)) (T : Txt K mg) (O : Obj2 K mg CT CN fT fN pE dT dN) : FnOk P w K mg base CX0 2 fT dT ["self", "squares", "known"] (spTowQ CT pE) := by
  have GR : FnOk P w K mg base CX0 1 fR fdR ["squares"] (spRows pE) := ok_rows FR T O
  have bR : Binds K fdR ["squares"] [] := FR.bindsN fun _ _ _ _ _ _ us hl => match us, hl with | [_], _ => rfl
  refine O.FT.ok scTowI (fun vs H Q E h => ?_) (fun cdv A outer s H vs Q E hr h => ?_)
  · obtain ⟨x, dx, rfl, _⟩ := h
    rfl
  · obtain ⟨x, dx, rfl, hx, k⟩ := h
    refine ⟨_, PSs.nox (pss_cons (ps_fld (pv 0) (pe_ifExp (pt_cmpR op_isN (pv 2) pe_non (nomark _)) (pe_call GR hr (by rfl) gR FR.kp bR .nil pass0 (pa_cons (pv 1) pa_nil)) pe_never) rfl)
      (pss_one (ps_fld (pv 0) (pv 1) rfl))), ?_⟩
    refine ⟨_, rfl, rfl, _, rfl, ?_⟩
    refine iteT ?_
    refine ⟨_, rfl, rfl, fun p H1 s1 np hp => ?_⟩
    refine ⟨_, rfl, x, CT, dx, _, rfl, s1 _ _ hx, O.iT.cl, O.n1, by decide, ?_⟩
    refine ⟨_, rfl, _, rfl, x, CT, dx, _, rfl, upd_same, O.iT.cl, O.n2, by show (1 : Nat) < 1000; decide, ?_⟩
    refine k _ (((Kp.of s1).trans (Kp.upd (by simp))).trans (Kp.upd (by simp))) ⟨dx, _, p, upd_same, rfl, ?_⟩
    have npx : p ≠ x := fun z => by
      rw [z, hx] at np
      cases np
    rw [upd_ne npx, upd_ne npx]
    exact hp
theorem ok_numQ (KW : Fk P w K mg base CX0 1 "need_tower" fdW ["value"] (spNeedT CT)) (KL : Fk P w K mg base CX0 1 "vec_lowest" fdL ["vector"] spLowQ) (T : Txt K mg) (O : Obj2 K mg CT CN fT fN pE dT dN) :
    FnOk P w K mg base CX0 2 fN dN ["self", "tower", "parts", "known"] (spNumQ CT CN) := by
  refine O.FN.ok scNumI (fun vs H Q E h => ?_) (fun cdv A outer s H vs Q E hr h => ?_)
  · obtain ⟨x, dx, t, pp, v, n, d, rfl, _⟩ := h
    rfl
  · obtain ⟨x, dx, t, pp, v, n, d, rfl, hx, nt, ht, hv, hd, hl, k⟩ := h
    refine ⟨_, PSs.nox (pss_cons (ps_expr (pe_call KW.ok hr (by rfl) KW.g KW.kp KW.b .nil pass0 (pa_cons (pv 1) pa_nil)))
      (pss_cons (ps_if (PW.pt (pw_and (pt_cmpR op_isN (pv 3) pe_non (nomark _)) (pw_and1 pt_never))) pss_never pss_nil)
      (pss_cons (ps_fld (pv 0) (pv 1) rfl)
      (pss_one (ps_fld (pv 0) (pe_ifExp (pt_cmpR op_isN (pv 3) pe_non (nomark _)) pe_never (pe_call KL.ok hr (by rfl) KL.g KL.kp KL.b .nil pass0 (pa_cons (pv 3) pa_nil))) rfl))))), ?_⟩
    obtain ⟨dt, ft, r, ht1, ht2, ht3⟩ := id ht
    refine ⟨_, rfl, t, dt, ft, rfl, ht1, ?_⟩
    refine ⟨_, rfl, rfl, _, rfl, ?_⟩
    refine iteF ?_
    refine iteF ?_
    refine ⟨_, rfl, _, rfl, x, CN, dx, _, rfl, hx, O.cN, O.n3, by decide, ?_⟩
    have k1 : Kp [x] H (L2.upd H x (.ins CN dx (putF "tower" (V.ref t) []))) := Kp.upd (by simp)
    have hx1 := upd_same (H := H) (a := x) (o := .ins CN dx (putF "tower" (V.ref t) []))
    refine ⟨_, rfl, rfl, _, rfl, ?_⟩
    refine iteF ?_
    refine ⟨_, rfl, v, n, d, rfl, hv.kp hx k1, hd, hl, fun r2 H2 s2 h2 => ?_⟩
    refine ⟨_, rfl, x, CN, dx, _, rfl, s2 _ _ hx1, O.cN, O.n4, by show (1 : Nat) < 1000; decide, ?_⟩
    have k3 : Kp [x] H2 (L2.upd H2 x (.ins CN dx (putF "vector" (V.ref r2) (putF "tower" (V.ref t) [])))) := Kp.upd (by simp)
    have kA := (k1.trans (Kp.of s2)).trans k3
    exact k _ kA ⟨dx, _, t, r2, upd_same, rfl, rfl, ht.kp kA nt hx, h2.kp (s2 _ _ hx1) k3⟩
theorem ok_fracQ (F : FunD K "fraction" "fraction" (defArgs sFrac) (defBody sFrac) (defScope sFrac) [.int 1] [] f fd2) (KI : Fk P w K mg base CX0 1 "is_whole" fdI ["value"] (spWhole K)) (GT : FnOk P w K mg base CX0 2 fT dT ["self", "squares", "known"] (spTowQ CT pE)) (GN : FnOk P w K mg base CX0 2 fN dN ["self", "tower", "parts", "known"] (spNumQ CT CN)) (O : Obj2 K mg CT CN fT fN pE dT dN) :
    FnOk P w K mg base CX0 4 f fd2 ["n", "d"] (spFracQ CT CN) := by
  obtain ⟨dsT, vT, bT⟩ := O.FT.binds1 (ps := ["self", "squares", "known"]) 1 0 (by simp) rfl fun T kV doc pm an cdv ct us its l1 l2 => match us, its, l1, l2 with | [_], [_, _], _, _ => ⟨_, rfl, rfl⟩
  obtain ⟨dsN, vN, bN⟩ := O.FN.binds1 (ps := ["self", "tower", "parts", "known"]) 4 1 (by simp) rfl fun T kV doc pm an cdv ct us its l1 l2 => match us, its, l1, l2 with | [_, _, _, _], [_], _, _ => ⟨_, rfl, rfl⟩
  refine F.ok scFrac (fun vs H Q E h => ?_) (fun cdv A outer s H vs Q E hr h => ?_)
  · obtain ⟨n, rfl, _⟩ := h
    rfl
  · obtain ⟨n, rfl, k⟩ := h
    have hr1 := hr.mono (show 1 ≤ 3 by decide)
    refine ⟨_, PSs.nox (pss_cons (ps_if (PW.pt (pw_or (pt_not (pt_val (pe_call KI.ok hr1 (by rfl) KI.g KI.kp KI.b .nil pass0 (pa_cons (pv 0) pa_nil)))) (pw_or (pt_not (pt_val (pe_call KI.ok hr1 (by rfl) KI.g KI.kp KI.b .nil pass0 (pa_cons (pv 1) pa_nil))))
        (pw_or1 (pt_cmpR op_lt (pv 1) pe_int (nomark _)))))) pss_never pss_nil)
      (pss_one (ps_ret (pe_make O.kN GN hr (by rfl) O.gN bN vN pass0 (pa_cons (pe_make0 O.kT GT hr (by rfl) O.gT bT vT pass0) (pa_cons (pe_tup pa_nil) (pa_cons (pe_tup (pa_cons (pe_tup (pa_cons (pv 0) pa_nil)) (pa_cons (pv 1) pa_nil))) pa_nil))))))), ?_⟩
    refine ⟨_, rfl, .int n, true, false, rfl, Kind.int n, _, rfl, ?_⟩
    refine iteF ?_
    refine ⟨_, rfl, .int 1, true, false, rfl, Kind.int 1, _, rfl, ?_⟩
    refine iteF ?_
    refine ⟨_, rfl, _, _, rfl, rfl, _, rfl, ?_⟩
    refine iteF ?_
    intro x dx nx ndx ne
    refine ⟨x, dx, rfl, upd_same, fun H1 k1 h1 => ⟨rfl, ?_⟩⟩
    have s1 := made_same nx ndx ne k1
    refine ⟨(by show 0 ≤ sizeLine; decide), fun pp npp => ?_⟩
    have s2 := same_upd (o := .tup []) npp
    refine ⟨_, rfl, (by show 1 ≤ sizeLine; decide), fun ws nws => ⟨_, rfl, (by show 2 ≤ sizeLine; decide), fun v nv => ?_⟩⟩
    have s3 := same_upd (o := .tup [.int n]) nws
    have s4 := same_upd (o := .tup [.ref ws, .int 1]) nv
    have sA := (s2.trans s3).trans s4
    have hv : VQ (L2.upd (L2.upd (L2.upd H1 pp (.tup [])) ws (.tup [.int n])) v (.tup [.ref ws, .int 1])) v n 1 := VQ.new nws nv
    have h1A := h1.same sA
    generalize L2.upd (L2.upd (L2.upd H1 pp (.tup [])) ws (.tup [.int n])) v (.tup [.ref ws, .int 1]) = H4 at hv h1A sA
    intro y dy ny ndy ne2
    have sY : Same H4 (L2.upd (L2.upd H4 dy (.own y)) y (.ins CN dy [])) := fun b o e => by
      rw [upd_ne (ne_of_none e ny), upd_ne (ne_of_none e ndy)]
      exact e
    have nxy : x ≠ y := by
      rintro rfl
      obtain ⟨_, _, _, e, _⟩ := h1A
      rw [ny] at e
      cases e
    refine ⟨y, dy, x, pp, v, n, 1, rfl, upd_same, nxy, h1A.same sY, hv.same sY, by decide, by decide, fun H5 k5 h5 => ⟨rfl, ?_⟩⟩
    refine k y H5 ((s1.trans sA).trans (made_same ny ndy ne2 k5)) ?_
    have e : mkRat n 1 = (n : Rat) := Rat.mkRat_one n
    rw [e] at h5
    exact h5
end
end Own
set_option Elab.async false
set_option linter.all false
set_option maxRecDepth 100000
set_option maxHeartbeats 1000000
set_option exponentiation.threshold 300
namespace Own
open PySem PySem.Spec PyProof.Rows L2 LamX
/-! ### sums, differences, products, quotients, signs of Numbers over towers without rows -/
def spNeedNum (CN : Addr) : Sp := fun vs H Q _ => ∃ (x dx : Addr) (fs : List (Str × V)), vs = [.ref x] ∧ H x = some (.ins CN dx fs) ∧ Q .non H
def spUnited (CT : Addr) : Sp := fun vs H Q _ => ∃ (t1 t2 : Addr), vs = [.ref t1, .ref t2] ∧ TowQ CT H t1 ∧ TowQ CT H t2 ∧ ∀ p l H', Same H H' → H' p = some (.tup [.ref t2, .ref l]) → H' l = some (.lst []) → Q (.ref p) H'
def spLev (CT CN : Addr) : Sp := fun vs H Q _ => ∃ (a b : Addr) (x y : Rat), vs = [.ref a, .ref b] ∧ NumQ CT CN H a x ∧ NumQ CT CN H b y ∧
  ∀ p t v1 v2 H', Same H H' → H' p = some (.tup [.ref t, .ref v1, .ref v2]) → TowQ CT H' t → VQ H' v1 x.num x.den → VQ H' v2 y.num y.den → Q (.ref p) H'
def spOp (CT CN : Addr) (ok : Rat → Rat → Prop) (op : Rat → Rat → Rat) : Sp := fun vs H Q _ => ∃ (a b : Addr) (x y : Rat), vs = [.ref a, .ref b] ∧ NumQ CT CN H a x ∧ NumQ CT CN H b y ∧ ok x y ∧ ∀ p H', Same H H' → NumQ CT CN H' p (op x y) → Q (.ref p) H'
def spSgn (CT CN : Addr) : Sp := fun vs H Q _ => ∃ (a : Addr) (x : Rat), vs = [.ref a] ∧ NumQ CT CN H a x ∧ ∀ H', Same H H' → Q (.int (sgn x.num)) H'
theorem log2_mono {a b : Nat} (h : a ≤ b) : a.log2 ≤ b.log2 := by
  by_cases h0 : a = 0
  · subst h0
    simp
  · exact (Nat.le_log2 (by omega)).mpr (Nat.le_trans (Nat.log2_self_le h0) h)
/-- sums and products may be taken -/
def Ok2 (x y : Rat) : Prop := Sz x.num x.den ∧ Sz y.num y.den ∧ (x.den * y.den).log2 < 9000
/-- quotients may be taken -/
def OkD (x y : Rat) : Prop := Sz x.num x.den ∧ Sz y.num y.den ∧ y ≠ 0 ∧ (x.den * y.num.natAbs).log2 < 9000 ∧ y.num.natAbs.log2 < 9000 ∧ y.den.log2 < 9000
section
variable {P : Program} {w : World} {K : PySem.W.Frag} {mg : Str → Option Value} {base : Heap} {f CT CN fT fN pE : Addr} {fd2 dT dN fdN fdU fdW fdL fdP fdM fdT fdS : FuncData}
theorem scNeedNum : FnScope ["value"] ["value"] (defScope sNeedNum) := ⟨rfl, rfl, rfl, by decide +kernel, rfl, by decide +kernel, by decide +kernel⟩
theorem ok_neednum (F : FnP K "need_number" sNeedNum f fd2) (T : Txt K mg) (O : Obj2 K mg CT CN fT fN pE dT dN) : FnOk P w K mg base CX0 1 f fd2 ["value"] (spNeedNum CN) := by
  refine F.ok scNeedNum (fun vs H Q E h => ?_) (fun cdv A outer s H vs Q E hr h => ?_)
  · obtain ⟨x, dx, fs, rfl, _⟩ := h
    rfl
  · obtain ⟨x, dx, fs, rfl, hx, k⟩ := h
    refine ⟨_, PSs.nox (pss_one (ps_if (pt_not (pt_val (pe_callB (C8.call_isC O.iN) (by rfl) T.isi boot_isinstance (pa_cons (pv 0) (pa_cons (pe_glob (v := .ref CN) (by rfl) O.gN rfl) pa_nil))))) pss_never pss_nil)), ?_⟩
    refine ⟨_, rfl, x, dx, fs, rfl, hx, _, rfl, ?_⟩
    exact iteF k
theorem scUnited : FnScope ["tower", "towards", "many", "at", "rows", "images"] ["tower", "towards"] (defScope sUnited) := ⟨rfl, rfl, rfl, by decide +kernel, rfl, by decide +kernel, by decide +kernel⟩
theorem eq_empty {K : PySem.W.Frag} {H : Hp} {a b : Addr} {Q : VK} (ha : SqT K H a []) (hb : SqT K H b []) (q : Q (.bl true) H) : rEqD K (.ref a) (.ref b) H Q := ⟨.tuple [], .tuple [], .tup ha .nil, .tup hb .nil, rfl, rfl, q⟩
theorem ok_united (F : FnP K "united" sUnited f fd2) (T : Txt K mg) (O : Obj2 K mg CT CN fT fN pE dT dN) : FnOk P w K mg base CX0 1 f fd2 ["tower", "towards"] (spUnited CT) := by
  refine F.ok scUnited (fun vs H Q E h => ?_) (fun cdv A outer s H vs Q E hr h => ?_)
  · obtain ⟨t1, t2, rfl, _⟩ := h
    rfl
  · obtain ⟨t1, t2, rfl, ⟨d1, f1, r1, a1, a2, a3⟩, ⟨d2, f2, r2, b1, b2, b3⟩, k⟩ := h
    refine ⟨_, PSs.nox (pss_cons (ps_set (i := 2) scUnited.nd rfl (.inr rfl) (pe_callB call_len_seq (by rfl) T.len PySem.boot_len (pa_cons (pe_fld (pv 1) rfl) pa_nil)))
      (pss_cons (ps_if (pt_cmpR (op_eqD hr.units) (pe_slice sl_tupA (pe_fld (pv 1) rfl) po_none (po_some (pe_callB call_len_seq (by rfl) T.len PySem.boot_len (pa_cons (pe_fld (pv 0) rfl) pa_nil)))) (pe_fld (pv 0) rfl) (nomark _))
        (pss_one (ps_ret (pe_tup (pa_cons (pv 1) (pa_cons (pe_lc (own := [("at", 3)]) (g := gName 3) (tt := tYes) (by rfl) scUnited.nd (pi_range1 (by rfl) T.range (pa_cons (pv 2) pa_nil)) (blkOk_by (own := [("at", 3)]) (N := ["tower", "towards", "many", "at", "rows", "images"]) (sc := defScope sUnited) (by decide +kernel))
          (fun _ _ _ _ _ => pg_name (i := 3) scUnited.nd rfl (Or.inl rfl)) (fun _ _ _ _ _ => pts_nil) (fun _ _ _ _ _ => pe_never)) pa_nil))))) pss_nil) pss_never)), ?_⟩
    refine ⟨_, rfl, t2, CT, d2, f2, _, rfl, b1, O.iT.cl, O.n1, b2, r2, _, rfl, .inr (SqT.of b3), ?_⟩
    refine ⟨_, rfl, t2, CT, d2, f2, _, rfl, b1, O.iT.cl, O.n1, b2, _, rfl, t1, CT, d1, f1, _, rfl, a1, O.iT.cl, O.n1, a2, r1, _, rfl, .inr (SqT.of a3), _, rfl, r2, _, rfl, SqT.of b3, (fun _ => ?_), fun h => absurd ⟨rfl, rfl⟩ h⟩
    refine ⟨_, rfl, t1, CT, d1, f1, _, rfl, a1, O.iT.cl, O.n1, a2, eq_empty (SqT.of b3) (SqT.of a3) ?_⟩
    refine ⟨_, rfl, ?_⟩
    refine iteT ?_
    refine ⟨_, rfl, _, rfl, 0, rfl, by decide, by decide, fun D nD => ?_⟩
    refine lc_it (te := fun _ _ _ => False) (walk_range (lo := 0) (n := Int.toNat 0)) (fun i G => G = L2.upd H D (.lst [])) rfl (fun _ _ _ _ => trivial) (fun i x G G' hi => absurd hi (Nat.not_lt_zero _)) ?_
    rintro G rfl
    have s1 := same_upd (o := .lst []) nD
    refine ⟨(by show 2 ≤ sizeLine; decide), fun p np => ?_⟩
    have s2 := same_upd (o := .tup [.ref t2, .ref D]) np
    exact k p D _ (s1.trans s2) upd_same (s2 _ _ upd_same)
theorem scLev : FnScope ["one", "other", "tower", "images", "many"] ["one", "other"] (defScope sLevelled) := ⟨rfl, rfl, rfl, by decide +kernel, rfl, by decide +kernel, by decide +kernel⟩
theorem ok_lev (F : FnP K "levelled" sLevelled f fd2) (T : Txt K mg) (O : Obj2 K mg CT CN fT fN pE dT dN) (KN : Fk P w K mg base CX0 1 "need_number" fdN ["value"] (spNeedNum CN)) (KU : Fk P w K mg base CX0 1 "united" fdU ["tower", "towards"] (spUnited CT)) (KW : Fk P w K mg base CX0 1 "vec_wide" fdW ["vector", "many"] spWideQ) :
    FnOk P w K mg base CX0 2 f fd2 ["one", "other"] (spLev CT CN) := by
  refine F.ok scLev (fun vs H Q E h => ?_) (fun cdv A outer s H vs Q E hr h => ?_)
  · obtain ⟨a, b, x, y, rfl, _⟩ := h
    rfl
  · obtain ⟨a, b, x, y, rfl, na, nb, k⟩ := h
    obtain ⟨dxa, fa, ta, va, a1, a2, a3, a4, a5⟩ := id na
    obtain ⟨dxb, fb, tb, vb, b1, b2, b3, b4, b5⟩ := id nb
    refine ⟨_, PSs.nox (pss_cons (ps_expr (pe_call KN.ok hr (by rfl) KN.g KN.kp KN.b .nil pass0 (pa_cons (pv 0) pa_nil))) (pss_cons (ps_expr (pe_call KN.ok hr (by rfl) KN.g KN.kp KN.b .nil pass0 (pa_cons (pv 1) pa_nil)))
      (pss_cons (ps_asg (pe_call KU.ok hr (by rfl) KU.g KU.kp KU.b .nil pass0 (pa_cons (pe_fld (pv 0) rfl) (pa_cons (pe_fld (pv 1) rfl) pa_nil))) (pg_tup rfl (pgs_cons (pg_name (i := 2) scLev.nd rfl (.inl rfl)) (pgs_cons (pg_name (i := 3) scLev.nd rfl (.inl rfl)) pgs_nil))))
      (pss_cons (ps_set (i := 4) scLev.nd rfl (.inl rfl) (pe_callB call_len_seq (by rfl) T.len PySem.boot_len (pa_cons (pe_fld (pv 2) rfl) pa_nil)))
      (pss_cons (ps_if (pt_cmpR (op_eqD hr.units) (pe_slice sl_tupA (pe_fld (pv 2) rfl) po_none (po_some (pe_callB call_len_seq (by rfl) T.len PySem.boot_len (pa_cons (pv 3) pa_nil)))) (pe_fld (pe_fld (pv 1) rfl) rfl) (nomark _))
        (pss_one (ps_ret (pe_tup (pa_cons (pv 2) (pa_cons (pe_call KW.ok hr (by rfl) KW.g KW.kp KW.b .nil pass0 (pa_cons (pe_fld (pv 0) rfl) (pa_cons (pv 4) pa_nil))) (pa_cons (pe_call KW.ok hr (by rfl) KW.g KW.kp KW.b .nil pass0 (pa_cons (pe_fld (pv 1) rfl) (pa_cons (pv 4) pa_nil))) pa_nil)))))) pss_nil) pss_never))))), ?_⟩
    refine ⟨_, rfl, a, dxa, fa, rfl, a1, ?_⟩
    refine ⟨_, rfl, b, dxb, fb, rfl, b1, ?_⟩
    refine ⟨_, rfl, a, CN, dxa, fa, _, rfl, a1, O.cN, O.n3, a2, _, rfl, b, CN, dxb, fb, _, rfl, b1, O.cN, O.n3, b2, ta, tb, rfl, a4, b4, fun p l H1 s1 hp hl => ?_⟩
    refine ⟨p, _, rfl, SqT.of hp, rfl, _, _, rfl, _, _, rfl, rfl, ?_⟩
    obtain ⟨d2, f2, r2, c1, c2, c3⟩ := b4.same s1
    refine ⟨_, rfl, tb, CT, d2, f2, _, rfl, c1, O.iT.cl, O.n1, c2, r2, _, rfl, .inr (SqT.of c3), ?_⟩
    refine ⟨_, rfl, tb, CT, d2, f2, _, rfl, c1, O.iT.cl, O.n1, c2, _, rfl, l, _, rfl, .inl (SqL.of hl), _, rfl, r2, _, rfl, SqT.of c3, (fun _ => ?_), fun h => absurd ⟨rfl, rfl⟩ h⟩
    refine ⟨_, rfl, b, CN, dxb, fb, _, rfl, s1 _ _ b1, O.cN, O.n3, b2, tb, CT, d2, f2, _, rfl, c1, O.iT.cl, O.n1, c2, eq_empty (SqT.of c3) (SqT.of c3) ?_⟩
    refine ⟨_, rfl, ?_⟩
    refine iteT ?_
    refine ⟨_, rfl, _, rfl, a, CN, dxa, fa, _, rfl, s1 _ _ a1, O.cN, O.n4, a3, _, rfl, va, x.num, x.den, rfl, a5.same s1, fun v1 H2 s2 h2 => ?_⟩
    have s12 := s1.trans s2
    refine ⟨_, rfl, b, CN, dxb, fb, _, rfl, s12 _ _ b1, O.cN, O.n4, b3, _, rfl, vb, y.num, y.den, rfl, b5.same s12, fun v2 H3 s3 h3 => ?_⟩
    refine ⟨(by show 3 ≤ sizeLine; decide), fun q nq => ?_⟩
    have s4 := same_upd (o := .tup [.ref tb, .ref v1, .ref v2]) nq
    have s14 := (s12.trans s3).trans s4
    exact k q tb v1 v2 _ s14 upd_same (b4.same s14) ((h2.same s3).same s4) (h3.same s4)
/-- a Number is made of a tower and a vector, and told -/
theorem scPlusN : FnScope ["one", "other", "tower", "first", "second"] ["one", "other"] (defScope sPlus) := ⟨rfl, rfl, rfl, by decide +kernel, rfl, by decide +kernel, by decide +kernel⟩
theorem scMinusN : FnScope ["one", "other", "tower", "first", "second"] ["one", "other"] (defScope sMinus) := ⟨rfl, rfl, rfl, by decide +kernel, rfl, by decide +kernel, by decide +kernel⟩
theorem scTimesN : FnScope ["one", "other", "tower", "first", "second"] ["one", "other"] (defScope sTimes) := ⟨rfl, rfl, rfl, by decide +kernel, rfl, by decide +kernel, by decide +kernel⟩
theorem scOverN : FnScope ["one", "other", "tower", "first", "second"] ["one", "other"] (defScope sOver) := ⟨rfl, rfl, rfl, by decide +kernel, rfl, by decide +kernel, by decide +kernel⟩
/-- what stands behind the making of a Number of tower t and vector v -/
theorem make_num {H0 : Hp} {t v : Addr} {n : Int} {d : Nat} (ht : TowQ CT H0 t) (hv : VQ H0 v n d) (hd : d ≠ 0) (hl : d.log2 < 9000) {pp : Addr} {Q : VK} {E : XK} (k : ∀ y H', Same H0 H' → NumQ CT CN H' y (mkRat n d) → Q (.ref y) H') :
    ∀ y dy, H0 y = none → H0 dy = none → dy ≠ y → spNumQ CT CN [.ref y, .ref t, .ref pp, .ref v] (L2.upd (L2.upd H0 dy (.own y)) y (.ins CN dy [])) (fun r H' => r = .non ∧ Q (.ref y) H') E := fun y dy ny ndy ne => by
  have sY : Same H0 (L2.upd (L2.upd H0 dy (.own y)) y (.ins CN dy [])) := fun b o e => by
    rw [upd_ne (ne_of_none e ny), upd_ne (ne_of_none e ndy)]
    exact e
  have nty : t ≠ y := by
    rintro rfl
    obtain ⟨_, _, _, e, _⟩ := ht
    rw [ny] at e
    cases e
  exact ⟨y, dy, t, pp, v, n, d, rfl, upd_same, nty, ht.same sY, hv.same sY, hd, hl, fun H5 k5 h5 => ⟨rfl, k y H5 (made_same ny ndy ne k5) h5⟩⟩
theorem ok_plusN (F : FnP K "plus" sPlus f fd2) (O : Obj2 K mg CT CN fT fN pE dT dN) (KL : Fk P w K mg base CX0 2 "levelled" fdL ["one", "other"] (spLev CT CN)) (KP : Fk P w K mg base CX0 1 "vec_plus" fdP ["one", "other"] spPlusQ) (GN : FnOk P w K mg base CX0 2 fN dN ["self", "tower", "parts", "known"] (spNumQ CT CN)) :
    FnOk P w K mg base CX0 4 f fd2 ["one", "other"] (spOp CT CN Ok2 (· + ·)) := by
  obtain ⟨dsN, vN, bN⟩ := O.FN.binds1 (ps := ["self", "tower", "parts", "known"]) 4 1 (by simp) rfl fun T kV doc pm an cdv ct us its l1 l2 => match us, its, l1, l2 with | [_, _, _, _], [_], _, _ => ⟨_, rfl, rfl⟩
  refine F.ok scPlusN (fun vs H Q E h => ?_) (fun cdv A outer s H vs Q E hr h => ?_)
  · obtain ⟨a, b, x, y, rfl, _⟩ := h
    rfl
  · obtain ⟨a, b, x, y, rfl, na, nb, ⟨z1, z2, zl⟩, k⟩ := h
    have hr1 := hr.mono (show 1 ≤ 3 by decide)
    have hr2 := hr.mono (show 2 ≤ 3 by decide)
    refine ⟨_, PSs.nox (pss_cons (ps_asg (pe_call KL.ok hr2 (by rfl) KL.g KL.kp KL.b .nil pass0 (pa_cons (pv 0) (pa_cons (pv 1) pa_nil))) (pg_tup rfl (pgs_cons (pg_name (i := 2) scPlusN.nd rfl (.inl rfl)) (pgs_cons (pg_name (i := 3) scPlusN.nd rfl (.inl rfl)) (pgs_cons (pg_name (i := 4) scPlusN.nd rfl (.inl rfl)) pgs_nil)))))
      (pss_one (ps_ret (pe_make O.kN GN hr (by rfl) O.gN bN vN pass0 (pa_cons (pv 2) (pa_cons (pe_tup pa_nil) (pa_cons (pe_call KP.ok hr1 (by rfl) KP.g KP.kp KP.b .nil pass0 (pa_cons (pv 3) (pa_cons (pv 4) pa_nil))) pa_nil))))))), ?_⟩
    refine ⟨_, rfl, _, rfl, a, b, x, y, rfl, na, nb, fun p t v1 v2 H1 s1 hp ht h1 h2 => ?_⟩
    refine ⟨p, _, rfl, SqT.of hp, rfl, _, _, rfl, _, _, rfl, _, _, rfl, rfl, ?_⟩
    refine ⟨_, rfl, (by show 0 ≤ sizeLine; decide), fun pp npp => ?_⟩
    have s2 := same_upd (o := .tup []) npp
    refine ⟨_, rfl, _, rfl, v1, v2, x.num, y.num, x.den, y.den, rfl, h1.same s2, h2.same s2, x.den_nz, y.den_nz, z1, z2, fun r n d H3 s3 h3 hd hle he => ?_⟩
    refine make_num (ht.same (s2.trans s3)) h3 hd ?_ fun q H4 s4 h4 => ?_
    · exact Nat.lt_of_le_of_lt (log2_mono hle) zl
    · rw [he, Rat.mkRat_self, Rat.mkRat_self] at h4
      exact k q H4 (((s1.trans s2).trans s3).trans s4) h4
theorem ok_minusN (F : FnP K "minus" sMinus f fd2) (O : Obj2 K mg CT CN fT fN pE dT dN) (KL : Fk P w K mg base CX0 2 "levelled" fdL ["one", "other"] (spLev CT CN)) (KP : Fk P w K mg base CX0 2 "vec_less" fdP ["one", "other"] spLessQ) (GN : FnOk P w K mg base CX0 2 fN dN ["self", "tower", "parts", "known"] (spNumQ CT CN)) :
    FnOk P w K mg base CX0 4 f fd2 ["one", "other"] (spOp CT CN Ok2 (· - ·)) := by
  obtain ⟨dsN, vN, bN⟩ := O.FN.binds1 (ps := ["self", "tower", "parts", "known"]) 4 1 (by simp) rfl fun T kV doc pm an cdv ct us its l1 l2 => match us, its, l1, l2 with | [_, _, _, _], [_], _, _ => ⟨_, rfl, rfl⟩
  refine F.ok scMinusN (fun vs H Q E h => ?_) (fun cdv A outer s H vs Q E hr h => ?_)
  · obtain ⟨a, b, x, y, rfl, _⟩ := h
    rfl
  · obtain ⟨a, b, x, y, rfl, na, nb, ⟨z1, z2, zl⟩, k⟩ := h
    have hr2 := hr.mono (show 2 ≤ 3 by decide)
    refine ⟨_, PSs.nox (pss_cons (ps_asg (pe_call KL.ok hr2 (by rfl) KL.g KL.kp KL.b .nil pass0 (pa_cons (pv 0) (pa_cons (pv 1) pa_nil))) (pg_tup rfl (pgs_cons (pg_name (i := 2) scMinusN.nd rfl (.inl rfl)) (pgs_cons (pg_name (i := 3) scMinusN.nd rfl (.inl rfl)) (pgs_cons (pg_name (i := 4) scMinusN.nd rfl (.inl rfl)) pgs_nil)))))
      (pss_one (ps_ret (pe_make O.kN GN hr (by rfl) O.gN bN vN pass0 (pa_cons (pv 2) (pa_cons (pe_tup pa_nil) (pa_cons (pe_call KP.ok hr2 (by rfl) KP.g KP.kp KP.b .nil pass0 (pa_cons (pv 3) (pa_cons (pv 4) pa_nil))) pa_nil))))))), ?_⟩
    refine ⟨_, rfl, _, rfl, a, b, x, y, rfl, na, nb, fun p t v1 v2 H1 s1 hp ht h1 h2 => ?_⟩
    refine ⟨p, _, rfl, SqT.of hp, rfl, _, _, rfl, _, _, rfl, _, _, rfl, rfl, ?_⟩
    refine ⟨_, rfl, (by show 0 ≤ sizeLine; decide), fun pp npp => ?_⟩
    have s2 := same_upd (o := .tup []) npp
    refine ⟨_, rfl, _, rfl, v1, v2, x.num, y.num, x.den, y.den, rfl, h1.same s2, h2.same s2, x.den_nz, y.den_nz, z1, z2, fun r n d H3 s3 h3 hd hle he => ?_⟩
    refine make_num (ht.same (s2.trans s3)) h3 hd ?_ fun q H4 s4 h4 => ?_
    · exact Nat.lt_of_le_of_lt (log2_mono hle) zl
    · rw [he, Rat.mkRat_self, Rat.mkRat_self] at h4
      exact k q H4 (((s1.trans s2).trans s3).trans s4) h4
theorem ok_timesN (F : FnP K "times" sTimes f fd2) (O : Obj2 K mg CT CN fT fN pE dT dN) (KL : Fk P w K mg base CX0 2 "levelled" fdL ["one", "other"] (spLev CT CN)) (KP : Fk P w K mg base CX0 3 "vec_times" fdP ["rows", "one", "other"] (spTimesQ K)) (GN : FnOk P w K mg base CX0 2 fN dN ["self", "tower", "parts", "known"] (spNumQ CT CN)) :
    FnOk P w K mg base CX0 4 f fd2 ["one", "other"] (spOp CT CN Ok2 (· * ·)) := by
  obtain ⟨dsN, vN, bN⟩ := O.FN.binds1 (ps := ["self", "tower", "parts", "known"]) 4 1 (by simp) rfl fun T kV doc pm an cdv ct us its l1 l2 => match us, its, l1, l2 with | [_, _, _, _], [_], _, _ => ⟨_, rfl, rfl⟩
  refine F.ok scTimesN (fun vs H Q E h => ?_) (fun cdv A outer s H vs Q E hr h => ?_)
  · obtain ⟨a, b, x, y, rfl, _⟩ := h
    rfl
  · obtain ⟨a, b, x, y, rfl, na, nb, ⟨z1, z2, zl⟩, k⟩ := h
    have hr2 := hr.mono (show 2 ≤ 3 by decide)
    refine ⟨_, PSs.nox (pss_cons (ps_asg (pe_call KL.ok hr2 (by rfl) KL.g KL.kp KL.b .nil pass0 (pa_cons (pv 0) (pa_cons (pv 1) pa_nil))) (pg_tup rfl (pgs_cons (pg_name (i := 2) scTimesN.nd rfl (.inl rfl)) (pgs_cons (pg_name (i := 3) scTimesN.nd rfl (.inl rfl)) (pgs_cons (pg_name (i := 4) scTimesN.nd rfl (.inl rfl)) pgs_nil)))))
      (pss_one (ps_ret (pe_make O.kN GN hr (by rfl) O.gN bN vN pass0 (pa_cons (pv 2) (pa_cons (pe_tup pa_nil) (pa_cons (pe_call KP.ok hr (by rfl) KP.g KP.kp KP.b .nil pass0 (pa_cons (pe_fld (pv 2) rfl) (pa_cons (pv 3) (pa_cons (pv 4) pa_nil)))) pa_nil))))))), ?_⟩
    refine ⟨_, rfl, _, rfl, a, b, x, y, rfl, na, nb, fun p t v1 v2 H1 s1 hp ht h1 h2 => ?_⟩
    refine ⟨p, _, rfl, SqT.of hp, rfl, _, _, rfl, _, _, rfl, _, _, rfl, rfl, ?_⟩
    refine ⟨_, rfl, (by show 0 ≤ sizeLine; decide), fun pp npp => ?_⟩
    have s2 := same_upd (o := .tup []) npp
    obtain ⟨dt, ft, rw, c1, c2, c3⟩ := ht.same s2
    refine ⟨_, rfl, t, CT, dt, ft, _, rfl, c1, O.iT.cl, O.n1, c2, _, rfl, _, rfl, rw, v1, v2, x.num, y.num, x.den, y.den, rfl, SqT.of c3, h1.same s2, h2.same s2, x.den_nz, y.den_nz, z1, z2, zl, fun r n d H3 s3 h3 hd hle he => ?_⟩
    refine make_num (ht.same (s2.trans s3)) h3 hd ?_ fun q H4 s4 h4 => ?_
    · exact Nat.lt_of_le_of_lt (log2_mono hle) zl
    · rw [he, Rat.mkRat_self, Rat.mkRat_self] at h4
      exact k q H4 (((s1.trans s2).trans s3).trans s4) h4
theorem ok_overN (F : FnP K "over" sOver f fd2) (N : TxtN mg) (O : Obj2 K mg CT CN fT fN pE dT dN) (KL : Fk P w K mg base CX0 2 "levelled" fdL ["one", "other"] (spLev CT CN)) (KP : Fk P w K mg base CX0 3 "vec_times" fdP ["rows", "one", "other"] (spTimesQ K)) (KT : Fk P w K mg base CX0 1 "vec_turned" fdT ["rows", "vector"] spTurnQ) (GN : FnOk P w K mg base CX0 2 fN dN ["self", "tower", "parts", "known"] (spNumQ CT CN)) :
    FnOk P w K mg base CX0 4 f fd2 ["one", "other"] (spOp CT CN OkD (· / ·)) := by
  obtain ⟨dsN, vN, bN⟩ := O.FN.binds1 (ps := ["self", "tower", "parts", "known"]) 4 1 (by simp) rfl fun T kV doc pm an cdv ct us its l1 l2 => match us, its, l1, l2 with | [_, _, _, _], [_], _, _ => ⟨_, rfl, rfl⟩
  refine F.ok scOverN (fun vs H Q E h => ?_) (fun cdv A outer s H vs Q E hr h => ?_)
  · obtain ⟨a, b, x, y, rfl, _⟩ := h
    rfl
  · obtain ⟨a, b, x, y, rfl, na, nb, ⟨z1, z2, y0, zl, zn, zd⟩, k⟩ := h
    have hr1 := hr.mono (show 1 ≤ 3 by decide)
    have hr2 := hr.mono (show 2 ≤ 3 by decide)
    have n0 : y.num ≠ 0 := fun z => y0 (Rat.num_eq_zero.mp z)
    refine ⟨_, PSs.nox (pss_cons (ps_asg (pe_call KL.ok hr2 (by rfl) KL.g KL.kp KL.b .nil pass0 (pa_cons (pv 0) (pa_cons (pv 1) pa_nil))) (pg_tup rfl (pgs_cons (pg_name (i := 2) scOverN.nd rfl (.inl rfl)) (pgs_cons (pg_name (i := 3) scOverN.nd rfl (.inl rfl)) (pgs_cons (pg_name (i := 4) scOverN.nd rfl (.inl rfl)) pgs_nil)))))
      (pss_cons (ps_if (pt_not (pt_val (pe_callB (cr_anyT rfl) (by rfl) N.any (by decide +kernel) (pa_cons (pe_ix ix_tup (pv 4) pe_int (fun _ _ => rfl)) pa_nil)))) pss_never pss_nil)
      (pss_one (ps_ret (pe_make O.kN GN hr (by rfl) O.gN bN vN pass0 (pa_cons (pv 2) (pa_cons (pe_tup pa_nil) (pa_cons (pe_call KP.ok hr (by rfl) KP.g KP.kp KP.b .nil pass0 (pa_cons (pe_fld (pv 2) rfl) (pa_cons (pv 3) (pa_cons (pe_call KT.ok hr1 (by rfl) KT.g KT.kp KT.b .nil pass0 (pa_cons (pe_fld (pv 2) rfl) (pa_cons (pv 4) pa_nil))) pa_nil)))) pa_nil)))))))), ?_⟩
    refine ⟨_, rfl, _, rfl, a, b, x, y, rfl, na, nb, fun p t v1 v2 H1 s1 hp ht h1 h2 => ?_⟩
    refine ⟨p, _, rfl, SqT.of hp, rfl, _, _, rfl, _, _, rfl, _, _, rfl, rfl, ?_⟩
    obtain ⟨w2, g1, g2⟩ := id h2
    refine ⟨_, rfl, v2, _, _, _, rfl, rfl, SqT.of g1, at_nat (k := 0) rfl, w2, [y.num], rfl, SqT.of g2, _, rfl, ?_⟩
    have ea : ([y.num].any (· != 0)) = true := by simp [n0]
    rw [ea]
    refine iteF ?_
    refine ⟨_, rfl, (by show 0 ≤ sizeLine; decide), fun pp npp => ?_⟩
    have s2 := same_upd (o := .tup []) npp
    obtain ⟨dt, ft, rw, c1, c2, c3⟩ := ht.same s2
    refine ⟨_, rfl, t, CT, dt, ft, _, rfl, c1, O.iT.cl, O.n1, c2, _, rfl, ?_⟩
    refine ⟨_, rfl, t, CT, dt, ft, _, rfl, c1, O.iT.cl, O.n1, c2, _, rfl, .ref rw, v2, y.num, y.den, rfl, h2.same s2, n0, fun v3 H3 s3 h3 => ?_⟩
    have s23 := s2.trans s3
    have eN : (if 0 < y.num then (y.den : Int) else -(y.den : Int)).natAbs = y.den := by split <;> omega
    refine ⟨rw, v1, v3, x.num, _, x.den, y.num.natAbs, rfl, SqT.of (s3 _ _ c3), h1.same s23, h3, x.den_nz, by omega, z1, ⟨by rw [eN]; omega, zn⟩, zl, fun r n d H4 s4 h4 hd hle he => ?_⟩
    refine make_num (ht.same (s23.trans s4)) h4 hd ?_ fun q H5 s5 h5 => ?_
    · exact Nat.lt_of_le_of_lt (log2_mono hle) zl
    · rw [he, turn_inv n0 y.den_nz, Rat.mkRat_self, Rat.mkRat_self] at h5
      exact k q H5 (((s1.trans s23).trans s4).trans s5) (by show NumQ CT CN H5 q (x / y); rw [Rat.div_def]; exact h5)
theorem scSignN : FnScope ["number"] ["number"] (defScope sSign) := ⟨rfl, rfl, rfl, by decide +kernel, rfl, by decide +kernel, by decide +kernel⟩
theorem ok_signN (F : FnP K "sign" sSign f fd2) (O : Obj2 K mg CT CN fT fN pE dT dN) (KN : Fk P w K mg base CX0 1 "need_number" fdN ["value"] (spNeedNum CN)) (KS : Fk P w K mg base CX0 1 "vec_sign" fdS ["rows", "vector"] spSignQ) : FnOk P w K mg base CX0 2 f fd2 ["number"] (spSgn CT CN) := by
  refine F.ok scSignN (fun vs H Q E h => ?_) (fun cdv A outer s H vs Q E hr h => ?_)
  · obtain ⟨a, x, rfl, _⟩ := h
    rfl
  · obtain ⟨a, x, rfl, na, k⟩ := h
    obtain ⟨dxa, fa, ta, va, a1, a2, a3, ⟨dt, ft, rw, c1, c2, c3⟩, a5⟩ := id na
    refine ⟨_, PSs.nox (pss_cons (ps_expr (pe_call KN.ok hr (by rfl) KN.g KN.kp KN.b .nil pass0 (pa_cons (pv 0) pa_nil)))
      (pss_one (ps_ret (pe_call KS.ok hr (by rfl) KS.g KS.kp KS.b .nil pass0 (pa_cons (pe_fld (pe_fld (pv 0) rfl) rfl) (pa_cons (pe_fld (pv 0) rfl) pa_nil)))))), ?_⟩
    refine ⟨_, rfl, a, dxa, fa, rfl, a1, ?_⟩
    refine ⟨_, rfl, a, CN, dxa, fa, _, rfl, a1, O.cN, O.n3, a2, ta, CT, dt, ft, _, rfl, c1, O.iT.cl, O.n1, c2, _, rfl, a, CN, dxa, fa, _, rfl, a1, O.cN, O.n4, a3, .ref rw, va, x.num, x.den, rfl, a5, k⟩
end
end Own
set_option Elab.async false
set_option linter.all false
set_option maxRecDepth 100000
set_option maxHeartbeats 1000000
set_option exponentiation.threshold 300
namespace Own
open PySem PySem.Spec PyProof.Rows L2 LamX
/-! ### the rows that a Number without rows uses: none; equal Numbers -/
def spUsed0 (K : PySem.W.Frag) : Sp := fun vs H Q _ => ∃ (r v : Addr) (n : Int) (d : Nat), vs = [.ref r, .ref v] ∧ SqT K H r [] ∧ VQ H v n d ∧ ∀ l H', Same H H' → H' l = some (.lst []) → Q (.ref l) H'
def spSpared0 (K : PySem.W.Frag) : Sp := fun vs H Q _ => ∃ (r v : Addr) (n : Int) (d : Nat), vs = [.ref r, .ref v] ∧ SqT K H r [] ∧ VQ H v n d ∧ ∀ p H', Same H H' → H' p = some (.tup [.ref r, .ref v]) → Q (.ref p) H'
def spTrim (CT CN : Addr) : Sp := fun vs H Q _ => ∃ (a : Addr) (x : Rat), vs = [.ref a] ∧ NumQ CT CN H a x ∧ x.den.log2 < 9000 ∧ ∀ p H', Same H H' → NumQ CT CN H' p x → Q (.ref p) H'
def spSameV (K : PySem.W.Frag) : Sp := fun vs H Q _ => ∃ (r1 v1 r2 v2 : Addr) (x y : Rat), vs = [.ref r1, .ref v1, .ref r2, .ref v2] ∧ SqT K H r1 [] ∧ SqT K H r2 [] ∧ VQ H v1 x.num x.den ∧ VQ H v2 y.num y.den ∧ Q (.bl (decide (x = y))) H
def spNumEq (CT CN : Addr) : Sp := fun vs H Q _ => ∃ (a b : Addr) (x y : Rat), vs = [.ref a, .ref b] ∧ NumQ CT CN H a x ∧ NumQ CT CN H b y ∧ Q (.bl (decide (x = y))) H
abbrev sNumEq : Stmt := (clsBody cNumber).getD 2 (.Pass ⟨0, 0, 0, 0⟩)
theorem rat_eq {x y : Rat} : (decide (x.num = y.num) && decide ((x.den : Int) = (y.den : Int))) = decide (x = y) := by
  rw [Bool.eq_iff_iff, Bool.and_eq_true, decide_eq_true_iff, decide_eq_true_iff, decide_eq_true_iff]
  constructor
  · rintro ⟨h1, h2⟩
    exact Rat.ext h1 (by omega)
  · rintro rfl
    exact ⟨rfl, rfl⟩
section
variable {P : Program} {w : World} {K : PySem.W.Frag} {mg : Str → Option Value} {base : Heap} {f CT CN fT fN pE : Addr} {fd2 dT dN fdN fdU fdW fdL fdP fdM fdT fdS : FuncData}
abbrev nsUsed : List Str := ["rows", "vector", "used", "turn", "at", "wholes", "slot", "whole", "row", "was"]
theorem scUsed : FnScope nsUsed ["rows", "vector"] (defScope sUsed) := ⟨rfl, rfl, rfl, by decide +kernel, rfl, by decide +kernel, by decide +kernel⟩
theorem ok_used0 (F : FnP K "used_rows" sUsed f fd2) (T : Txt K mg) : FnOk P w K mg base CX0 1 f fd2 ["rows", "vector"] (spUsed0 K) := by
  refine F.ok scUsed (fun vs H Q E h => ?_) (fun cdv A outer s H vs Q E hr h => ?_)
  · obtain ⟨r, v, n, d, rfl, _⟩ := h
    rfl
  · obtain ⟨r, v, n, d, rfl, hR, ⟨ws, hv, hw⟩, k⟩ := h
    refine ⟨_, PSs.nox (pss_cons (ps_set (i := 2) scUsed.nd rfl (.inl rfl) (pe_op op_rep (pe_lst (pa_cons pe_bl pa_nil)) (pe_callB call_len_seq (by rfl) T.len PySem.boot_len (pa_cons (pv 0) pa_nil))))
      (pss_cons (ps_for PassesOwn.never rfl (pi_range1 (by rfl) T.range (pa_cons (pe_op op_add (pe_callB call_len_seq (by rfl) T.len PySem.boot_len (pa_cons (pv 0) pa_nil)) pe_int) pa_nil)) (pg_name (i := 3) scUsed.nd rfl (Or.inl rfl))
        (pss_cons (ps_set (i := 4) scUsed.nd rfl (.inl rfl) (pe_op op_sub (pe_callB call_len_seq (by rfl) T.len PySem.boot_len (pa_cons (pv 0) pa_nil)) (pv 3)))
        (pss_cons (ps_set (i := 5) scUsed.nd rfl (.inl rfl) (pe_ifExp (pt_cmpR op_eq (pv 3) pe_int (nomark _)) (pe_ix ix_tup (pv 1) pe_int (fun _ _ => rfl)) pe_never))
        (pss_one (ps_for PassesOwn.never rfl (pi_enumS (by rfl) T.enum (pa_cons (pv 5) pa_nil)) (pg_tup rfl (pgs_cons (pg_name (i := 6) scUsed.nd rfl (.inr rfl)) (pgs_cons (pg_name (i := 7) scUsed.nd rfl (.inl rfl)) pgs_nil)))
          (pss_one (ps_if (pt_cmpR op_ne (pv 7) pe_int (nomark _)) (pss_one (ps_setLc (i := 2) (own := [("row", 8), ("was", 9)]) (g := gTup K 2 (gCons (gName 8) (gCons (gName 9) gNil))) (tt := tYes) (by rfl) scUsed.nd rfl rfl (sw_true rfl rfl rfl (by decide +kernel)) (pi_enumS (by rfl) T.enum (pa_cons (pv 2) pa_nil)) (blkOk_by (own := [("row", 8), ("was", 9)]) (N := nsUsed) (sc := defScope sUsed) (by decide +kernel))
            (fun _ _ _ _ _ => pg_tup rfl (pgs_cons (pg_name (i := 8) scUsed.nd rfl (.inl rfl)) (pgs_cons (pg_name (i := 9) scUsed.nd rfl (.inl rfl)) pgs_nil))) (fun _ _ _ _ _ => pts_nil) (fun _ _ _ _ _ => pe_never))) pss_nil)))))))
      (pss_one (ps_ret (pe_lc (own := [("at", 4), ("was", 9)]) (g := gTup K 2 (gCons (gName 4) (gCons (gName 9) gNil))) (by rfl) scUsed.nd (pi_enumS (by rfl) T.enum (pa_cons (pv 2) pa_nil)) (blkOk_by (own := [("at", 4), ("was", 9)]) (N := nsUsed) (sc := defScope sUsed) (by decide +kernel))
            (fun _ _ _ _ _ => pg_tup rfl (pgs_cons (pg_name (i := 4) scUsed.nd rfl (.inl rfl)) (pgs_cons (pg_name (i := 9) scUsed.nd rfl (.inl rfl)) pgs_nil))) (fun _ _ _ _ _ => pts_one pt_never) (fun _ _ _ _ _ => pe_never)))))), ?_⟩
    refine ⟨(by show 1 ≤ sizeLine; decide), fun l0 nl0 => ?_⟩
    have s1 := same_upd (o := .lst [V.bl false]) nl0
    refine ⟨_, rfl, r, _, rfl, .inr (seqT s1 hR), l0, 0, _, rfl, rfl, upd_same, by decide, by decide, by decide, fun u0 nu0 => ?_⟩
    have s2 := same_upd (o := .lst []) nu0
    have s12 := s1.trans s2
    have hu0 := upd_same (H := L2.upd H l0 (.lst [V.bl false])) (a := u0) (o := .lst [])
    have eL : (List.replicate (Int.toNat 0) [V.bl false]).flatten = [] := rfl
    rw [eL]
    generalize L2.upd (L2.upd H l0 (.lst [V.bl false])) u0 (.lst []) = H2 at s12 hu0
    refine ⟨_, rfl, r, _, rfl, .inr (seqT s12 hR), _, _, rfl, rfl, 1, rfl, by decide, by decide, ?_⟩
    refine for_range (lo := 0) (n := 1) (fun i σ G => ∃ (u : Addr) (v3 v4 v5 v6 v7 : Option V), σ = [some (.ref r), some (.ref v), some (.ref u), v3, v4, v5, v6, v7, none, none] ∧ Same H G ∧ G u = some (.lst [])) ⟨u0, none, none, none, none, none, rfl, s12, hu0⟩ ?_ ?_
    · rintro i σ G hi ⟨u, v3, v4, v5, v6, v7, rfl, sG, gu⟩
      obtain rfl : i = 0 := by omega
      refine ⟨_, rfl, r, _, rfl, .inr (seqT sG hR), _, rfl, _, _, rfl, rfl, ?_⟩
      refine ⟨_, rfl, rfl, _, rfl, ?_⟩
      refine iteT ?_
      refine ⟨_, rfl, v, _, _, _, rfl, rfl, SqT.of (sG _ _ hv), at_nat (k := 0) rfl, ?_⟩
      refine ⟨_, rfl, ws, rfl, .inr ⟨_, SqT.of (sG _ _ hw), ?_⟩⟩
      refine for_it (walk_enumT (xs := [V.int n])) (fun i σ G => ∃ (u : Addr) (v3 v4 v5 v6 v7 : Option V), σ = [some (.ref r), some (.ref v), some (.ref u), v3, v4, v5, v6, v7, none, none] ∧ Same H G ∧ G u = some (.lst [])) ⟨u, _, _, _, _, _, rfl, sG, gu⟩ (fun i σ G _ q => by obtain ⟨_, _, _, _, _, _, _, q, _⟩ := q; exact SqT.of (q _ _ hw)) ?_ ?_
      · rintro i y σ G1 G2 hi ⟨u, v3, v4, v5, v6, v7, rfl, sG, gu⟩ ⟨T0, x1, x2, rfl, nT, rfl, e1, e2⟩
        have sT := same_upd (o := .tup [x1, x2]) nT
        have i0 : i = 0 := by
          have : i < 1 := hi
          omega
        subst i0
        cases e1
        cases e2
        refine ⟨T0, _, rfl, SqT.of upd_same, rfl, _, _, rfl, _, _, rfl, rfl, ?_⟩
        refine ⟨_, rfl, rfl, _, rfl, ?_⟩
        refine ite2 (fun _ => ?_) fun _ => ?_
        · refine ⟨_, rfl, u, rfl, .inl ⟨_, SqL.of (sT _ _ gu), fun D nD => ?_⟩⟩
          have sD := same_upd (o := .lst []) nD
          refine lc_it (te := fun _ _ _ => False) (walk_enum (xs := [])) (fun i G => G = L2.upd (L2.upd G1 T0 (.tup [V.int ((0 : Nat) : Int), V.int n])) D (.lst [])) rfl (fun i G _ q => by rw [q]; exact SqL.of (sD _ _ (sT _ _ gu))) (fun i x G G' hi => absurd hi (Nat.not_lt_zero _)) ?_
          rintro G rfl
          exact ⟨D, _, _, _, _, _, rfl, (sG.trans sT).trans sD, upd_same⟩
        · exact ⟨u, _, _, _, _, _, rfl, sG.trans sT, sT _ _ gu⟩
      · rintro σ G2 ⟨u, v3, v4, v5, v6, v7, rfl, sG, gu⟩
        exact ⟨u, _, _, _, _, _, rfl, sG, gu⟩
    · rintro σ G ⟨u, v3, v4, v5, v6, v7, rfl, sG, gu⟩
      refine ⟨_, rfl, u, rfl, .inl ⟨_, SqL.of gu, fun D nD => ?_⟩⟩
      have sD := same_upd (o := .lst []) nD
      refine lc_it (tt := fun _ _ _ => False) (te := fun _ _ _ => False) (walk_enum (xs := [])) (fun i G' => G' = L2.upd G D (.lst [])) rfl (fun i G _ q => by rw [q]; exact SqL.of (sD _ _ gu)) (fun i x G G' hi => absurd hi (Nat.not_lt_zero _)) ?_
      rintro G2 rfl
      exact k D _ (sG.trans sD) upd_same
end
end Own
set_option Elab.async false
set_option linter.all false
set_option maxRecDepth 100000
set_option maxHeartbeats 1000000
set_option exponentiation.threshold 300
namespace Own
open PySem PySem.Spec PyProof.Rows L2 LamX
section
variable {P : Program} {w : World} {K : PySem.W.Frag} {mg : Str → Option Value} {base : Heap} {f CT CN fT fN pE : Addr} {fd2 dT dN fdN fdU fdW fdL fdP fdM fdT fdS fdE : FuncData}
theorem scSpared : FnScope ["rows", "vector", "kept", "some", "row", "at"] ["rows", "vector"] (defScope sSpared) := ⟨rfl, rfl, rfl, by decide +kernel, rfl, by decide +kernel, by decide +kernel⟩
theorem ok_spared0 (F : FnP K "spared" sSpared f fd2) (T : Txt K mg) (KU : Fk P w K mg base CX0 1 "used_rows" fdU ["rows", "vector"] (spUsed0 K)) : FnOk P w K mg base CX0 2 f fd2 ["rows", "vector"] (spSpared0 K) := by
  refine F.ok scSpared (fun vs H Q E h => ?_) (fun cdv A outer s H vs Q E hr h => ?_)
  · obtain ⟨r, v, n, d, rfl, _⟩ := h
    rfl
  · obtain ⟨r, v, n, d, rfl, hR, hv, k⟩ := h
    refine ⟨_, PSs.nox (pss_cons (ps_set (i := 2) scSpared.nd rfl (.inr rfl) (pe_call KU.ok hr (by rfl) KU.g KU.kp KU.b .nil pass0 (pa_cons (pv 0) (pa_cons (pv 1) pa_nil))))
      (pss_cons (ps_if (pt_cmpR op_eq (pe_callB call_len_seq (by rfl) T.len PySem.boot_len (pa_cons (pv 2) pa_nil)) (pe_callB call_len_seq (by rfl) T.len PySem.boot_len (pa_cons (pv 0) pa_nil)) (nomark _)) (pss_one (ps_ret (pe_tup (pa_cons (pv 0) (pa_cons (pv 1) pa_nil))))) pss_nil) pss_never)), ?_⟩
    refine ⟨_, rfl, _, rfl, r, v, n, d, rfl, hR, hv, fun l H1 s1 hl => ?_⟩
    refine ⟨_, rfl, l, _, rfl, .inl (SqL.of hl), _, rfl, r, _, rfl, .inr (seqT s1 hR), rfl, _, rfl, ?_⟩
    refine iteT ?_
    refine ⟨_, rfl, _, rfl, (by show 2 ≤ sizeLine; decide), fun p np => ?_⟩
    exact k p _ (s1.trans (same_upd np)) upd_same
theorem scTrim : FnScope ["number", "rows", "vector"] ["number"] (defScope sTrimmed) := ⟨rfl, rfl, rfl, by decide +kernel, rfl, by decide +kernel, by decide +kernel⟩
theorem ok_trim (F : FnP K "trimmed" sTrimmed f fd2) (T : Txt K mg) (O : Obj2 K mg CT CN fT fN pE dT dN) (KN : Fk P w K mg base CX0 1 "need_number" fdN ["value"] (spNeedNum CN)) (KS : Fk P w K mg base CX0 2 "spared" fdS ["rows", "vector"] (spSpared0 K)) (GN : FnOk P w K mg base CX0 2 fN dN ["self", "tower", "parts", "known"] (spNumQ CT CN)) :
    FnOk P w K mg base CX0 4 f fd2 ["number"] (spTrim CT CN) := by
  obtain ⟨dsN, vN, bN⟩ := O.FN.binds1 (ps := ["self", "tower", "parts", "known"]) 4 1 (by simp) rfl fun T kV doc pm an cdv ct us its l1 l2 => match us, its, l1, l2 with | [_, _, _, _], [_], _, _ => ⟨_, rfl, rfl⟩
  refine F.ok scTrim (fun vs H Q E h => ?_) (fun cdv A outer s H vs Q E hr h => ?_)
  · obtain ⟨a, x, rfl, _⟩ := h
    rfl
  · obtain ⟨a, x, rfl, na, hl, k⟩ := h
    obtain ⟨dxa, fa, ta, va, a1, a2, a3, a4, a5⟩ := id na
    obtain ⟨dt, ft, rw, c1, c2, c3⟩ := id a4
    have hr1 := hr.mono (show 1 ≤ 3 by decide)
    have hr2 := hr.mono (show 2 ≤ 3 by decide)
    refine ⟨_, PSs.nox (pss_cons (ps_expr (pe_call KN.ok hr1 (by rfl) KN.g KN.kp KN.b .nil pass0 (pa_cons (pv 0) pa_nil)))
      (pss_cons (ps_asg (pe_call KS.ok hr2 (by rfl) KS.g KS.kp KS.b .nil pass0 (pa_cons (pe_fld (pe_fld (pv 0) rfl) rfl) (pa_cons (pe_fld (pv 0) rfl) pa_nil))) (pg_tup rfl (pgs_cons (pg_name (i := 1) scTrim.nd rfl (.inl rfl)) (pgs_cons (pg_name (i := 2) scTrim.nd rfl (.inl rfl)) pgs_nil))))
      (pss_cons (ps_if (pt_cmpR op_eq (pe_callB call_len_seq (by rfl) T.len PySem.boot_len (pa_cons (pv 1) pa_nil)) (pe_callB call_len_seq (by rfl) T.len PySem.boot_len (pa_cons (pe_fld (pe_fld (pv 0) rfl) rfl) pa_nil)) (nomark _))
        (pss_one (ps_ret (pe_make O.kN GN hr (by rfl) O.gN bN vN pass0 (pa_cons (pe_fld (pv 0) rfl) (pa_cons (pe_tup pa_nil) (pa_cons (pv 2) pa_nil)))))) pss_nil) pss_never))), ?_⟩
    refine ⟨_, rfl, a, dxa, fa, rfl, a1, ?_⟩
    refine ⟨_, rfl, a, CN, dxa, fa, _, rfl, a1, O.cN, O.n3, a2, ta, CT, dt, ft, _, rfl, c1, O.iT.cl, O.n1, c2, _, rfl, a, CN, dxa, fa, _, rfl, a1, O.cN, O.n4, a3, rw, va, x.num, x.den, rfl, SqT.of c3, a5, fun p H1 s1 hp => ?_⟩
    refine ⟨p, _, rfl, SqT.of hp, rfl, _, _, rfl, _, _, rfl, rfl, ?_⟩
    refine ⟨_, rfl, rw, _, rfl, .inr (SqT.of (s1 _ _ c3)), _, rfl, a, CN, dxa, fa, _, rfl, s1 _ _ a1, O.cN, O.n3, a2, ta, CT, dt, ft, _, rfl, s1 _ _ c1, O.iT.cl, O.n1, c2, rw, _, rfl, .inr (SqT.of (s1 _ _ c3)), rfl, _, rfl, ?_⟩
    refine iteT ?_
    refine ⟨_, rfl, a, CN, dxa, fa, _, rfl, s1 _ _ a1, O.cN, O.n3, a2, (by show 0 ≤ sizeLine; decide), fun pp npp => ⟨_, rfl, ?_⟩⟩
    have s2 := same_upd (o := .tup []) npp
    refine make_num ((a4.same s1).same s2) ((a5.same s1).same s2) x.den_nz hl fun q H3 s3 h3 => ?_
    rw [Rat.mkRat_self] at h3
    exact k q H3 ((s1.trans s2).trans s3) h3
theorem scSameV : FnScope ["rows", "vector", "others", "other", "wide", "images"] ["rows", "vector", "others", "other"] (defScope sSameV) := ⟨rfl, rfl, rfl, by decide +kernel, rfl, by decide +kernel, by decide +kernel⟩
theorem ok_samev (F : FnP K "same_value" sSameV f fd2) : FnOk P w K mg base CX0 1 f fd2 ["rows", "vector", "others", "other"] (spSameV K) := by
  refine F.ok scSameV (fun vs H Q E h => ?_) (fun cdv A outer s H vs Q E hr h => ?_)
  · obtain ⟨r1, v1, r2, v2, x, y, rfl, _⟩ := h
    rfl
  · obtain ⟨r1, v1, r2, v2, x, y, rfl, h1, h2, ⟨w1, hv1, hw1⟩, ⟨w2, hv2, hw2⟩, k⟩ := h
    refine ⟨_, PSs.nox (pss_cons (ps_if (pt_cmpR (op_eqD hr.units) (pv 0) (pv 2) (nomark _)) (pss_one (ps_ret (pe_cmpR (op_eqD hr.units) (pv 1) (pv 3) (nomark _)))) pss_nil) pss_never), ?_⟩
    refine ⟨_, rfl, _, rfl, eq_empty h1 h2 ?_⟩
    refine ⟨_, rfl, ?_⟩
    refine iteT ?_
    refine ⟨_, rfl, _, rfl, .tuple [.tuple [.int x.num], .int x.den], .tuple [.tuple [.int y.num], .int y.den], .tup (SqT.of hv1) (.cons (.tup (SqT.of hw1) (.cons (.int _) .nil)) (.cons (.int _) .nil)), .tup (SqT.of hv2) (.cons (.tup (SqT.of hw2) (.cons (.int _) .nil)) (.cons (.int _) .nil)), rfl, rfl, ?_⟩
    have e : PyData.eqv (.tuple [.tuple [.int x.num], .int x.den]) (.tuple [.tuple [.int y.num], .int y.den]) = decide (x = y) := by
      rw [← rat_eq]
      show ((((x.num == y.num) && true) && (((x.den : Int) == (y.den : Int)) && true))) = _
      rw [Bool.and_true, Bool.and_true]
      rfl
    rw [e]
    exact k
theorem scNumEq : FnScope ["self", "other"] ["self", "other"] (defScope sNumEq) := ⟨rfl, rfl, rfl, by decide +kernel, rfl, by decide +kernel, by decide +kernel⟩
theorem ok_numeq (F : FunD K "__eq__" "Number.__eq__" (defArgs sNumEq) (defBody sNumEq) (defScope sNumEq) [] [] f fd2) (T : Txt K mg) (O : Obj2 K mg CT CN fT fN pE dT dN) (KS : Fk P w K mg base CX0 1 "same_value" fdS ["rows", "vector", "others", "other"] (spSameV K)) : FnOk P w K mg base CX0 2 f fd2 ["self", "other"] (spNumEq CT CN) := by
  refine F.ok scNumEq (fun vs H Q E h => ?_) (fun cdv A outer s H vs Q E hr h => ?_)
  · obtain ⟨a, b, x, y, rfl, _⟩ := h
    rfl
  · obtain ⟨a, b, x, y, rfl, na, nb, k⟩ := h
    obtain ⟨dxa, fa, ta, va, a1, a2, a3, ⟨dt, ft, r1, c1, c2, c3⟩, a5⟩ := id na
    obtain ⟨dxb, fb, tb, vb, b1, b2, b3, ⟨du, fu, r2, d1, d2, d3⟩, b5⟩ := id nb
    refine ⟨_, PSs.nox (pss_cons (ps_if (pt_not (pt_val (pe_callB (C8.call_isC O.iN) (by rfl) T.isi boot_isinstance (pa_cons (pv 1) (pa_cons (pe_glob (v := .ref CN) (by rfl) O.gN rfl) pa_nil))))) pss_never pss_nil)
      (pss_one (ps_ret (pe_call KS.ok hr (by rfl) KS.g KS.kp KS.b .nil pass0 (pa_cons (pe_fld (pe_fld (pv 0) rfl) rfl) (pa_cons (pe_fld (pv 0) rfl) (pa_cons (pe_fld (pe_fld (pv 1) rfl) rfl) (pa_cons (pe_fld (pv 1) rfl) pa_nil)))))))), ?_⟩
    refine ⟨_, rfl, b, dxb, fb, rfl, b1, _, rfl, ?_⟩
    refine iteF ?_
    refine ⟨_, rfl, a, CN, dxa, fa, _, rfl, a1, O.cN, O.n3, a2, ta, CT, dt, ft, _, rfl, c1, O.iT.cl, O.n1, c2, _, rfl, a, CN, dxa, fa, _, rfl, a1, O.cN, O.n4, a3, ?_⟩
    refine ⟨_, rfl, b, CN, dxb, fb, _, rfl, b1, O.cN, O.n3, b2, tb, CT, du, fu, _, rfl, d1, O.iT.cl, O.n1, d2, _, rfl, b, CN, dxb, fb, _, rfl, b1, O.cN, O.n4, b3, r1, va, r2, vb, x, y, rfl, SqT.of c3, SqT.of d3, a5, b5, k⟩
end
/-! ### points -/
abbrev Pt : Type := Rat × Rat
def PtQ (CT CN : Addr) (H : Hp) (p : Addr) (x : Pt) : Prop := ∃ a b, H p = some (.tup [.ref a, .ref b]) ∧ NumQ CT CN H a x.1 ∧ NumQ CT CN H b x.2
theorem PtQ.same {CT CN : Addr} {H H' : Hp} {p : Addr} {x : Pt} (h : PtQ CT CN H p x) (e : Same H H') : PtQ CT CN H' p x := by
  obtain ⟨a, b, h1, h2, h3⟩ := h
  exact ⟨a, b, e _ _ h1, h2.same e, h3.same e⟩
def wayQ (a b : Pt) : Pt := (b.1 - a.1, b.2 - a.2)
def crossQ (a b : Pt) : Rat := a.1 * b.2 - a.2 * b.1
def stepQ (s w : Pt) (t : Rat) : Pt := (s.1 + t * w.1, s.2 + t * w.2)
def quartQ (w : Pt) : Pt := (0 - w.2, w.1)
def shareQ (s w c d : Pt) : Rat := crossQ (wayQ s c) (wayQ c d) / crossQ w (wayQ c d)
def metQ (s w c d : Pt) : Option Pt := if crossQ w (wayQ c d) = 0 then none else some (stepQ s w (shareQ s w c d))
def meetQ (a b c d : Pt) : Option Pt := if a = b ∨ c = d then none else metQ a (wayQ a b) c d
def upQ (p a b c d : Pt) : Option Pt := if a = b ∨ c = d then none else metQ p (quartQ (wayQ a b)) c d
def WayOk (a b : Pt) : Prop := Ok2 b.1 a.1 ∧ Ok2 b.2 a.2
def CrossOk (a b : Pt) : Prop := Ok2 a.1 b.2 ∧ Ok2 a.2 b.1 ∧ Ok2 (a.1 * b.2) (a.2 * b.1)
def StpOk (s w : Pt) (t : Rat) : Prop := Ok2 t w.1 ∧ Ok2 t w.2 ∧ Ok2 s.1 (t * w.1) ∧ Ok2 s.2 (t * w.2)
structure MetOk (s w c d : Pt) : Prop where
  l : WayOk c d
  b : CrossOk w (wayQ c d)
  o : crossQ w (wayQ c d) ≠ 0 → WayOk s c ∧ CrossOk (wayQ s c) (wayQ c d) ∧ OkD (crossQ (wayQ s c) (wayQ c d)) (crossQ w (wayQ c d)) ∧ StpOk s w (shareQ s w c d)
def spSame (CT CN : Addr) : Sp := fun vs H Q _ => ∃ (p q : Addr) (a b : Pt), vs = [.ref p, .ref q] ∧ PtQ CT CN H p a ∧ PtQ CT CN H q b ∧ Q (.bl (decide (a = b))) H
def spWay (CT CN : Addr) : Sp := fun vs H Q _ => ∃ (p q : Addr) (a b : Pt), vs = [.ref p, .ref q] ∧ PtQ CT CN H p a ∧ PtQ CT CN H q b ∧ WayOk a b ∧ ∀ r H', Same H H' → PtQ CT CN H' r (wayQ a b) → Q (.ref r) H'
def spCross (CT CN : Addr) : Sp := fun vs H Q _ => ∃ (p q : Addr) (a b : Pt), vs = [.ref p, .ref q] ∧ PtQ CT CN H p a ∧ PtQ CT CN H q b ∧ CrossOk a b ∧ ∀ r H', Same H H' → NumQ CT CN H' r (crossQ a b) → Q (.ref r) H'
def spStep (CT CN : Addr) : Sp := fun vs H Q _ => ∃ (p q r : Addr) (s w : Pt) (t : Rat), vs = [.ref p, .ref q, .ref r] ∧ PtQ CT CN H p s ∧ PtQ CT CN H q w ∧ NumQ CT CN H r t ∧ StpOk s w t ∧ ∀ r H', Same H H' → PtQ CT CN H' r (stepQ s w t) → Q (.ref r) H'
def spQuart (CT CN : Addr) : Sp := fun vs H Q _ => ∃ (p : Addr) (w : Pt), vs = [.ref p] ∧ PtQ CT CN H p w ∧ Ok2 0 w.2 ∧ ∀ r H', Same H H' → PtQ CT CN H' r (quartQ w) → Q (.ref r) H'
/-- what an answer that may be None asks -/
def Ans (CT CN : Addr) (H : Hp) (Q : VK) (o : Option Pt) : Prop := (o = none → ∀ H', Same H H' → Q .non H') ∧ ∀ x, o = some x → ∀ r H', Same H H' → PtQ CT CN H' r x → Q (.ref r) H'
def spMet (CT CN : Addr) : Sp := fun vs H Q _ => ∃ (p q r t : Addr) (s w c d : Pt), vs = [.ref p, .ref q, .ref r, .ref t] ∧ PtQ CT CN H p s ∧ PtQ CT CN H q w ∧ PtQ CT CN H r c ∧ PtQ CT CN H t d ∧ MetOk s w c d ∧ Ans CT CN H Q (metQ s w c d)
def spMeet (CT CN : Addr) : Sp := fun vs H Q _ => ∃ (p q r t : Addr) (a b c d : Pt), vs = [.ref p, .ref q, .ref r, .ref t] ∧ PtQ CT CN H p a ∧ PtQ CT CN H q b ∧ PtQ CT CN H r c ∧ PtQ CT CN H t d ∧ (a ≠ b → c ≠ d → WayOk a b ∧ MetOk a (wayQ a b) c d) ∧ Ans CT CN H Q (meetQ a b c d)
def spUp (CT CN : Addr) : Sp := fun vs H Q _ => ∃ (o p q r t : Addr) (e a b c d : Pt), vs = [.ref o, .ref p, .ref q, .ref r, .ref t] ∧ PtQ CT CN H o e ∧ PtQ CT CN H p a ∧ PtQ CT CN H q b ∧ PtQ CT CN H r c ∧ PtQ CT CN H t d ∧ (a ≠ b → c ≠ d → WayOk a b ∧ Ok2 0 (wayQ a b).2 ∧ MetOk e (quartQ (wayQ a b)) c d) ∧ Ans CT CN H Q (upQ e a b c d)
section
variable {P : Program} {w : World} {K : PySem.W.Frag} {mg : Str → Option Value} {base : Heap} {f fE CT CN fT fN pE : Addr} {fd2 dT dN dE fdM fdT fdP fdO fdF fdW fdC fdS fdG fdQ fdI : FuncData}
/-- == of Numbers -/
structure EqN (K : PySem.W.Frag) (CN fE : Addr) (dE : FuncData) : Prop where
  at_ : PySem.W.findIn K (.ref CN) "__eq__" = some (some (.ref fE))
  fn : PySem.W.isFn K (.ref fE) = true
  nf : PySem.W.notFirst K CN (.ref CN) = true
  F : FunD K "__eq__" "Number.__eq__" (defArgs sNumEq) (defBody sNumEq) (defScope sNumEq) [] [] fE dE
theorem scIsSame : FnScope ["one", "other"] ["one", "other"] (defScope sIsSame) := ⟨rfl, rfl, rfl, by decide +kernel, rfl, by decide +kernel, by decide +kernel⟩
theorem ok_issame (F : FnP K "is_same" sIsSame f fd2) (Z : EqN K CN fE dE) (GE : FnOk P w K mg base CX0 2 fE dE ["self", "other"] (spNumEq CT CN)) : FnOk P w K mg base CX0 3 f fd2 ["one", "other"] (spSame CT CN) := by
  have bE : Binds K dE ["self", "other"] [] := Z.F.bindsN fun _ _ _ _ _ _ us hl => match us, hl with | [_, _], _ => rfl
  have R := GE.raw (dvs := []) bE .nil
  refine F.ok scIsSame (fun vs H Q E h => ?_) (fun cdv A outer s H vs Q E hr h => ?_)
  · obtain ⟨p, q, a, b, rfl, _⟩ := h
    rfl
  · obtain ⟨p, q, a, b, rfl, ⟨a1, a2, ha, ha1, ha2⟩, ⟨b1, b2, hb, hb1, hb2⟩, k⟩ := h
    refine ⟨_, PSs.nox (pss_one (ps_ret (pe_and (pe_cmpR (op_ownI (C := CN) (g := fE) (fun _ _ => rfl) Z.at_ Z.fn R hr) (pe_ix ix_tup (pv 0) pe_int (fun _ _ => rfl)) (pe_ix ix_tup (pv 1) pe_int (fun _ _ => rfl)) (nomark _))
      (pe_one (pe_cmpR (op_ownI (C := CN) (g := fE) (fun _ _ => rfl) Z.at_ Z.fn R hr) (pe_ix ix_tup (pv 0) pe_int (fun _ _ => rfl)) (pe_ix ix_tup (pv 1) pe_int (fun _ _ => rfl)) (nomark _)))))), ?_⟩
    have e : (decide (a.1 = b.1) && decide (a.2 = b.2)) = decide (a = b) := by
      rw [Bool.eq_iff_iff, Bool.and_eq_true, decide_eq_true_iff, decide_eq_true_iff, decide_eq_true_iff]
      exact Prod.ext_iff.symm
    rw [← e] at k
    obtain ⟨dxa, fsa, _, _, i1, _⟩ := id ha1
    obtain ⟨dxb, fsb, _, _, j1, _⟩ := id hb1
    obtain ⟨dya, gsa, _, _, i2, _⟩ := id ha2
    obtain ⟨dyb, gsb, _, _, j2, _⟩ := id hb2
    refine ⟨_, rfl, p, _, _, _, rfl, rfl, SqT.of ha, at_nat (k := 0) rfl, _, rfl, q, _, _, _, rfl, rfl, SqT.of hb, at_nat (k := 0) rfl, a1, dxa, fsa, b1, CN, dxb, fsb, rfl, rfl, i1, j1, Z.nf, a1, b1, a.1, b.1, rfl, ha1, hb1, ?_⟩
    refine ⟨_, rfl, ?_⟩
    by_cases c : a.1 = b.1
    · refine iteTr (decide_eq_true c) ?_
      rw [decide_eq_true c, Bool.true_and] at k
      exact ⟨_, rfl, p, _, _, _, rfl, rfl, SqT.of ha, at_nat (k := 1) rfl, _, rfl, q, _, _, _, rfl, rfl, SqT.of hb, at_nat (k := 1) rfl, a2, dya, gsa, b2, CN, dyb, gsb, rfl, rfl, i2, j2, Z.nf, a2, b2, a.2, b.2, rfl, ha2, hb2, k⟩
    · refine iteFr (decide_eq_false c) ?_
      rw [decide_eq_false c, Bool.false_and] at k
      exact k
theorem scWay : FnScope ["one", "other"] ["one", "other"] (defScope sWayTo) := ⟨rfl, rfl, rfl, by decide +kernel, rfl, by decide +kernel, by decide +kernel⟩
theorem ok_way (F : FnP K "way_to" sWayTo f fd2) (KM : Fk P w K mg base CX0 4 "minus" fdM ["one", "other"] (spOp CT CN Ok2 (· - ·))) : FnOk P w K mg base CX0 5 f fd2 ["one", "other"] (spWay CT CN) := by
  refine F.ok scWay (fun vs H Q E h => ?_) (fun cdv A outer s H vs Q E hr h => ?_)
  · obtain ⟨p, q, a, b, rfl, _⟩ := h
    rfl
  · obtain ⟨p, q, a, b, rfl, ⟨a1, a2, ha, ha1, ha2⟩, ⟨b1, b2, hb, hb1, hb2⟩, ⟨o1, o2⟩, k⟩ := h
    refine ⟨_, PSs.nox (pss_one (ps_ret (pe_tup (pa_cons (pe_call KM.ok hr (by rfl) KM.g KM.kp KM.b .nil pass0 (pa_cons (pe_ix ix_tup (pv 1) pe_int (fun _ _ => rfl)) (pa_cons (pe_ix ix_tup (pv 0) pe_int (fun _ _ => rfl)) pa_nil))) (pa_cons (pe_call KM.ok hr (by rfl) KM.g KM.kp KM.b .nil pass0 (pa_cons (pe_ix ix_tup (pv 1) pe_int (fun _ _ => rfl)) (pa_cons (pe_ix ix_tup (pv 0) pe_int (fun _ _ => rfl)) pa_nil))) pa_nil))))), ?_⟩
    refine ⟨_, rfl, q, _, _, _, rfl, rfl, SqT.of hb, at_nat (k := 0) rfl, _, rfl, p, _, _, _, rfl, rfl, SqT.of ha, at_nat (k := 0) rfl, b1, a1, b.1, a.1, rfl, hb1, ha1, o1, fun r1 H1 s1 h1 => ?_⟩
    refine ⟨_, rfl, q, _, _, _, rfl, rfl, SqT.of (s1 _ _ hb), at_nat (k := 1) rfl, _, rfl, p, _, _, _, rfl, rfl, SqT.of (s1 _ _ ha), at_nat (k := 1) rfl, b2, a2, b.2, a.2, rfl, hb2.same s1, ha2.same s1, o2, fun r2 H2 s2 h2 => ?_⟩
    refine ⟨(by show 2 ≤ sizeLine; decide), fun r nr => ?_⟩
    have s3 := same_upd (o := .tup [.ref r1, .ref r2]) nr
    exact k r _ ((s1.trans s2).trans s3) ⟨r1, r2, upd_same, (h1.same s2).same s3, h2.same s3⟩
theorem scCross : FnScope ["one", "other"] ["one", "other"] (defScope sCrossed) := ⟨rfl, rfl, rfl, by decide +kernel, rfl, by decide +kernel, by decide +kernel⟩
theorem ok_cross (F : FnP K "crossed_ways" sCrossed f fd2) (KM : Fk P w K mg base CX0 4 "minus" fdM ["one", "other"] (spOp CT CN Ok2 (· - ·))) (KT : Fk P w K mg base CX0 4 "times" fdT ["one", "other"] (spOp CT CN Ok2 (· * ·))) : FnOk P w K mg base CX0 5 f fd2 ["one", "other"] (spCross CT CN) := by
  refine F.ok scCross (fun vs H Q E h => ?_) (fun cdv A outer s H vs Q E hr h => ?_)
  · obtain ⟨p, q, a, b, rfl, _⟩ := h
    rfl
  · obtain ⟨p, q, a, b, rfl, ⟨a1, a2, ha, ha1, ha2⟩, ⟨b1, b2, hb, hb1, hb2⟩, ⟨o1, o2, o3⟩, k⟩ := h
    refine ⟨_, PSs.nox (pss_one (ps_ret (pe_call KM.ok hr (by rfl) KM.g KM.kp KM.b .nil pass0 (pa_cons (pe_call KT.ok hr (by rfl) KT.g KT.kp KT.b .nil pass0 (pa_cons (pe_ix ix_tup (pv 0) pe_int (fun _ _ => rfl)) (pa_cons (pe_ix ix_tup (pv 1) pe_int (fun _ _ => rfl)) pa_nil))) (pa_cons (pe_call KT.ok hr (by rfl) KT.g KT.kp KT.b .nil pass0 (pa_cons (pe_ix ix_tup (pv 0) pe_int (fun _ _ => rfl)) (pa_cons (pe_ix ix_tup (pv 1) pe_int (fun _ _ => rfl)) pa_nil))) pa_nil))))), ?_⟩
    refine ⟨_, rfl, p, _, _, _, rfl, rfl, SqT.of ha, at_nat (k := 0) rfl, _, rfl, q, _, _, _, rfl, rfl, SqT.of hb, at_nat (k := 1) rfl, a1, b2, a.1, b.2, rfl, ha1, hb2, o1, fun r1 H1 s1 h1 => ?_⟩
    refine ⟨_, rfl, p, _, _, _, rfl, rfl, SqT.of (s1 _ _ ha), at_nat (k := 1) rfl, _, rfl, q, _, _, _, rfl, rfl, SqT.of (s1 _ _ hb), at_nat (k := 0) rfl, a2, b1, a.2, b.1, rfl, ha2.same s1, hb1.same s1, o2, fun r2 H2 s2 h2 => ?_⟩
    exact ⟨r1, r2, _, _, rfl, h1.same s2, h2, o3, fun r H3 s3 h3 => k r H3 ((s1.trans s2).trans s3) h3⟩
theorem scStep : FnScope ["start", "way", "share"] ["start", "way", "share"] (defScope sStepped) := ⟨rfl, rfl, rfl, by decide +kernel, rfl, by decide +kernel, by decide +kernel⟩
theorem ok_step (F : FnP K "stepped" sStepped f fd2) (KP : Fk P w K mg base CX0 4 "plus" fdP ["one", "other"] (spOp CT CN Ok2 (· + ·))) (KT : Fk P w K mg base CX0 4 "times" fdT ["one", "other"] (spOp CT CN Ok2 (· * ·))) : FnOk P w K mg base CX0 5 f fd2 ["start", "way", "share"] (spStep CT CN) := by
  refine F.ok scStep (fun vs H Q E h => ?_) (fun cdv A outer s H vs Q E hr h => ?_)
  · obtain ⟨p, q, r, s, w, t, rfl, _⟩ := h
    rfl
  · obtain ⟨p, q, r, st, w, t, rfl, ⟨a1, a2, ha, ha1, ha2⟩, ⟨b1, b2, hb, hb1, hb2⟩, ht, ⟨o1, o2, o3, o4⟩, k⟩ := h
    refine ⟨_, PSs.nox (pss_one (ps_ret (pe_tup (pa_cons (pe_call KP.ok hr (by rfl) KP.g KP.kp KP.b .nil pass0 (pa_cons (pe_ix ix_tup (pv 0) pe_int (fun _ _ => rfl)) (pa_cons (pe_call KT.ok hr (by rfl) KT.g KT.kp KT.b .nil pass0 (pa_cons (pv 2) (pa_cons (pe_ix ix_tup (pv 1) pe_int (fun _ _ => rfl)) pa_nil))) pa_nil)))
      (pa_cons (pe_call KP.ok hr (by rfl) KP.g KP.kp KP.b .nil pass0 (pa_cons (pe_ix ix_tup (pv 0) pe_int (fun _ _ => rfl)) (pa_cons (pe_call KT.ok hr (by rfl) KT.g KT.kp KT.b .nil pass0 (pa_cons (pv 2) (pa_cons (pe_ix ix_tup (pv 1) pe_int (fun _ _ => rfl)) pa_nil))) pa_nil))) pa_nil))))), ?_⟩
    refine ⟨_, rfl, p, _, _, _, rfl, rfl, SqT.of ha, at_nat (k := 0) rfl, _, rfl, _, rfl, q, _, _, _, rfl, rfl, SqT.of hb, at_nat (k := 0) rfl, r, b1, t, w.1, rfl, ht, hb1, o1, fun r1 H1 s1 h1 => ?_⟩
    refine ⟨a1, r1, _, _, rfl, ha1.same s1, h1, o3, fun r2 H2 s2 h2 => ?_⟩
    have s12 := s1.trans s2
    refine ⟨_, rfl, p, _, _, _, rfl, rfl, SqT.of (s12 _ _ ha), at_nat (k := 1) rfl, _, rfl, _, rfl, q, _, _, _, rfl, rfl, SqT.of (s12 _ _ hb), at_nat (k := 1) rfl, r, b2, t, w.2, rfl, ht.same s12, hb2.same s12, o2, fun r3 H3 s3 h3 => ?_⟩
    have s13 := s12.trans s3
    refine ⟨a2, r3, _, _, rfl, ha2.same s13, h3, o4, fun r4 H4 s4 h4 => ?_⟩
    refine ⟨(by show 2 ≤ sizeLine; decide), fun z nz => ?_⟩
    have s5 := same_upd (o := .tup [.ref r2, .ref r4]) nz
    exact k z _ ((s13.trans s4).trans s5) ⟨r2, r4, upd_same, ((h2.same s3).same s4).same s5, h4.same s5⟩
theorem scQuart : FnScope ["way"] ["way"] (defScope sQuarter) := ⟨rfl, rfl, rfl, by decide +kernel, rfl, by decide +kernel, by decide +kernel⟩
theorem ok_quart (F : FnP K "quarter" sQuarter f fd2) (KM : Fk P w K mg base CX0 4 "minus" fdM ["one", "other"] (spOp CT CN Ok2 (· - ·))) (GF : FnOk P w K mg base CX0 4 fE fdF ["n", "d"] (spFracQ CT CN)) (FF : FunD K "fraction" "fraction" (defArgs sFrac) (defBody sFrac) (defScope sFrac) [.int 1] [] fE fdF) (gF : mg "fraction" = some (.ref fE)) :
    FnOk P w K mg base CX0 5 f fd2 ["way"] (spQuart CT CN) := by
  obtain ⟨ds, vD, bF⟩ := FF.binds1 (ps := ["n", "d"]) 1 0 (by simp) rfl fun T kV doc pm an cdv ct us its l1 l2 => match us, its, l1, l2 with | [_], [_], _, _ => ⟨_, rfl, rfl⟩
  refine F.ok scQuart (fun vs H Q E h => ?_) (fun cdv A outer s H vs Q E hr h => ?_)
  · obtain ⟨p, w, rfl, _⟩ := h
    rfl
  · obtain ⟨p, w, rfl, ⟨a1, a2, ha, ha1, ha2⟩, o, k⟩ := h
    refine ⟨_, PSs.nox (pss_one (ps_ret (pe_tup (pa_cons (pe_call KM.ok hr (by rfl) KM.g KM.kp KM.b .nil pass0 (pa_cons (pe_call GF hr (by rfl) gF FF.kp bF vD pass0 (pa_cons pe_int pa_nil)) (pa_cons (pe_ix ix_tup (pv 0) pe_int (fun _ _ => rfl)) pa_nil))) (pa_cons (pe_ix ix_tup (pv 0) pe_int (fun _ _ => rfl)) pa_nil))))), ?_⟩
    refine ⟨0, rfl, fun z H1 s1 h1 => ?_⟩
    refine ⟨_, rfl, p, _, _, _, rfl, rfl, SqT.of (s1 _ _ ha), at_nat (k := 1) rfl, z, a2, ((0 : Int) : Rat), w.2, rfl, h1, ha2.same s1, o, fun r H2 s2 h2 => ?_⟩
    have s12 := s1.trans s2
    refine ⟨_, rfl, p, _, _, _, rfl, rfl, SqT.of (s12 _ _ ha), at_nat (k := 0) rfl, (by show 2 ≤ sizeLine; decide), fun q nq => ?_⟩
    have s3 := same_upd (o := .tup [.ref r, .ref a1]) nq
    exact k q _ (s12.trans s3) ⟨r, a1, upd_same, h2.same s3, (ha1.same s12).same s3⟩
theorem scMet : FnScope ["start", "way", "c", "d", "line", "both"] ["start", "way", "c", "d"] (defScope sMet) := ⟨rfl, rfl, rfl, by decide +kernel, rfl, by decide +kernel, by decide +kernel⟩
theorem sgn_zero {x : Rat} : (decide (V.int (sgn x.num) = V.int 0)) = decide (x = 0) := by
  rw [Bool.eq_iff_iff, decide_eq_true_iff, decide_eq_true_iff]
  unfold sgn
  constructor
  · intro h
    injection h with h
    refine Rat.num_eq_zero.mp ?_
    split at h
    · cases h
    · split at h
      · cases h
      · omega
  · rintro rfl
    rfl
theorem ok_met (F : FnP K "met" sMet f fd2) (KW : Fk P w K mg base CX0 5 "way_to" fdW ["one", "other"] (spWay CT CN)) (KC : Fk P w K mg base CX0 5 "crossed_ways" fdC ["one", "other"] (spCross CT CN)) (KG : Fk P w K mg base CX0 2 "sign" fdG ["number"] (spSgn CT CN)) (KS : Fk P w K mg base CX0 5 "stepped" fdS ["start", "way", "share"] (spStep CT CN)) (KO : Fk P w K mg base CX0 4 "over" fdO ["one", "other"] (spOp CT CN OkD (· / ·))) :
    FnOk P w K mg base CX0 6 f fd2 ["start", "way", "c", "d"] (spMet CT CN) := by
  refine F.ok scMet (fun vs H Q E h => ?_) (fun cdv A outer s H vs Q E hr h => ?_)
  · obtain ⟨p, q, r, t, s, w, c, d, rfl, _⟩ := h
    rfl
  · obtain ⟨p, q, r, t, st, w, c, d, rfl, hp, hq, hc, hd, ok, k⟩ := h
    have hr2 := hr.mono (show 2 ≤ 5 by decide)
    have hr4 := hr.mono (show 4 ≤ 5 by decide)
    refine ⟨_, PSs.nox (pss_cons (ps_set (i := 4) scMet.nd rfl (.inl rfl) (pe_call KW.ok hr (by rfl) KW.g KW.kp KW.b .nil pass0 (pa_cons (pv 2) (pa_cons (pv 3) pa_nil))))
      (pss_cons (ps_set (i := 5) scMet.nd rfl (.inl rfl) (pe_call KC.ok hr (by rfl) KC.g KC.kp KC.b .nil pass0 (pa_cons (pv 1) (pa_cons (pv 4) pa_nil))))
      (pss_cons (ps_if (pt_cmpR op_eq (pe_call KG.ok hr2 (by rfl) KG.g KG.kp KG.b .nil pass0 (pa_cons (pv 5) pa_nil)) pe_int (nomark _)) (pss_one (ps_ret pe_non)) pss_nil)
      (pss_one (ps_ret (pe_call KS.ok hr (by rfl) KS.g KS.kp KS.b .nil pass0 (pa_cons (pv 0) (pa_cons (pv 1) (pa_cons (pe_call KO.ok hr4 (by rfl) KO.g KO.kp KO.b .nil pass0 (pa_cons (pe_call KC.ok hr (by rfl) KC.g KC.kp KC.b .nil pass0 (pa_cons (pe_call KW.ok hr (by rfl) KW.g KW.kp KW.b .nil pass0 (pa_cons (pv 0) (pa_cons (pv 2) pa_nil))) (pa_cons (pv 4) pa_nil))) (pa_cons (pv 5) pa_nil))) pa_nil))))))))), ?_⟩
    refine ⟨_, rfl, _, rfl, r, t, c, d, rfl, hc, hd, ok.l, fun l H1 s1 hl => ?_⟩
    refine ⟨_, rfl, _, rfl, q, l, w, _, rfl, hq.same s1, hl, ok.b, fun b H2 s2 hb => ?_⟩
    refine ⟨_, rfl, b, _, rfl, hb, fun H3 s3 => ?_⟩
    have s13 := (s1.trans s2).trans s3
    refine ⟨rfl, _, rfl, ?_⟩
    by_cases c0 : crossQ w (wayQ c d) = 0
    · refine iteTr (by rw [sgn_zero]; exact decide_eq_true c0) ?_
      exact k.1 (by unfold metQ; rw [if_pos c0]) _ s13
    · refine iteFr (by rw [sgn_zero]; exact decide_eq_false c0) ?_
      obtain ⟨q1, q2, q3, q4⟩ := ok.o c0
      refine ⟨_, rfl, _, rfl, _, rfl, _, rfl, p, r, st, c, rfl, hp.same s13, hc.same s13, q1, fun g H4 s4 hg => ?_⟩
      refine ⟨_, rfl, g, l, _, _, rfl, hg, ((hl.same s2).same s3).same s4, q2, fun x H5 s5 hx => ?_⟩
      have s15 := (s13.trans s4).trans s5
      refine ⟨_, rfl, x, b, _, _, rfl, hx, ((hb.same s3).same s4).same s5, q3, fun y H6 s6 hy => ?_⟩
      have s16 := s15.trans s6
      exact ⟨p, q, y, st, w, _, rfl, hp.same s16, hq.same s16, hy, q4, fun z H7 s7 hz => k.2 _ (by unfold metQ; rw [if_neg c0]; rfl) z H7 (s16.trans s7) hz⟩
theorem scLayMeet : FnScope ["a", "b", "c", "d"] ["a", "b", "c", "d"] (defScope sLayMeet) := ⟨rfl, rfl, rfl, by decide +kernel, rfl, by decide +kernel, by decide +kernel⟩
theorem ok_laymeet (F : FnP K "lay_meet" sLayMeet f fd2) (KI : Fk P w K mg base CX0 3 "is_same" fdI ["one", "other"] (spSame CT CN)) (KW : Fk P w K mg base CX0 5 "way_to" fdW ["one", "other"] (spWay CT CN)) (KM : Fk P w K mg base CX0 6 "met" fdM ["start", "way", "c", "d"] (spMet CT CN)) : FnOk P w K mg base CX0 7 f fd2 ["a", "b", "c", "d"] (spMeet CT CN) := by
  refine F.ok scLayMeet (fun vs H Q E h => ?_) (fun cdv A outer s H vs Q E hr h => ?_)
  · obtain ⟨p, q, r, t, a, b, c, d, rfl, _⟩ := h
    rfl
  · obtain ⟨p, q, r, t, a, b, c, d, rfl, hp, hq, hc, hd, ok, k⟩ := h
    have hr3 := hr.mono (show 3 ≤ 6 by decide)
    have hr5 := hr.mono (show 5 ≤ 6 by decide)
    refine ⟨_, PSs.nox (pss_cons (ps_if (PW.pt (pw_or (pt_val (pe_call KI.ok hr3 (by rfl) KI.g KI.kp KI.b .nil pass0 (pa_cons (pv 0) (pa_cons (pv 1) pa_nil)))) (pw_or1 (pt_val (pe_call KI.ok hr3 (by rfl) KI.g KI.kp KI.b .nil pass0 (pa_cons (pv 2) (pa_cons (pv 3) pa_nil))))))) (pss_one (ps_ret pe_non)) pss_nil)
      (pss_one (ps_ret (pe_call KM.ok hr (by rfl) KM.g KM.kp KM.b .nil pass0 (pa_cons (pv 0) (pa_cons (pe_call KW.ok hr5 (by rfl) KW.g KW.kp KW.b .nil pass0 (pa_cons (pv 0) (pa_cons (pv 1) pa_nil))) (pa_cons (pv 2) (pa_cons (pv 3) pa_nil)))))))), ?_⟩
    refine ⟨_, rfl, _, rfl, p, q, a, b, rfl, hp, hq, _, rfl, ?_⟩
    by_cases e1 : a = b
    · refine iteTr (decide_eq_true e1) ?_
      refine iteT ?_
      exact k.1 (by unfold meetQ; rw [if_pos (.inl e1)]) _ (Same.refl _)
    refine iteFr (decide_eq_false e1) ?_
    refine ⟨_, rfl, _, rfl, r, t, c, d, rfl, hc, hd, _, rfl, ?_⟩
    by_cases e2 : c = d
    · refine iteTr (decide_eq_true e2) ?_
      exact k.1 (by unfold meetQ; rw [if_pos (.inr e2)]) _ (Same.refl _)
    refine iteFr (decide_eq_false e2) ?_
    obtain ⟨o1, o2⟩ := ok e1 e2
    have em : meetQ a b c d = metQ a (wayQ a b) c d := by unfold meetQ; rw [if_neg (fun z => z.elim e1 e2)]
    rw [em] at k
    refine ⟨_, rfl, _, rfl, _, rfl, p, q, a, b, rfl, hp, hq, o1, fun y H1 s1 hy => ?_⟩
    exact ⟨_, rfl, _, rfl, p, y, r, t, a, _, c, d, rfl, hp.same s1, hy, hc.same s1, hd.same s1, o2, fun z H2 s2 => k.1 z H2 (s1.trans s2), fun x z r2 H2 s2 => k.2 x z r2 H2 (s1.trans s2)⟩
theorem scLayUp : FnScope ["p", "a", "b", "c", "d"] ["p", "a", "b", "c", "d"] (defScope sLayUp) := ⟨rfl, rfl, rfl, by decide +kernel, rfl, by decide +kernel, by decide +kernel⟩
theorem ok_layup (F : FnP K "lay_upright" sLayUp f fd2) (KI : Fk P w K mg base CX0 3 "is_same" fdI ["one", "other"] (spSame CT CN)) (KW : Fk P w K mg base CX0 5 "way_to" fdW ["one", "other"] (spWay CT CN)) (KQ : Fk P w K mg base CX0 5 "quarter" fdQ ["way"] (spQuart CT CN)) (KM : Fk P w K mg base CX0 6 "met" fdM ["start", "way", "c", "d"] (spMet CT CN)) : FnOk P w K mg base CX0 7 f fd2 ["p", "a", "b", "c", "d"] (spUp CT CN) := by
  refine F.ok scLayUp (fun vs H Q E h => ?_) (fun cdv A outer s H vs Q E hr h => ?_)
  · obtain ⟨o, p, q, r, t, e, a, b, c, d, rfl, _⟩ := h
    rfl
  · obtain ⟨o, p, q, r, t, e, a, b, c, d, rfl, ho, hp, hq, hc, hd, ok, k⟩ := h
    have hr3 := hr.mono (show 3 ≤ 6 by decide)
    have hr5 := hr.mono (show 5 ≤ 6 by decide)
    refine ⟨_, PSs.nox (pss_cons (ps_if (PW.pt (pw_or (pt_val (pe_call KI.ok hr3 (by rfl) KI.g KI.kp KI.b .nil pass0 (pa_cons (pv 1) (pa_cons (pv 2) pa_nil)))) (pw_or1 (pt_val (pe_call KI.ok hr3 (by rfl) KI.g KI.kp KI.b .nil pass0 (pa_cons (pv 3) (pa_cons (pv 4) pa_nil))))))) (pss_one (ps_ret pe_non)) pss_nil)
      (pss_one (ps_ret (pe_call KM.ok hr (by rfl) KM.g KM.kp KM.b .nil pass0 (pa_cons (pv 0) (pa_cons (pe_call KQ.ok hr5 (by rfl) KQ.g KQ.kp KQ.b .nil pass0 (pa_cons (pe_call KW.ok hr5 (by rfl) KW.g KW.kp KW.b .nil pass0 (pa_cons (pv 1) (pa_cons (pv 2) pa_nil))) pa_nil)) (pa_cons (pv 3) (pa_cons (pv 4) pa_nil)))))))), ?_⟩
    refine ⟨_, rfl, _, rfl, p, q, a, b, rfl, hp, hq, _, rfl, ?_⟩
    by_cases e1 : a = b
    · refine iteTr (decide_eq_true e1) ?_
      refine iteT ?_
      exact k.1 (by unfold upQ; rw [if_pos (.inl e1)]) _ (Same.refl _)
    refine iteFr (decide_eq_false e1) ?_
    refine ⟨_, rfl, _, rfl, r, t, c, d, rfl, hc, hd, _, rfl, ?_⟩
    by_cases e2 : c = d
    · refine iteTr (decide_eq_true e2) ?_
      exact k.1 (by unfold upQ; rw [if_pos (.inr e2)]) _ (Same.refl _)
    refine iteFr (decide_eq_false e2) ?_
    obtain ⟨o1, o2, o3⟩ := ok e1 e2
    have em : upQ e a b c d = metQ e (quartQ (wayQ a b)) c d := by unfold upQ; rw [if_neg (fun z => z.elim e1 e2)]
    rw [em] at k
    refine ⟨_, rfl, _, rfl, _, rfl, p, q, a, b, rfl, hp, hq, o1, fun y H1 s1 hy => ?_⟩
    refine ⟨y, _, rfl, hy, o2, fun y2 H2 s2 hy2 => ?_⟩
    have s12 := s1.trans s2
    exact ⟨_, rfl, _, rfl, o, y2, r, t, e, _, c, d, rfl, ho.same s12, hy2, hc.same s12, hd.same s12, o3, fun z H3 s3 => k.1 z H3 (s12.trans s3), fun x z r2 H3 s3 => k.2 x z r2 H3 (s12.trans s3)⟩
end
end Own
set_option Elab.async false
set_option linter.all false
set_option maxRecDepth 100000
set_option maxHeartbeats 400000
namespace Own
open PySem PySem.Spec PyProof.Rows L2
/-! ### walking what is a list or a tuple -/
def iSeqS (K : PySem.W.Frag) (tl : TE) : TI := fun σ H R => tl σ H fun x H1 => ∃ a, x = .ref a ∧ ((∃ xs, SqL K H1 a xs ∧ R (Itl K a) H1) ∨ ∃ xs, SqT K H1 a xs ∧ R (Itt K a) H1)
section
variable {X : Cx} {tg : Expr}
theorem fp_new {pins : List (Addr × Obj)} {σ : L2.St} {H : Hp} {s : Shared} (I : Inv X pins σ H s) : ∀ b ∈ [s.heap.objs.size], FpOk X pins H b := fun b hb => by
  cases List.mem_singleton.mp hb
  exact I.fpOk (Nat.le_refl _) (I.hok.fresh (Nat.le_refl _))
theorem kept_new {pins : List (Addr × Obj)} {σ : L2.St} {H : Hp} {s : Shared} (I : Inv X pins σ H s) (o : Obj) : Inv X pins σ H { s with heap := s.heap.push o } := I.kept (t' := s.toks) fun _ _ e => Heap.get?_push_of_some _ e
theorem pi_seqS {l : Expr} {tl : TE} (hl : PE X l tl) : PI X tg l (iSeqS X.K tl) := by
  constructor
  intro pins s σ H R I h
  refine thn (hl.run pins s σ H _ I h) fun v s1 h1 => ?_
  obtain ⟨x, H1, I1, r1, a, rfl, q1⟩ := h1
  cases r1
  rcases q1 with ⟨xs, hq, q⟩ | ⟨xs, hq, q⟩
  · obtain ⟨its, _, p, _⟩ := I1.list hq
    exact wpAny_pyIter_list p.isList ⟨_, _, _, _, H1, rfl, kept_new I1 _, turn_list a _, ⟨_, Heap.get?_push_size _ rfl, rfl, rfl⟩, fp_new I1, q⟩
  · obtain ⟨its, _, p, _⟩ := I1.tuple hq
    exact wpAny_pyIter_tuple (items := its.toArray) p ⟨_, _, _, _, H1, rfl, kept_new I1 _, turn_tuple a _, ⟨_, Heap.get?_push_size _ rfl, rfl, rfl⟩, fp_new I1, q⟩
theorem sql_keep {K : PySem.W.Frag} {H G : Hp} {a : Addr} {xs : List V} (h : SqL K H a xs) (e : ∀ o, H a = some o → G a = some o) : SqL K G a xs := by
  rcases h with (h | ⟨o, h⟩) | h
  · exact .inl (.inl (e _ h))
  · exact .inl (.inr ⟨o, e _ h⟩)
  · exact .inr h
theorem sqt_keep {K : PySem.W.Frag} {H G : Hp} {a : Addr} {xs : List V} (h : SqT K H a xs) (e : ∀ o, H a = some o → G a = some o) : SqT K G a xs := by
  rcases h with (h | ⟨o, h⟩) | h
  · exact .inl (.inl (e _ h))
  · exact .inl (.inr ⟨o, e _ h⟩)
  · exact .inr h
/-- what is a list or a tuple, walked: the walk is told by what it yields -/
def iSeqW (K : PySem.W.Frag) (tl : TE) : TI := fun σ H R => tl σ H fun x H1 => ∃ a xs, x = .ref a ∧ (SqL K H1 a xs ∨ SqT K H1 a xs) ∧ ∀ (J : It) (GG : Hp → Prop), Walk J xs.length GG (YAt xs) → (∀ G, (∀ o, H1 a = some o → G a = some o) → GG G) → R J H1
theorem pi_seqW {l : Expr} {tl : TE} (hl : PE X l tl) : PI X tg l (iSeqW X.K tl) := by
  constructor
  intro pins s σ H R I h
  refine thn (hl.run pins s σ H _ I h) fun v s1 h1 => ?_
  obtain ⟨x, H1, I1, r1, a, xs, rfl, hq, q⟩ := h1
  cases r1
  rcases hq with hq | hq
  · obtain ⟨its, _, p, _⟩ := I1.list hq
    exact wpAny_pyIter_list p.isList ⟨_, _, _, _, H1, rfl, kept_new I1 _, turn_list a _, ⟨_, Heap.get?_push_size _ rfl, rfl, rfl⟩, fp_new I1, q _ _ walk_list fun G e => sql_keep hq e⟩
  · obtain ⟨its, _, p, _⟩ := I1.tuple hq
    exact wpAny_pyIter_tuple (items := its.toArray) p ⟨_, _, _, _, H1, rfl, kept_new I1 _, turn_tuple a _, ⟨_, Heap.get?_push_size _ rfl, rfl, rfl⟩, fp_new I1, q _ _ walk_tup fun G e => sqt_keep hq e⟩
end
end Own
set_option Elab.async false
set_option linter.all false
set_option maxRecDepth 100000
set_option maxHeartbeats 400000
namespace Own
open PySem PySem.Spec PyProof.Rows L2 LamX
/-! ### drawings, any value -/
theorem drop_at {α : Type} {l : List α} {i : Nat} {x : α} (h : l[i]? = some x) : l.drop i = x :: l.drop (i + 1) := by
  obtain ⟨hlt, hg⟩ := List.getElem?_eq_some_iff.mp h
  rw [List.drop_eq_getElem_cons hlt, hg]
/-- the keys of a dict are these names -/
def KeysAre (kvs : List (Key × V)) (kn : List Str) : Prop := kvs.map (·.1) = kn.map Sum.inr
theorem KeysAre.look {kvs : List (Key × V)} {kn : List Str} (h : KeysAre kvs kn) (z : Str) : (valV kvs (Sum.inr z)).isSome = decide (z ∈ kn) := by
  cases e : valV kvs (Sum.inr z) with
  | none =>
    have := valV_not e
    rw [h] at this
    symm
    refine decide_eq_false fun q => this (List.mem_map.mpr ⟨z, q, rfl⟩)
  | some v =>
    have := valV_in e
    rw [h] at this
    obtain ⟨y, hy, ey⟩ := List.mem_map.mp this
    cases ey
    exact (decide_eq_true hy).symm
theorem KeysAre.put {kvs : List (Key × V)} {kn : List Str} {z : Str} {v : V} (h : KeysAre kvs kn) (n : z ∉ kn) : KeysAre (putK kvs (Sum.inr z) v) (kn ++ [z]) := by
  have e : valV kvs (Sum.inr z) = none := by
    have := h.look z
    rw [decide_eq_false n] at this
    cases q : valV kvs (Sum.inr z) with
    | none => rfl
    | some v => rw [q] at this; cases this
  rw [putK_new v e]
  unfold KeysAre
  rw [List.map_append, h, List.map_append]
  rfl
theorem KeysAre.len {kvs : List (Key × V)} {kn : List Str} (h : KeysAre kvs kn) : kvs.length = kn.length := by
  have := congrArg List.length h
  rw [List.length_map, List.length_map] at this
  exact this
def strV : V → Str
  | .str x => x
  | _ => ""
def StepRd (NOW : List Str) (e : PyData) : Prop := ∀ a b, e = .tuple [a, b] → Ready NOW b
def DrawIn (NOW : List Str) (H : Hp) (x : V) (d : PyData) : Prop := Dq [] H x d ∧ wdb d = true ∧ ∀ ds, itemsOf d = some ds → ∀ e ∈ ds, StepRd NOW e
theorem DrawIn.same {NOW : List Str} {H H' : Hp} {x : V} {d : PyData} (h : DrawIn NOW H x d) (e : Same H H') : DrawIn NOW H' x d := ⟨h.1.same e, h.2⟩
def spDrawing (NOW : List Str) : Sp := fun vs H Q _ => ∃ (x : V) (d : PyData), vs = [x] ∧ DrawIn NOW H x d ∧ ∀ H', Same H H' → Q (.bl (drawV SHEET d)) H'
theorem step_notup {kn : List Str} {e : PyData} (h : isT e = false) : stepB kn e = none := by
  cases e <;> first | rfl | cases h
theorem step_len {kn : List Str} {es : List PyData} (h : es.length ≠ 2) : stepB kn (.tuple es) = none := by
  unfold stepB
  split
  · rename_i n e heq
    injection heq with heq
    subst heq
    exact absurd rfl h
  · rfl
theorem step_noname {kn : List Str} {a b : PyData} (h : nameB a = false) : stepB kn (.tuple [a, b]) = none := by
  cases a with
  | str n =>
    refine step_no fun q => ?_
    have : nameB (.str n) = true := decide_eq_true q.1
    rw [h] at this
    cases this
  | _ => rfl
theorem once_all {kn ns : List Str} : ((once ns).map V.str).any (fun x => !decide (strV x ∈ kn)) = !decide (∀ z ∈ ns, z ∈ kn) := by
  rw [List.any_map, Bool.eq_iff_iff, List.any_eq_true, Bool.not_eq_true', ← Bool.not_eq_true, decide_eq_true_iff]
  constructor
  · rintro ⟨z, hz, e⟩ q
    have := q z ((once_mem _ _).mp hz)
    have e' : (!decide (z ∈ kn)) = true := e
    rw [decide_eq_true this] at e'
    cases e'
  · intro q
    have : ∃ z ∈ ns, z ∉ kn := by
      refine Classical.byContradiction fun r => q fun z hz => Classical.byContradiction fun r2 => r ⟨z, hz, r2⟩
    obtain ⟨z, hz, e⟩ := this
    refine ⟨z, (once_mem _ _).mpr hz, ?_⟩
    show (!decide (z ∈ kn)) = true
    rw [decide_eq_false e]
    rfl
theorem form_small {d : Deed} (h : DeedOk d) : d.names.length ≤ 5 := by
  obtain ⟨m, k, hm, nm, _⟩ := h
  have : m ≤ 5 := (form_facts _ hm).2.2.1
  omega
theorem once_small {d : Deed} (h : DeedOk d) : (once d.names).length ≤ 5 := by
  have h1 := once_len d.names []
  have h2 : ([] : List Str).length = 0 := rfl
  have h3 := form_small h
  unfold once
  omega
theorem deed_okN {d : Deed} (h : DeedOk d) : ∀ z ∈ d.names, NameOk z := by
  obtain ⟨m, k, hm, nm, okN, _⟩ := h
  exact okN
section
variable {NOW : List Str} {P : Program} {w : World} {K : PySem.W.Frag} {mg : Str → Option Value} {base : Heap}
theorem scDrawing : FnScope ["value", "known", "step", "name"] ["value"] (defScope sDrawing) := ⟨rfl, rfl, rfl, by decide +kernel, rfl, by decide +kernel, by decide +kernel⟩
theorem ok_drawing {f CN CD : Addr} {fd2 dS dN dD dM : FuncData} (F : FnP K "is_drawing" sDrawing f fd2) (KS : Fk P w K mg base CX0 5 "sheet" dS [] (spSheet CN)) (KN : Fk P w K mg base CX0 1 "is_name" dN ["value"] spName) (KD : Fk P w K mg base CX0 2 "is_deed" dD ["value"] (spDeed NOW))
    (KM : Fk P w K mg base (L2.CX P w) 4 "names_of" dM ["deed"] (spOfDeed NOW CD rNames)) (T : Txt K mg) : FnOk P w K mg base CX0 6 f fd2 ["value"] (spDrawing NOW) := by
  refine F.ok scDrawing (fun vs H Q E h => ?_) (fun cdv A outer s H vs Q E hr h => ?_)
  · obtain ⟨x, d, rfl, _⟩ := h
    rfl
  · obtain ⟨x, d, rfl, ⟨hx, wd, rdy⟩, k⟩ := h
    have hu := hu_of hr
    have hr1 := hr.mono (show 1 ≤ 5 by decide)
    have hr2 := hr.mono (show 2 ≤ 5 by decide)
    have hr4 := hr.mono (show 4 ≤ 5 by decide)
    refine ⟨_, PSs.nox (pss_cons (ps_if (pt_not (pt_val (pe_callB call_isiT (by rfl) T.isi boot_isinstance (pa_cons (pv 0) (pa_cons (pe_tup (pa_cons (pe_bltn (v := .ty "list") (by rfl) T.list (by decide +kernel) rfl) (pa_cons (pe_bltn (v := .ty "tuple") (by rfl) T.tuple (by decide +kernel) rfl) pa_nil))) pa_nil))))) (pss_one (ps_ret pe_bl)) pss_nil)
      (pss_cons (ps_set (i := 1) scDrawing.nd rfl (.inr rfl) (pe_callTy call_dictD (by rfl) T.dict (by decide +kernel) (pa_cons (pe_call0 KS.ok hr (by rfl) KS.g KS.kp KS.b .nil pass0) pa_nil)))
      (pss_cons (ps_for PassesOwn.never rfl (pi_seqW (pv 0)) (pg_name (i := 2) scDrawing.nd rfl (Or.inl rfl))
        (pss_cons (ps_if (PW.pt (pw_or (pt_not (pt_val (pe_callB call_isi (by rfl) T.isi boot_isinstance (pa_cons (pv 2) (pa_cons (pe_bltn (v := .ty "tuple") (by rfl) T.tuple (by decide +kernel) rfl) pa_nil)))))
            (pw_or (pt_cmpR op_ne (pe_callB call_len_seq (by rfl) T.len PySem.boot_len (pa_cons (pv 2) pa_nil)) pe_int (nomark _)) (pw_or (pt_not (pt_val (pe_call KN.ok hr1 (by rfl) KN.g KN.kp KN.b .nil pass0 (pa_cons (pe_ix ix_tup (pv 2) pe_int (fun _ _ => rfl)) pa_nil))))
            (pw_or1 (pt_cmp (pc_din hu (pe_ix ix_tup (pv 2) pe_int (fun _ _ => rfl)) (pv 1)))))))) (pss_one (ps_ret pe_bl)) pss_nil)
        (pss_cons (ps_if (PW.pt (pw_or (pt_not (pt_val (pe_call KD.ok hr2 (by rfl) KD.g KD.kp KD.b .nil pass0 (pa_cons (pe_ix ix_tup (pv 2) pe_int (fun _ _ => rfl)) pa_nil))))
            (pw_or1 (pt_cmpR (op_neD hr.units) (pe_lc (own := [("name", 3)]) (g := gName 3) (by rfl) scDrawing.nd (pi_tup (pe_call KM.ok hr4 (by rfl) KM.g KM.kp KM.b .nil passL (pa_cons (pe_ix ix_tup (pv 2) pe_int (fun _ _ => rfl)) pa_nil))) (blkOk_by (own := [("name", 3)]) (N := ["value", "known", "step", "name"]) (sc := defScope sDrawing) (by decide +kernel))
              (fun _ _ _ _ _ => pg_name (i := 3) scDrawing.nd rfl (Or.inl rfl)) (fun _ _ _ _ _ => pts_one (pt_cmp (pc_dnotin hu (pv 3) (pv 1)))) (fun _ _ _ _ _ => pv 3)) (pe_lst pa_nil) (nomark _))))) (pss_one (ps_ret pe_bl)) pss_nil)
        (pss_one (ps_dput hu (pv 1) (pe_ix ix_tup (pv 2) pe_int (fun _ _ => rfl)) (pv 2) rfl)))))
      (pss_one (ps_ret pe_bl))))), ?_⟩
    refine ⟨_, rfl, (by show 2 ≤ sizeLine; decide), fun tp ntp => ?_⟩
    have s0 := same_upd (o := .tup [.ty "list", .ty "tuple"]) ntp
    refine ⟨x, tp, _, .type (tyOf d), [.type "list", .type "tuple"], (isL d || isT d), rfl, upd_same, .cons (.ty _) (.cons (.ty _) .nil), (hx.same s0).ty, ?_, _, rfl, ?_⟩
    · cases eL : isL d with
      | true => exact kitAny_cons (b := true) (kit_ty (eL ▸ kit_list d)) (fun z => by cases z) (fun _ => rfl)
      | false =>
        cases eT : isT d with
        | true => exact kitAny_cons (b := false) (kit_ty (eL ▸ kit_list d)) (fun _ => kitAny_cons (b := true) (kit_ty (eT ▸ kit_tuple d)) (fun z => by cases z) (fun _ => rfl)) (fun z => by cases z)
        | false => exact kitAny_cons (b := false) (kit_ty (eL ▸ kit_list d)) (fun _ => kitAny_cons (b := false) (kit_ty (eT ▸ kit_tuple d)) (fun _ => kitAny_nil) fun z => by cases z) (fun z => by cases z)
    cases eLT : isL d || isT d with
    | false =>
      refine iteT ?_
      have q := k _ s0
      have e : drawV SHEET d = false := by
        cases d <;> first | rfl | cases eLT
      rw [e] at q
      exact q
    | true =>
    refine iteF ?_
    obtain ⟨a, xs, ds, rfl, hitems, hf2, l1000, vds, walkable⟩ : ∃ a xs ds, x = .ref a ∧ itemsOf d = some ds ∧ F2 (Dq [] H) xs ds ∧ ds.length ≤ 1000 ∧ (∀ e ∈ ds, vdb e = true) ∧ (H a = some (.lst xs) ∨ H a = some (.tup xs)) := by
      cases hx with
      | lst _ ha hds =>
        have h2 : (decide (_ ≤ 1000) && _) = true := wd
        rw [Bool.and_eq_true, decide_eq_true_iff, List.all_eq_true] at h2
        exact ⟨_, _, _, rfl, rfl, hds.f2, h2.1, h2.2, .inl ha⟩
      | tup _ ha hds =>
        have h2 : (decide (_ ≤ 1000) && _) = true := wd
        rw [Bool.and_eq_true, decide_eq_true_iff, List.all_eq_true] at h2
        exact ⟨_, _, _, rfl, rfl, hds.f2, h2.1, h2.2, .inr ha⟩
      | non => cases eLT
      | bl => cases eLT
      | int => cases eLT
      | str => cases eLT
      | dict => cases eLT
    have rdy := rdy ds hitems
    have edr : drawV SHEET d = goesB SHEET ds := by
      unfold drawV
      rw [hitems]
    rw [edr] at k
    refine ⟨rfl, fun d0 wv H1 s1 nd hw5 hd0 _ => ⟨d0, _, rfl, .inl hd0, fun dk ndk => ?_⟩⟩
    have s2 := same_upd (o := .dK ((SHEET.map Sum.inr).zip wv)) ndk
    generalize hH2 : L2.upd H1 dk (.dK ((SHEET.map Sum.inr).zip wv)) = H2 at s2
    have hdk : H2 dk = some (.dK ((SHEET.map Sum.inr).zip wv)) := by rw [← hH2, upd_same]
    have sA := (s0.trans s1).trans s2
    have hf := hf2.mono fun _ _ q => q.same sA
    have lz : H dk = none := (s0.trans s1).free ndk
    have key0 : KeysAre ((SHEET.map (Sum.inr : Str → Key)).zip wv) SHEET := by
      unfold KeysAre
      rw [List.map_fst_zip (by rw [List.length_map, hw5]; decide)]
    have nad : a ≠ dk := by
      rintro rfl
      rcases walkable with e | e <;> rw [lz] at e <;> cases e
    have hlen := hf2.len
    have fin : ∀ G', Kp [dk] H2 G' → Same H G' := fun G' kg b ob e => kg _ _ (sA _ _ e) (by
      have : b ≠ dk := fun z => by rw [z, lz] at e; cases e
      simp [this])
    have wka : SqL K H2 a xs ∨ SqT K H2 a xs := walkable.imp (fun e => SqL.of (sA _ _ e)) fun e => SqT.of (sA _ _ e)
    refine ⟨_, rfl, a, xs, rfl, wka, fun J GG wk hGG => ?_⟩
    have hG : ∀ G, Kp [dk] H2 G → GG G := fun G kG => hGG G fun o e => kG _ _ e (by simp [nad])
    refine for_it wk (fun i σ G => ∃ v2 kvs kn, σ = [some (.ref a), some (.ref dk), v2, none] ∧ Kp [dk] H2 G ∧ G dk = some (.dK kvs) ∧ KeysAre kvs kn ∧ kn.length ≤ 5 + i ∧ goesB kn (ds.drop i) = goesB SHEET ds)
      ⟨none, _, SHEET, rfl, Kp.refl _ _, hdk, key0, Nat.le_refl _, rfl⟩ (fun i σ G _ q => hG G (by obtain ⟨_, _, _, _, kG, _⟩ := q; exact kG)) ?_ ?_
    · rintro i y σ G0 G hi ⟨v2, kvs, kn, rfl, kG, gd, ky, lk, eq⟩ ⟨rfl, hy⟩
      obtain ⟨e, he, hq0⟩ := hf2.at_ hy
      have hq := hq0.same (fin _ kG)
      rw [drop_at he] at eq
      have vde := vds e (List.mem_of_getElem? he)
      have rde := rdy e (List.mem_of_getElem? he)
      have bad : goesB SHEET ds = false → Q (.bl false) G := fun z => by
        have q := k G (fin G kG)
        rw [z] at q
        exact q
      have badAt : stepB kn e = none → goesB SHEET ds = false := fun z => by rw [← eq, goes_bad z]
      refine ⟨_, rfl, y, .ty "tuple", .type (tyOf e), .type "tuple", isT e, rfl, .ty _, hq.ty, kit_ty (kit_tuple e), _, rfl, ?_⟩
      cases eT : isT e with
      | false =>
        refine iteT ?_
        exact bad (badAt (step_notup eT))
      | true =>
      refine iteF ?_
      obtain ⟨b, bs, es, rfl, rfl, hb, hbs⟩ : ∃ b bs es, y = .ref b ∧ e = .tuple es ∧ G b = some (.tup bs) ∧ DqAll [] G bs es := by
        cases hq with
        | tup _ h1 h2 => exact ⟨_, _, _, rfl, rfl, h1, h2⟩
        | non => cases eT
        | bl => cases eT
        | int => cases eT
        | str => cases eT
        | lst => cases eT
        | dict => cases eT
      have sb : SqT K G b bs := SqT.of hb
      have lbs := hbs.f2.len
      refine ⟨_, rfl, b, _, rfl, .inr sb, rfl, _, rfl, ?_⟩
      by_cases l2 : es.length = 2
      rotate_left
      · have e1 : (!decide (V.int ((bs.length : Nat) : Int) = V.int 2)) = true := by
          rw [decide_eq_false (by simp only [V.int.injEq]; omega)]
          rfl
        rw [e1]
        refine iteT ?_
        exact bad (badAt (step_len l2))
      have e1 : (!decide (V.int ((bs.length : Nat) : Int) = V.int 2)) = false := by
        rw [decide_eq_true (by simp only [V.int.injEq]; omega)]
        rfl
      rw [e1]
      refine iteF ?_
      obtain ⟨a1, a2, rfl⟩ : ∃ a1 a2, es = [a1, a2] := by
        match es, l2 with
        | [a1, a2], _ => exact ⟨a1, a2, rfl⟩
      have gde : gdb (.tuple [a1, a2]) = true := vdb_gdb vde rfl
      have g12 := (gdb_tuple gde).2
      have g1 := g12 a1 List.mem_cons_self
      have g2 := g12 a2 (List.mem_cons_of_mem _ List.mem_cons_self)
      have v1 : vdb a1 = true := by unfold vdb; rw [g1, Bool.or_true]
      have v2' : vdb a2 = true := by unfold vdb; rw [g2, Bool.or_true]
      cases hbs with
      | @cons u1 _ _ _ q1 hbs =>
      cases hbs with
      | @cons u2 _ _ _ q2 hbs =>
      cases hbs
      refine ⟨_, rfl, b, _, _, _, rfl, rfl, sb, at_nat (k := 0) rfl, u1, a1, rfl, q1, v1, fun G1 t1 => ⟨_, rfl, ?_⟩⟩
      have sb1 : SqT K G1 b [u1, u2] := seqT t1 sb
      have kG1 := kG.trans (Kp.of t1 (xs := [dk]))
      have bad1 : ∀ {G1 : Hp}, Kp [dk] H2 G1 → goesB SHEET ds = false → Q (.bl false) G1 := fun {G1} kg z => by
        have q := k G1 (fin G1 kg)
        rw [z] at q
        exact q
      cases eN : nameB a1 with
      | false =>
        refine iteT ?_
        exact bad1 kG1 (badAt (step_noname eN))
      | true =>
      refine iteF ?_
      obtain ⟨n, rfl⟩ : ∃ n, a1 = .str n := by
        cases a1 <;> first | exact ⟨_, rfl⟩ | cases eN
      have okn : NameOk n := of_decide_eq_true eN
      cases q1
      have gd1 := t1 _ _ gd
      refine ⟨_, rfl, b, _, _, _, rfl, rfl, sb1, at_nat (k := 0) rfl, _, rfl, dk, _, rfl, DGet.k (k := Sum.inr n) gd1, _, rfl, ?_⟩
      rw [ky.look]
      by_cases hn : n ∈ kn
      · rw [decide_eq_true hn]
        refine iteT ?_
        exact bad1 kG1 (badAt (step_no fun q => q.2.1 hn))
      rw [decide_eq_false hn]
      refine iteF ?_
      have rd2 := rde _ _ rfl
      have q2' := q2.same t1
      refine ⟨_, rfl, b, _, _, _, rfl, rfl, sb1, at_nat (k := 1) rfl, u2, a2, rfl, ⟨q2', v2', rd2⟩, fun G2 t2 => ⟨_, rfl, ?_⟩⟩
      have kG2 := kG1.trans (Kp.of t2 (xs := [dk]))
      cases eD : deedB a2 with
      | false =>
        refine iteT ?_
        refine bad1 kG2 (badAt (step_no fun q => ?_))
        have q3 := q.2.2.1
        rw [eD] at q3
        cases q3
      | true =>
      refine iteF ?_
      obtain ⟨dd, rfl, okd⟩ := deedB_ok eD
      refine ⟨_, rfl, b, _, _, _, rfl, rfl, seqT t2 sb1, at_nat (k := 1) rfl, u2, dd.py, rfl, ⟨q2'.same t2, v2', rd2⟩, .inl ⟨dd, rfl, okd, fun p G3 t3 _ hp => ?_⟩⟩
      have fo : ∀ z ∈ once dd.names, NameOk z := fun z hz => deed_okN okd z ((once_mem _ _).mp hz)
      have lo : ((once dd.names).map V.str).length < sizeLine := by
        rw [List.length_map]
        exact Nat.lt_of_le_of_lt (once_small okd) (by decide)
      have gd3 := t3 _ _ (t2 _ _ gd1)
      refine any_ne (p := fun x => !decide (strV x ∈ kn)) (SqT.of hp) (fok_names fo) lo (by show 3 < 4; decide) (fun x G' hx tG R kR => ?_) fun G4 t4 => ⟨_, rfl, ?_⟩
      · obtain ⟨z, hz, rfl⟩ := List.mem_map.mp hx
        refine ⟨_, rfl, _, rfl, dk, _, rfl, DGet.k (k := Sum.inr z) (tG _ _ gd3), _, rfl, ?_⟩
        rw [ky.look]
        exact kR G' (Same.refl _)
      rw [once_all]
      have t14 := ((t1.trans t2).trans t3).trans t4
      have kG4 := kG.trans (Kp.of t14 (xs := [dk]))
      by_cases ek : ∀ z ∈ dd.names, z ∈ kn
      rotate_left
      · rw [decide_eq_false ek]
        refine iteT ?_
        refine bad1 kG4 (badAt (step_no fun q => ek ?_))
        have := q.2.2.2
        rw [dnames_py okd] at this
        exact this
      rw [decide_eq_true ek]
      refine iteF ?_
      have gd4 := t14 _ _ gd
      have lkv : kvs.length < sizeLine := by
        rw [ky.len]
        have : i < ds.length := (List.getElem?_eq_some_iff.mp he).1
        exact Nat.lt_of_le_of_lt (show kn.length ≤ 2000 by omega) (by decide)
      refine ⟨_, rfl, _, rfl, _, rfl, b, _, _, _, rfl, rfl, seqT t14 sb, at_nat (k := 0) rfl, dk, _, rfl, DPut.k (k := Sum.inr n) gd4 lkv, ?_⟩
      refine ⟨_, _, kn ++ [n], rfl, kG4.trans (Kp.upd (by simp)), upd_same, ky.put hn, ?_, ?_⟩
      · rw [List.length_append, List.length_singleton]
        omega
      · rw [← eq]
        exact (goes_good ⟨okn, hn, eD, by rw [dnames_py okd]; exact ek⟩).symm
    · rintro σ G ⟨v2, kvs, kn, rfl, kG, gd, ky, lk, eq⟩
      rw [hlen, List.drop_length] at eq
      have q := k G (fin G kG)
      rw [← eq] at q
      exact q
end
end Own
set_option Elab.async false
set_option linter.all false
set_option maxRecDepth 100000
set_option maxHeartbeats 400000
namespace Own
open PySem PySem.Spec PyProof.Rows L2 LamX
/-! ### raising while a dict is walked -/
theorem takes_unlock {X : Cx} {W : WX} (tk : Takes X W) : Takes X (fun cls dd σ H => ∃ d od u, H d = some (.frz od u) ∧ (∀ o' u', X.H_0 d ≠ some (.frz o' u')) ∧ W cls dd σ (L2.upd H d u)) := by
  rintro u s' ⟨a, B, sI, pins, σ, H, cls, dd, e, I, nb, up, sky, na, os, ag, d, od, v, hd, hn, w⟩
  refine tk u s' ⟨a, B, sI, pins, σ, L2.upd H d v, cls, dd, e, I.unlock hd hn, nb, up, sky, ?_, os, ag, w⟩
  rw [upd_ne (fun z => by rw [z, hd] at na; cases na)]
  exact na
/-! ### tables of names -/
def kD : Key → PyData
  | .inl i => .int i
  | .inr z => .str z
theorem Dq.key {N : List Addr} {H : Hp} : ∀ k : Key, Dq N H (kV k) (kD k)
  | .inl i => .int i
  | .inr z => .str z
theorem Dq.flat {N : List Addr} {H : Hp} : ∀ {v : V}, fok v = true → Dq N H v (fd v)
  | .non, _ => .non
  | .bl b, _ => .bl b
  | .int i, _ => .int i
  | .str z, _ => .str z
def entB (kv : Key × V) : Bool := nameB (kD kv.1) && nameB (fd kv.2)
def entOk (kv : Key × V) : Bool := vdb (kD kv.1) && (fok kv.2 && vdb (fd kv.2))
/-- a dict of flat values -/
def TabIn (H : Hp) (x : V) (kvs : List (Key × V)) : Prop := ∃ b, x = .ref b ∧ H b = some (.dK kvs) ∧ kvs.length ≤ 1000 ∧ kvs.all entOk = true
theorem TabIn.same {H H' : Hp} {x : V} {kvs : List (Key × V)} (h : TabIn H x kvs) (e : Same H H') : TabIn H' x kvs := by
  obtain ⟨b, rfl, h1, h2⟩ := h
  exact ⟨b, rfl, e _ _ h1, h2⟩
def BadT (H : Hp) (x : V) : Prop := (∃ d, Dq [] H x d ∧ isD d = false) ∨ ∃ kvs, TabIn H x kvs ∧ kvs.all entB = false
def onV (kvs : List (Key × V)) (d : Deed) : List V := .str d.word :: ((d.names.map fun z => (valV kvs (.inr z)).getD (.str z)) ++ d.way.map V.int)
def spOnNames (NOW : List Str) (CD CT : Addr) : Sp := fun vs H Q E => ∃ (x y : V) (d : PyData), vs = [x, y] ∧ DeedIn NOW H x d ∧ ((deedB d = false ∧ ∀ H', Same H H' → E (.ref CD) none H') ∨ ∃ dd, d = dd.py ∧ DeedOk dd ∧
  (((∀ H', Same H H' → BadT H' y) ∧ ∀ H', Same H H' → E (.ref CT) none H') ∨ ∃ kvs, TabIn H y kvs ∧ kvs.all entB = true ∧ ∀ p H', Same H H' → H' p = some (.tup (onV kvs dd)) → Q (.ref p) H'))
/-- t + u -/
theorem cat_readV {K : PySem.W.Frag} {H : Hp} {Q : VK} {a b : Addr} {xs ys : List V} (ha : H a = some (.tup xs)) (hb : H b = some (.tup ys)) (hz : xs.length + ys.length ≤ sizeLine) (k : ∀ r H', Same H H' → H' r = some (.tup (xs ++ ys)) → Q (.ref r) H') : rCatA K (.ref a) (.ref b) H Q := by
  refine ⟨a, b, _, _, rfl, rfl, SqT.of ha, SqT.of hb, hz, fun e => ?_, fun _ e => ?_, fun _ _ p np => ?_⟩
  · refine k b H (Same.refl _) ?_
    rw [e, List.nil_append]
    exact hb
  · refine k a H (Same.refl _) ?_
    rw [e, List.append_nil]
    exact ha
  · exact k p _ (same_upd np) upd_same
theorem cut_to {xs : List V} {k : Nat} (h : k ≤ xs.length) : cutV xs none (some (k : Int)) = xs.take k := by
  show (xs.drop (HT.sIx xs.length 0 none)).take (HT.sIx xs.length xs.length (some (k : Int)) - HT.sIx xs.length 0 none) = _
  rw [HT.sIx_none, HT.sIx_nat, Nat.min_eq_left h]
  rfl
theorem len_onV {kvs : List (Key × V)} {d : Deed} : (onV kvs d).length = d.vs.length := by
  unfold onV Deed.vs
  simp
theorem way_small {d : Deed} (h : DeedOk d) : d.way.length ≤ 1 := by
  obtain ⟨m, k, hm, nm, _, nk, _⟩ := h
  have : k ≤ 1 := (form_facts _ hm).2.2.2
  omega
section
variable {NOW : List Str} {P : Program} {w : World} {K : PySem.W.Frag} {mg : Str → Option Value} {base : Heap} {f CD CT : Addr} {fd2 fdN fdD : FuncData}
abbrev nsOnN : List Str := ["deed", "table", "name", "fresh", "many"]
theorem scOnNames : FnScope nsOnN ["deed", "table"] (defScope sOnNames) := ⟨rfl, rfl, rfl, by decide +kernel, rfl, by decide +kernel, by decide +kernel⟩
theorem ok_onnames (F : FnP K "on_names" sOnNames f fd2) (KD : Fk P w K mg base (L2.CX P w) 3 "need_deed" fdD ["deed"] (spNeedD NOW CD)) (KN : Fk P w K mg base CX0 1 "is_name" fdN ["value"] spName) (T : Txt K mg) (W : Dct NOW K w mg) (B : ExcT K mg "BadTable" CT) :
    FnOk P w K mg base (L2.CX P w) 4 f fd2 ["deed", "table"] (spOnNames NOW CD CT) := by
  obtain ⟨pf, es, nE, hpf, DF, atF, _⟩ := W.forms
  refine F.ok scOnNames (fun vs H Q E h => ?_) (fun cdv A outer s H vs Q E hr h => ?_)
  · obtain ⟨x, y, d, rfl, _⟩ := h
    rfl
  · obtain ⟨x, y, d, rfl, hx, k⟩ := h
    have hu := hu_of hr
    have hr1 := hr.mono (show 1 ≤ 3 by decide)
    refine ⟨_, pss_cons (ps_expr (pe_call KD.ok hr (by rfl) KD.g KD.kp KD.b .nil (passes_call (takes_of rfl rfl rfl rfl) fun _ _ _ _ h => h) (pa_cons (pv 0) pa_nil)))
      (pss_cons (ps_if (pt_not (pt_val (pe_callB call_isi (by rfl) T.isi boot_isinstance (pa_cons (pv 1) (pa_cons (pe_bltn (v := .ty "dict") (by rfl) T.dict (by decide +kernel) rfl) pa_nil))))) (pss_one (ps_raise rfl (takes_of rfl rfl rfl rfl) (pmk_own PySem.F.excBase_ValueError B.x B.g B.k (raises_own B.b B.t) rfl))) pss_nil)
      (pss_cons (ps_lock (ps_for (passes_of rfl) rfl (pi_items (pv 1)) (pg_tup rfl (pgs_cons (pg_name (i := 2) scOnNames.nd rfl (.inl rfl)) (pgs_cons (pg_name (i := 3) scOnNames.nd rfl (.inl rfl)) pgs_nil)))
        (pss_one (ps_if (PW.pt (pw_or (pt_not (pt_val (pe_call KN.ok hr1 (by rfl) KN.g KN.kp KN.b .nil pass0 (pa_cons (pv 2) pa_nil)))) (pw_or1 (pt_not (pt_val (pe_call KN.ok hr1 (by rfl) KN.g KN.kp KN.b .nil pass0 (pa_cons (pv 3) pa_nil)))))))
          (pss_one (ps_raise rfl (takes_unlock (takes_of rfl rfl rfl rfl)) (pmk_own PySem.F.excBase_ValueError B.x B.g B.k (raises_own B.b B.t) rfl))) pss_nil))))
      (PSs.nox (pss_cons (ps_set (i := 4) scOnNames.nd rfl (.inl rfl) (pe_ix ix_tup (pe_ix ix_kdict (pe_glob (v := .ref pf) (by rfl) hpf rfl) (pe_ix ix_tup (pv 0) pe_int (fun _ _ => rfl)) (fun _ _ => rfl)) pe_int (fun _ _ => rfl)))
      (pss_one (ps_ret (pe_op op_catA (pe_op op_catA (pe_slice sl_tup (pv 0) po_none (po_some pe_int)) (pe_tupleOf (by rfl) T.tuple (pe_lc (own := [("name", 2)]) (g := gName 2) (tt := tYes) (by rfl) scOnNames.nd (pi_tup (pe_slice sl_tup (pv 0) (po_some pe_int) (po_some (pe_op op_add pe_int (pv 4))))) (blkOk_by (own := [("name", 2)]) (N := nsOnN) (sc := defScope sOnNames) (by decide +kernel))
          (fun _ _ _ _ _ => pg_name (i := 2) scOnNames.nd rfl (Or.inl rfl)) (fun _ _ _ _ _ => pts_nil) (fun _ _ _ _ _ => pe_dget2 hu (pv 1) (pv 2) (pv 2) ⟨rfl, rfl, rfl, rfl⟩))))
          (pe_slice sl_tup (pv 0) (po_some (pe_op op_add pe_int (pv 4))) po_none)))))))), ?_⟩
    have fin1 : ∀ {G : Hp}, deedB d = false → (∀ H', Same H H' → E (.ref CD) none H') → Same H G → E (.ref CD) none G := fun _ k s => k _ s
    rcases k with ⟨eD, k⟩ | ⟨dd, rfl, ok, k⟩
    · exact ⟨_, rfl, x, d, rfl, hx, .inr ⟨eD, k⟩⟩
    refine ⟨_, rfl, x, _, rfl, hx, .inl ⟨deedB_of ok, fun H1 s1 => ?_⟩⟩
    obtain ⟨a, rfl, _, ha⟩ := hx.1.deed
    have two : (∃ d', Dq [] H1 y d' ∧ isD d' = false ∧ E (.ref CT) none H1) ∨ ∃ kvs, TabIn H1 y kvs ∧ (kvs.all entB = false → ∀ H', Same H H' → E (.ref CT) none H') ∧ (kvs.all entB = true → ∀ p H', Same H H' → H' p = some (.tup (onV kvs dd)) → Q (.ref p) H') := by
      rcases k with ⟨bad, k⟩ | ⟨kvs, tb, e, k⟩
      · rcases bad H1 s1 with ⟨d', q, e⟩ | ⟨kvs, tb, e⟩
        · exact .inl ⟨d', q, e, k H1 s1⟩
        · exact .inr ⟨kvs, tb, (fun _ => k), (fun z => by rw [e] at z; cases z)⟩
      · exact .inr ⟨kvs, tb.same s1, (fun z => by rw [e] at z; cases z), fun _ => k⟩
    clear k
    rcases two with ⟨d', q, e, k⟩ | ⟨kvs, ⟨b, rfl, hb1, l1000, eok⟩, kR, kG⟩
    · refine ⟨_, rfl, y, .ty "dict", .type (tyOf d'), .type "dict", false, rfl, .ty _, q.ty, kit_ty (e ▸ kit_dict d'), _, rfl, ?_⟩
      exact iteT k
    refine ⟨_, rfl, .ref b, .ty "dict", .type "dict", .type "dict", true, rfl, .ty _, .base (.dK hb1), kit_ty (by decide +kernel), _, rfl, ?_⟩
    refine iteF ?_
    rw [List.all_eq_true] at eok
    have hb0 : H b = some (.dK kvs) ∨ H b = none := by
      cases e : H b with
      | none => exact .inr rfl
      | some o =>
        have := s1 _ _ e
        rw [hb1] at this
        exact .inl this.symm
    refine ⟨b, .dK kvs, hb1, trivial, fun od => ?_⟩
    have hbL := upd_same (H := H1) (a := b) (o := .frz od (.dK kvs))
    generalize hHL : L2.upd H1 b (.frz od (.dK kvs)) = HL at hbL
    -- behind the lock
    have back : ∀ {G : Hp}, Same HL G → Same H (L2.upd G b (.dK kvs)) := fun {G} sG c o e => by
      by_cases hc : c = b
      · subst hc
        rw [upd_same]
        have := s1 _ _ e
        rw [hb1] at this
        exact this
      · rw [upd_ne hc]
        refine sG _ _ ?_
        rw [← hHL, upd_ne hc]
        exact s1 _ _ e
    refine ⟨_, rfl, b, od, kvs, rfl, hbL, ?_⟩
    refine for_it walk_items (fun i σ G => ∃ v2 v3, σ = [some (.ref a), some (.ref b), v2, v3, none] ∧ Same HL G ∧ (kvs.take i).all entB = true) ⟨none, none, rfl, Same.refl _, rfl⟩ (fun i σ G _ q => by obtain ⟨_, _, _, sG, _⟩ := q; exact sG _ _ hbL) ?_ ?_
    · rintro i t σ G G' hi ⟨v2, v3, rfl, sG, al⟩ ⟨TT, u, v, rfl, nT, rfl, hu', hv'⟩
      obtain ⟨kv, hkv⟩ : ∃ kv, kvs[i]? = some kv := ⟨_, List.getElem?_eq_getElem hi⟩
      dsimp only at hu' hv'
      rw [hkv] at hu' hv'
      cases hu'
      cases hv'
      have sT := same_upd (o := .tup [kV kv.1, kv.2]) nT
      have eo := eok kv (List.mem_of_getElem? hkv)
      unfold entOk at eo
      rw [Bool.and_eq_true, Bool.and_eq_true] at eo
      obtain ⟨e1, e2, e3⟩ := eo
      refine ⟨TT, _, rfl, SqT.of upd_same, rfl, _, _, rfl, _, _, rfl, rfl, ?_⟩
      have bad : ∀ {G2 : Hp}, Same HL G2 → entB kv = false → ∃ d od u, G2 d = some (.frz od u) ∧ (∀ o' u', H d ≠ some (.frz o' u')) ∧ E (.ref CT) none (L2.upd G2 d u) := fun {G2} s2 eb => by
        refine ⟨b, od, .dK kvs, s2 _ _ hbL, fun o' u' e => ?_, kR ?_ _ (back s2)⟩
        · rcases hb0 with z | z <;> rw [z] at e <;> cases e
        · rw [← Bool.not_eq_true, List.all_eq_true]
          intro z
          rw [z kv (List.mem_of_getElem? hkv)] at eb
          cases eb
      refine ⟨_, rfl, kV kv.1, kD kv.1, rfl, Dq.key _, e1, fun G1 t1 => ⟨_, rfl, ?_⟩⟩
      have sG1 := (sG.trans sT).trans t1
      cases en : nameB (kD kv.1) with
      | false =>
        refine iteT ?_
        exact bad sG1 (by unfold entB; rw [en]; rfl)
      | true =>
      refine iteF ?_
      refine ⟨_, rfl, kv.2, fd kv.2, rfl, Dq.flat e2, e3, fun G2 t2 => ⟨_, rfl, ?_⟩⟩
      have sG2 := sG1.trans t2
      cases en2 : nameB (fd kv.2) with
      | false =>
        refine iteT ?_
        exact bad sG2 (by unfold entB; rw [en2, Bool.and_false])
      | true =>
      refine iteF ?_
      refine ⟨_, _, rfl, sG2, ?_⟩
      rw [take_snoc hkv, List.all_append, al]
      unfold entB
      simp [en, en2]
    · rintro σ G ⟨v2, v3, rfl, sG, al⟩
      rw [List.take_length] at al
      refine ⟨sG _ _ hbL, ?_⟩
      have sB := back sG
      have hb2 := upd_same (H := G) (a := b) (o := .dK kvs)
      generalize L2.upd G b (.dK kvs) = G0 at sB hb2
      have kG := kG al
      obtain ⟨m, kk, hm, nm, okN, nk, _⟩ := id ok
      obtain ⟨q, hq, sq⟩ := atF _ hm
      obtain ⟨f1, f2, f3, f4⟩ := form_facts _ hm
      have f3' : m ≤ 5 := f3
      have ha0 := sB _ _ ha
      have hs : SqT K G0 a dd.vs := SqT.of ha0
      have dl := deed_len dd
      refine ⟨_, rfl, a, _, _, _, rfl, rfl, hs, deed_head dd, pf, dd.word, .ref q, rfl, rfl, ⟨es, nE, _, DF.at_, DF.lit, hq, rfl⟩, q, _, _, _, rfl, rfl, sq _, at_nat (k := 0) rfl, ?_⟩
      have pos2 : 1 < dd.vs.length := by
        have : 0 < m := (by
          have h1 : ∀ t ∈ FORM, 0 < t.2.1 := by decide +kernel
          exact h1 _ hm)
        omega
      refine ⟨_, rfl, _, rfl, a, _, rfl, hs, ?_, fun p1 n1 => ?_⟩
      · rintro ⟨_, h⟩
        have e : HT.sIx dd.vs.length dd.vs.length (some ((1 : Nat) : Int)) = min 1 dd.vs.length := HT.sIx_nat _ _ _
        have h' : HT.sIx dd.vs.length dd.vs.length (some ((1 : Nat) : Int)) = dd.vs.length := h
        omega
      have c1 : cutV dd.vs none (some 1) = [.str dd.word] := by
        have := cut_to (xs := dd.vs) (k := 1) (by omega)
        have e1 : ((1 : Nat) : Int) = 1 := rfl
        rw [e1] at this
        rw [this]
        rfl
      rw [c1]
      have t1 := same_upd (o := .tup [V.str dd.word]) n1
      have hp1 := upd_same (H := G0) (a := p1) (o := .tup [V.str dd.word])
      generalize L2.upd G0 p1 (.tup [V.str dd.word]) = G1 at t1 hp1
      refine ⟨_, rfl, _, rfl, _, rfl, _, _, rfl, rfl, _, rfl, a, _, rfl, SqT.of (t1 _ _ ha0), deed_notwhole, fun p2 n2 => ?_⟩
      rw [deed_names nm]
      have t2 := same_upd (o := .tup (dd.names.map V.str)) n2
      have hp2 := upd_same (H := G1) (a := p2) (o := .tup (dd.names.map V.str))
      generalize L2.upd G1 p2 (.tup (dd.names.map V.str)) = G2 at t2 hp2
      refine ⟨p2, rfl, ⟨_, SqT.of hp2⟩, fun D nD => ?_⟩
      refine lc_rel (p := fun _ => true) (c := fun x => (valV kvs (.inr (strV x))).getD x) (rel := fun _ y b => y = b) walk_tup nD (by rw [List.length_map, nm]; exact Nat.lt_of_le_of_lt f3' (by decide)) (fun H' s' => SqT.of (s' _ _ hp2)) (fun _ q => q) (fun _ q _ => q) (fun v => rfl) (fun x H' _ _ R kR => kR H' (Same.refl _)) (fun x H' hx' _ sH R kR => ?_) fun G3 ys t3 eD f => ?_
      · obtain ⟨z, hz, rfl⟩ := List.mem_map.mp hx'
        have hbx := sH _ _ (t2 _ _ (t1 _ _ hb2))
        exact ⟨_, rfl, b, rfl, .inl ⟨_, .inl hbx⟩, _, rfl, _, rfl, _, DGet.k (k := Sum.inr z) hbx, kR _ H' (Same.refl _) rfl⟩
      rw [List.filter_eq_self.mpr fun _ _ => rfl] at f
      have ey : ys = dd.names.map fun z => (valV kvs (.inr z)).getD (.str z) := by
        rw [f.map_eq (f := fun x => x), List.map_id', List.map_map]
        rfl
      subst ey
      refine .inl ⟨D, _, rfl, SqL.of eD, fun r nr => ?_⟩
      have t4 := same_upd (o := .tup (dd.names.map fun z => (valV kvs (.inr z)).getD (.str z))) nr
      have hr4 := upd_same (H := G3) (a := r) (o := .tup (dd.names.map fun z => (valV kvs (.inr z)).getD (.str z)))
      generalize L2.upd G3 r (.tup (dd.names.map fun z => (valV kvs (.inr z)).getD (.str z))) = G4 at t4 hr4
      have lw := way_small ok
      have small : ∀ n : Nat, n ≤ 100 → n ≤ sizeLine := fun n h => Nat.le_trans h (by decide)
      refine cat_readV (t4 _ _ (t3 _ _ (t2 _ _ hp1))) hr4 (small _ (by rw [List.length_map, nm]; simp; omega)) fun r2 G5 t5 h5 => ?_
      refine ⟨_, rfl, _, rfl, _, _, rfl, rfl, _, rfl, a, _, rfl, SqT.of (t5 _ _ (t4 _ _ (t3 _ _ (t2 _ _ (t1 _ _ ha0))))), ?_, fun p3 n3 => ?_⟩
      · rintro ⟨h, _⟩
        have e : HT.sIx dd.vs.length 0 (some ((1 + m : Nat) : Int)) = min (1 + m) dd.vs.length := HT.sIx_nat _ _ _
        have h' : HT.sIx dd.vs.length 0 (some ((1 + m : Nat) : Int)) = 0 := by
          have e2 : ((1 + m : Nat) : Int) = 1 + (m : Int) := by omega
          rw [e2]
          exact h
        omega
      have c3 : cutV dd.vs (some (1 + (m : Int))) none = dd.way.map V.int := by
        have e2 : 1 + (m : Int) = ((1 + m : Nat) : Int) := by omega
        rw [e2, cut_drop (by omega)]
        unfold Deed.vs
        rw [show 1 + m = m + 1 by omega, List.drop_succ_cons]
        exact List.drop_left' (by rw [List.length_map, nm])
      rw [c3]
      have t6 := same_upd (o := .tup (dd.way.map V.int)) n3
      refine cat_readV (t6 _ _ h5) upd_same (small _ (by rw [List.length_append, List.length_map, List.length_map, nm]; simp; omega)) fun r3 G7 t7 h7 => ?_
      refine kG r3 G7 ((((((sB.trans t1).trans t2).trans t3).trans t4).trans t5).trans (t6.trans t7)) ?_
      rw [h7]
      unfold onV
      simp
end
end Own
set_option Elab.async false
set_option linter.all false
set_option maxRecDepth 100000
set_option maxHeartbeats 400000
namespace Own
open PySem PySem.Spec PyProof.Rows L2 LamX
/-! ### points, and what is laid (the ways that end in an error) -/
/-- a point (true), or something else -/
def PtIs (CN : Addr) (H : Hp) (v : V) : Bool → Prop
  | true => PointV CN H v
  | false => fok v = true ∨ ∃ t i j, v = .ref t ∧ H t = some (.tup [.int i, .int j])
theorem PtIs.off {CN : Addr} {H : Hp} {v : V} {p : Bool} {b : Addr} {kvs : List (Key × V)} (hb : H b = some (.dK kvs)) (h : PtIs CN H v p) (o : HO) : PtIs CN (L2.upd H b o) v p := by
  have off : ∀ {c : Addr} {u : HO}, H c = some u → (∀ kvs, u ≠ .dK kvs) → (L2.upd H b o) c = some u := fun {c u} e n => by
    rw [upd_ne (ne_of e hb (n _))]
    exact e
  cases p with
  | true =>
    obtain ⟨t, x, y, da, fa, db, fb, rfl, h1, h2, h3⟩ := h
    exact ⟨t, x, y, da, fa, db, fb, rfl, off h1 (fun _ z => by cases z), off h2 (fun _ z => by cases z), off h3 (fun _ z => by cases z)⟩
  | false =>
    rcases h with h | ⟨t, i, j, rfl, h⟩
    · exact .inl h
    · exact .inr ⟨t, i, j, rfl, off h fun _ z => by cases z⟩
theorem PtIs.same {CN : Addr} {H H' : Hp} {v : V} {p : Bool} (h : PtIs CN H v p) (e : Same H H') : PtIs CN H' v p := by
  cases p with
  | true => exact PointV.same h e
  | false =>
    rcases h with h | ⟨t, i, j, rfl, h⟩
    · exact .inl h
    · exact .inr ⟨t, i, j, rfl, e _ _ h⟩
/-- a dict whose values are points or not, as bs says -/
def PtsIn (CN : Addr) (H : Hp) (x : V) (kvs : List (Key × V)) (bs : List Bool) : Prop := ∃ b, x = .ref b ∧ H b = some (.dK kvs) ∧ kvs.length ≤ 1000 ∧ (∀ kv ∈ kvs, vdb (kD kv.1) = true) ∧ F2 (fun (kv : Key × V) p => PtIs CN H kv.2 p) kvs bs
theorem PtsIn.same {CN : Addr} {H H' : Hp} {x : V} {kvs : List (Key × V)} {bs : List Bool} (h : PtsIn CN H x kvs bs) (e : Same H H') : PtsIn CN H' x kvs bs := by
  obtain ⟨b, rfl, h1, h2, h3, h4⟩ := h
  exact ⟨b, rfl, e _ _ h1, h2, h3, h4.mono fun _ _ q => q.same e⟩
def ptsB (kvs : List (Key × V)) (bs : List Bool) : Bool := (kvs.zip bs).all fun q => nameB (kD q.1.1) && q.2
def spIsNum (CN : Addr) : Sp := fun vs H Q _ => ∃ v : V, vs = [v] ∧ ((∃ a d fs, v = .ref a ∧ H a = some (.ins CN d fs) ∧ Q (.bl true) H) ∨ ∃ i, v = .int i ∧ Q (.bl false) H)
def spIsPt (CN : Addr) : Sp := fun vs H Q _ => ∃ (v : V) (p : Bool), vs = [v] ∧ PtIs CN H v p ∧ Q (.bl p) H
def spIsPts (CN : Addr) : Sp := fun vs H Q _ => ∃ x : V, vs = [x] ∧ ((∃ d, Dq [] H x d ∧ isD d = false ∧ Q (.bl false) H) ∨ ∃ kvs bs, PtsIn CN H x kvs bs ∧ ∀ H', Same H H' → Q (.bl (ptsB kvs bs)) H')
def BadPt (CN : Addr) (H : Hp) (x : V) : Prop := (∃ d, Dq [] H x d ∧ isD d = false) ∨ ∃ kvs bs, PtsIn CN H x kvs bs ∧ ptsB kvs bs = false
abbrev tNN : SupX.Txt := ⟨"NoName", "name", "name", "see the value"⟩
def spLaid (NOW : List Str) (CN CD CP CS : Addr) : Sp := fun vs H Q E => ∃ (x y : V) (d : PyData), vs = [x, y] ∧ DeedIn NOW H x d ∧ ((deedB d = false ∧ ∀ H', Same H H' → E (.ref CD) none H') ∨ ∃ dd, d = dd.py ∧ DeedOk dd ∧
  (((∀ H', Same H H' → BadPt CN H' y) ∧ ∀ H', Same H H' → E (.ref CP) none H') ∨ ∃ kvs bs kn z, PtsIn CN H y kvs bs ∧ ptsB kvs bs = true ∧ KeysAre kvs kn ∧ (once dd.names).find? (fun z => !decide (z ∈ kn)) = some z ∧
    ∀ o H', Same H H' → H' o = some (.xd [("name", .str z)]) → E (.ref CS) (some o) H'))
theorem find_step {α : Type} {p : α → Bool} {l : List α} {i : Nat} {x y : α} (no : ∀ y ∈ l.take i, p y = false) (hx : l[i]? = some x) (hp : p x = true) (hf : l.find? p = some y) : x = y := by
  have e : l = l.take i ++ x :: l.drop (i + 1) := by
    obtain ⟨hlt, hg⟩ := List.getElem?_eq_some_iff.mp hx
    rw [← hg, List.getElem_cons_drop, List.take_append_drop]
  rw [e, List.find?_append, List.find?_eq_none.mpr (fun y hy => by rw [no y hy]; exact Bool.false_ne_true), Option.none_or, List.find?_cons_of_pos hp] at hf
  exact Option.some.inj hf
section
variable {NOW : List Str} {P : Program} {w : World} {K : PySem.W.Frag} {mg : Str → Option Value} {base : Heap} {f CD CP CS CT CN fT fN pE fI : Addr} {fd2 dT dN fdN fdP fdD fdM fdS : FuncData}
theorem scIsNum : FnScope ["value"] ["value"] (defScope sIsNum) := ⟨rfl, rfl, rfl, by decide +kernel, rfl, by decide +kernel, by decide +kernel⟩
theorem ok_isnum (F : FnP K "is_number" sIsNum f fd2) (T : Txt K mg) (O : Obj2 K mg CT CN fT fN pE dT dN) : FnOk P w K mg base CX0 1 f fd2 ["value"] (spIsNum CN) := by
  refine F.ok scIsNum (fun vs H Q E h => ?_) (fun cdv A outer s H vs Q E hr h => ?_)
  · obtain ⟨v, rfl, _⟩ := h
    rfl
  · obtain ⟨v, rfl, k⟩ := h
    refine ⟨_, PSs.nox (pss_one (ps_ret (pe_callB (CallR.either (C8.call_isC O.iN) call_isi) (by rfl) T.isi boot_isinstance (pa_cons (pv 0) (pa_cons (pe_glob (v := .ref CN) (by rfl) O.gN rfl) pa_nil))))), ?_⟩
    rcases k with ⟨a, d, fs, rfl, ha, k⟩ | ⟨i, rfl, k⟩
    · exact ⟨_, rfl, .inl ⟨a, d, fs, rfl, ha, k⟩⟩
    · exact ⟨_, rfl, .inr ⟨.int i, .ref CN, .type "int", .ref CN, false, rfl, .own CN, .base (.int i), O.intN, k⟩⟩
theorem scIsPt : FnScope ["value"] ["value"] (defScope sIsPt) := ⟨rfl, rfl, rfl, by decide +kernel, rfl, by decide +kernel, by decide +kernel⟩
theorem ok_ispt (F : FnP K "is_point" sIsPt f fd2) (KM : Fk P w K mg base CX0 1 "is_number" fdM ["value"] (spIsNum CN)) (T : Txt K mg) : FnOk P w K mg base CX0 2 f fd2 ["value"] (spIsPt CN) := by
  refine F.ok scIsPt (fun vs H Q E h => ?_) (fun cdv A outer s H vs Q E hr h => ?_)
  · obtain ⟨v, p, rfl, _⟩ := h
    rfl
  · obtain ⟨v, p, rfl, hp, k⟩ := h
    refine ⟨_, PSs.nox (pss_one (ps_ret (pe_and (pe_callB call_isi (by rfl) T.isi boot_isinstance (pa_cons (pv 0) (pa_cons (pe_bltn (v := .ty "tuple") (by rfl) T.tuple (by decide +kernel) rfl) pa_nil)))
      (pe_and (pe_cmpR op_eq (pe_callB call_len_seq (by rfl) T.len PySem.boot_len (pa_cons (pv 0) pa_nil)) pe_int (nomark _))
      (pe_and (pe_call KM.ok hr (by rfl) KM.g KM.kp KM.b .nil pass0 (pa_cons (pe_ix ix_tup (pv 0) pe_int (fun _ _ => rfl)) pa_nil))
        (pe_one (pe_call KM.ok hr (by rfl) KM.g KM.kp KM.b .nil pass0 (pa_cons (pe_ix ix_tup (pv 0) pe_int (fun _ _ => rfl)) pa_nil)))))))), ?_⟩
    have tupTop : ∀ {t : Addr} {u1 u2 : V} {R : Prop}, H t = some (.tup [u1, u2]) → True := fun _ => trivial
    cases p with
    | true =>
      obtain ⟨t, x, y, da, fa, db, fb, rfl, h1, h2, h3⟩ := hp
      have hs : SqT K H t [.ref x, .ref y] := SqT.of h1
      refine ⟨_, rfl, .ref t, .ty "tuple", .type "tuple", .type "tuple", true, rfl, .ty _, .base (.tup h1), kit_ty (by decide +kernel), true, rfl, ?_⟩
      refine iteT ?_
      refine ⟨_, rfl, t, _, rfl, .inr hs, rfl, true, rfl, ?_⟩
      refine iteT ?_
      refine ⟨_, rfl, t, _, _, _, rfl, rfl, hs, at_nat (k := 0) rfl, _, rfl, .inl ⟨x, da, fa, rfl, h2, true, rfl, ?_⟩⟩
      refine iteT ?_
      exact ⟨_, rfl, t, _, _, _, rfl, rfl, hs, at_nat (k := 1) rfl, _, rfl, .inl ⟨y, db, fb, rfl, h3, k⟩⟩
    | false =>
      rcases hp with hp | ⟨t, i, j, rfl, h1⟩
      · have q : Dq [] H v (fd v) := Dq.flat hp
        have e : isT (fd v) = false := by
          cases v <;> first | rfl | cases hp
        refine ⟨_, rfl, v, .ty "tuple", .type (tyOf (fd v)), .type "tuple", false, rfl, .ty _, q.ty, kit_ty (e ▸ kit_tuple (fd v)), false, rfl, ?_⟩
        exact iteF k
      · have hs : SqT K H t [.int i, .int j] := SqT.of h1
        refine ⟨_, rfl, .ref t, .ty "tuple", .type "tuple", .type "tuple", true, rfl, .ty _, .base (.tup h1), kit_ty (by decide +kernel), true, rfl, ?_⟩
        refine iteT ?_
        refine ⟨_, rfl, t, _, rfl, .inr hs, rfl, true, rfl, ?_⟩
        refine iteT ?_
        refine ⟨_, rfl, t, _, _, _, rfl, rfl, hs, at_nat (k := 0) rfl, _, rfl, .inr ⟨i, rfl, false, rfl, ?_⟩⟩
        exact iteF k
theorem scIsPts : FnScope ["value", "name", "point"] ["value"] (defScope sIsPts) := ⟨rfl, rfl, rfl, by decide +kernel, rfl, by decide +kernel, by decide +kernel⟩
theorem ok_ispts (F : FnP K "is_points" sIsPts f fd2) (KN : Fk P w K mg base CX0 1 "is_name" fdN ["value"] spName) (KP : Fk P w K mg base CX0 2 "is_point" fdP ["value"] (spIsPt CN)) (T : Txt K mg) : FnOk P w K mg base CX0 3 f fd2 ["value"] (spIsPts CN) := by
  refine F.ok scIsPts (fun vs H Q E h => ?_) (fun cdv A outer s H vs Q E hr h => ?_)
  · obtain ⟨x, rfl, _⟩ := h
    rfl
  · obtain ⟨x, rfl, k⟩ := h
    have hr1 := hr.mono (show 1 ≤ 2 by decide)
    refine ⟨_, PSs.nox (pss_cons (ps_if (pt_not (pt_val (pe_callB call_isi (by rfl) T.isi boot_isinstance (pa_cons (pv 0) (pa_cons (pe_bltn (v := .ty "dict") (by rfl) T.dict (by decide +kernel) rfl) pa_nil))))) (pss_one (ps_ret pe_bl)) pss_nil)
      (pss_cons (ps_lock (ps_for PassesOwn.never rfl (pi_items (pv 0)) (pg_tup rfl (pgs_cons (pg_name (i := 1) scIsPts.nd rfl (.inl rfl)) (pgs_cons (pg_name (i := 2) scIsPts.nd rfl (.inl rfl)) pgs_nil)))
        (pss_one (ps_if (PW.pt (pw_or (pt_not (pt_val (pe_call KN.ok hr1 (by rfl) KN.g KN.kp KN.b .nil pass0 (pa_cons (pv 1) pa_nil)))) (pw_or1 (pt_not (pt_val (pe_call KP.ok hr (by rfl) KP.g KP.kp KP.b .nil pass0 (pa_cons (pv 2) pa_nil)))))))
          (pss_one (ps_ret pe_bl)) pss_nil))))
      (pss_one (ps_ret pe_bl)))), ?_⟩
    rcases k with ⟨d', q, e, k⟩ | ⟨kvs, bs, ⟨b, rfl, hb, l1000, kok, f2⟩, k⟩
    · refine ⟨_, rfl, x, .ty "dict", .type (tyOf d'), .type "dict", false, rfl, .ty _, q.ty, kit_ty (e ▸ kit_dict d'), _, rfl, ?_⟩
      exact iteT k
    refine ⟨_, rfl, .ref b, .ty "dict", .type "dict", .type "dict", true, rfl, .ty _, .base (.dK hb), kit_ty (by decide +kernel), _, rfl, ?_⟩
    refine iteF ?_
    refine ⟨b, .dK kvs, hb, trivial, fun od => ?_⟩
    have hbL := upd_same (H := H) (a := b) (o := .frz od (.dK kvs))
    have f2L : F2 (fun (kv : Key × V) p => PtIs CN (L2.upd H b (.frz od (.dK kvs))) kv.2 p) kvs bs := f2.mono fun _ _ q => q.off hb _
    have back : ∀ {G : Hp}, Same (L2.upd H b (.frz od (.dK kvs))) G → Same H (L2.upd G b (.dK kvs)) := fun {G} sG c o e => by
      by_cases hc : c = b
      · subst hc
        rw [upd_same]
        rw [hb] at e
        exact e
      · rw [upd_ne hc]
        refine sG _ _ ?_
        rw [upd_ne hc]
        exact e
    generalize L2.upd H b (.frz od (.dK kvs)) = HL at hbL f2L back
    refine ⟨_, rfl, b, od, kvs, rfl, hbL, ?_⟩
    have len := f2.len
    refine for_it walk_items (fun i σ G => ∃ v2 v3, σ = [some (.ref b), v2, v3] ∧ Same HL G ∧ ptsB (kvs.take i) (bs.take i) = true) ⟨none, none, rfl, Same.refl _, rfl⟩ (fun i σ G _ q => by obtain ⟨_, _, _, sG, _⟩ := q; exact sG _ _ hbL) ?_ ?_
    · rintro i t σ G G' hi ⟨v2, v3, rfl, sG, al⟩ ⟨TT, u, v, rfl, nT, rfl, hu', hv'⟩
      obtain ⟨kv, hkv⟩ : ∃ kv, kvs[i]? = some kv := ⟨_, List.getElem?_eq_getElem hi⟩
      obtain ⟨p, hp, hq⟩ := f2L.at_ hkv
      dsimp only at hu' hv'
      rw [hkv] at hu' hv'
      cases hu'
      cases hv'
      have sT := same_upd (o := .tup [kV kv.1, kv.2]) nT
      refine ⟨TT, _, rfl, SqT.of upd_same, rfl, _, _, rfl, _, _, rfl, rfl, ?_⟩
      have zz : (kvs.zip bs)[i]? = some (kv, p) := by
        rw [List.getElem?_zip_eq_some]
        exact ⟨hkv, hp⟩
      have bad : ∀ {G2 : Hp}, Same HL G2 → (nameB (kD kv.1) && p) = false → G2 b = some (.frz od (.dK kvs)) ∧ Q (.bl false) (L2.upd G2 b (.dK kvs)) := fun {G2} s2 eb => by
        refine ⟨s2 _ _ hbL, ?_⟩
        have q := k _ (back s2)
        have e : ptsB kvs bs = false := by
          unfold ptsB
          rw [← Bool.not_eq_true, List.all_eq_true]
          intro z
          rw [z _ (List.mem_of_getElem? zz)] at eb
          cases eb
        rw [e] at q
        exact q
      refine ⟨_, rfl, kV kv.1, kD kv.1, rfl, Dq.key _, kok _ (List.mem_of_getElem? hkv), fun G1 t1 => ⟨_, rfl, ?_⟩⟩
      have sG1 := (sG.trans sT).trans t1
      cases en : nameB (kD kv.1) with
      | false =>
        refine iteT ?_
        exact bad sG1 (by rw [en]; rfl)
      | true =>
      refine iteF ?_
      refine ⟨_, rfl, kv.2, p, rfl, hq.same sG1, _, rfl, ?_⟩
      cases p with
      | false =>
        refine iteT ?_
        exact bad sG1 (by rw [Bool.and_false])
      | true =>
      refine iteF ?_
      refine ⟨_, _, rfl, sG1, ?_⟩
      unfold ptsB at al ⊢
      rw [take_snoc hkv, take_snoc hp, List.zip_append (by rw [List.length_take, List.length_take, len]), List.all_append, al]
      simp [en]
    · rintro σ G ⟨v2, v3, rfl, sG, al⟩
      refine ⟨sG _ _ hbL, ?_⟩
      rw [List.take_length, len, List.take_length] at al
      have q := k _ (back sG)
      rw [al] at q
      exact q
abbrev nsLaid : List Str := ["deed", "points", "name", "many", "layer", "spots", "last", "found"]
theorem scLaid : FnScope nsLaid ["deed", "points"] (defScope sLaid) := ⟨rfl, rfl, rfl, by decide +kernel, rfl, by decide +kernel, by decide +kernel⟩
theorem ok_laid (F : FnP K "laid" sLaid f fd2) (KD : Fk P w K mg base (L2.CX P w) 3 "need_deed" fdD ["deed"] (spNeedD NOW CD)) (KM : Fk P w K mg base (L2.CX P w) 4 "names_of" fdM ["deed"] (spOfDeed NOW CD rNames)) (KS : Fk P w K mg base CX0 3 "is_points" fdS ["value"] (spIsPts CN))
    (B : ExcT K mg "BadPoints" CP) (S : SupX.Has P K mg tNN CS fI) : FnOk P w K mg base (L2.CX P w) 5 f fd2 ["deed", "points"] (spLaid NOW CN CD CP CS) := by
  refine F.ok scLaid (fun vs H Q E h => ?_) (fun cdv A outer s H vs Q E hr h => ?_)
  · obtain ⟨x, y, d, rfl, _⟩ := h
    rfl
  · obtain ⟨x, y, d, rfl, hx, k⟩ := h
    have hu := hu_of hr
    have hr3 := hr.mono (show 3 ≤ 4 by decide)
    refine ⟨_, pss_cons (ps_expr (pe_call KD.ok hr3 (by rfl) KD.g KD.kp KD.b .nil (passes_call (takes_of rfl rfl rfl rfl) fun _ _ _ _ h => h) (pa_cons (pv 0) pa_nil)))
      (pss_cons (ps_if (pt_not (pt_val (pe_call KS.ok hr3 (by rfl) KS.g KS.kp KS.b .nil pass0 (pa_cons (pv 1) pa_nil)))) (pss_one (ps_raise rfl (takes_of rfl rfl rfl rfl) (pmk_own PySem.F.excBase_ValueError B.x B.g B.k (raises_own B.b B.t) rfl))) pss_nil)
      (pss_cons (ps_for (passes_of rfl) rfl (pi_tup (pe_call KM.ok hr (by rfl) KM.g KM.kp KM.b .nil (passes_call (takes_of rfl rfl rfl rfl) fun _ _ _ _ h => h) (pa_cons (pv 0) pa_nil))) (pg_name (i := 2) scLaid.nd rfl (Or.inl rfl))
        (pss_one (ps_if (pt_cmp (pc_dnotin hu (pv 2) (pv 1))) (pss_one (ps_raise rfl (takes_of rfl rfl rfl rfl) (pmk_sup (t := tNN) (C := CS) S hr (pa_cons (pv 2) pa_nil) (by rfl) (by decide +kernel)))) pss_nil)))
      pss_never)), ?_⟩
    rcases k with ⟨eD, k⟩ | ⟨dd, rfl, ok, k⟩
    · exact ⟨_, rfl, x, d, rfl, hx, .inr ⟨eD, k⟩⟩
    refine ⟨_, rfl, x, _, rfl, hx, .inl ⟨deedB_of ok, fun H1 s1 => ?_⟩⟩
    rcases k with ⟨bad, k⟩ | ⟨kvs, bs, kn, z, pts, eB, ky, fz, k⟩
    · rcases bad H1 s1 with ⟨d', q, e⟩ | ⟨kvs, bs, p, e⟩
      · exact ⟨_, rfl, y, rfl, .inl ⟨d', q, e, _, rfl, iteT (k H1 s1)⟩⟩
      · exact ⟨_, rfl, y, rfl, .inr ⟨kvs, bs, p, fun H2 s2 => ⟨_, rfl, by rw [e]; exact iteT (k H2 (s1.trans s2))⟩⟩⟩
    refine ⟨_, rfl, y, rfl, .inr ⟨kvs, bs, pts.same s1, fun H2 s2 => ⟨_, rfl, ?_⟩⟩⟩
    rw [eB]
    refine iteF ?_
    have s12 := s1.trans s2
    refine ⟨_, rfl, x, _, rfl, hx.same s12, .inl ⟨dd, rfl, ok, fun p H3 s3 _ hp => ⟨p, rfl, ⟨_, SqT.of hp⟩, ?_⟩⟩⟩
    have s13 := s12.trans s3
    obtain ⟨b, rfl, hb, _⟩ := pts
    have hb3 := s13 _ _ hb
    refine for_tup (K := K) (a := p) (xs := (once dd.names).map V.str) (fun i σ G => ∃ v2, σ = [some x, some (.ref b), v2, none, none, none, none, none] ∧ G = H3 ∧ ∀ y ∈ (once dd.names).take i, (!decide (y ∈ kn)) = false) ⟨none, rfl, rfl, fun y hy => by cases hy⟩ (fun i σ G _ ⟨_, _, e, _⟩ => by rw [e]; exact SqT.of hp) ?_ ?_
    · rintro i y σ G hi ⟨v2, rfl, rfl, no⟩
      rw [List.getElem?_map] at hi
      cases ez : (once dd.names)[i]? with
      | none => rw [ez] at hi; cases hi
      | some u =>
        rw [ez] at hi
        cases hi
        refine ⟨_, rfl, _, rfl, b, _, rfl, DGet.k (k := Sum.inr u) hb3, _, rfl, ?_⟩
        rw [ky.look]
        cases eu : !decide (u ∈ kn) with
        | true =>
          refine iteT ?_
          have : u = z := find_step (p := fun z => !decide (z ∈ kn)) no ez eu fz
          subst this
          refine ⟨_, rfl, _, rfl, fun o no => ?_⟩
          exact k o _ (s13.trans (Same.upd no)) upd_same
        | false =>
          refine iteF ?_
          refine ⟨_, rfl, rfl, fun y hy => ?_⟩
          rw [take_snoc ez] at hy
          rcases List.mem_append.mp hy with hy | hy
          · exact no y hy
          · rw [List.mem_singleton.mp hy]
            exact eu
    · rintro σ G ⟨v2, rfl, rfl, no⟩
      rw [List.length_map, List.take_length] at no
      have := (List.find?_eq_none (p := fun z => !decide (z ∈ kn))).mpr (fun y hy => by rw [no y hy]; exact Bool.false_ne_true)
      rw [this] at fz
      cases fz
end
end Own
set_option Elab.async false
set_option linter.all false
set_option maxRecDepth 100000
set_option maxHeartbeats 1000000
set_option exponentiation.threshold 300
namespace Own
open PySem PySem.Spec PyProof.Rows L2 LamX
/-! ### x( *y, *z), x a local name that holds one of some defs -/
theorem evalArgs_two {M : Model} {A : Around} {E : Value → Shared → Prop} {s : Shared} {f : Value} {x y : Sem Value} {b : Bool} {rest : List (Bool × Sem Value)} {Q : Args → Shared → Prop}
    (h : wpAny M A (spliced ((true, x) :: (b, y) :: rest)) (fun vs s' => Q ⟨vs, []⟩ s') E s) : wpAny M A (evalArgs f true ((true, x) :: (b, y) :: rest) []) Q E s := by
  unfold evalArgs
  show wpAny M A (spliced ((true, x) :: (b, y) :: rest) >>= _) Q E s
  refine wpAny_bind (wpAny_mono h (fun vs s' h' => ?_) fun _ _ x => x)
  refine wpAny_holding ?_
  exact wpAny_bind (wpAny_pure (wpAny_bind (wpAny_pure (wpAny_pure h'))))
def tCallVS (K : PySem.W.Frag) (i : Nat) (R : Addr → List V → Hp → VK → Prop) (t : TA) : TE := fun σ H Q => ∃ f, σ[i]? = some (some (.ref f)) ∧ PySem.W.keepIn K (.ref f) = true ∧ t σ H fun vs H1 => R f vs H1 Q
section
variable {X : Cx}
theorem pe_callVS {k i : Nat} {x : Str} {e1 e2 : Expr} {p1 p2 p pos : Pos} {t : TA} {R : Addr → List V → Hp → VK → Prop} (hR : ∀ f vs H Q, R f vs H Q → ∃ sp, FnR X.prog X.w X.K X.mg X.base CX0 k f sp ∧ sp vs H Q fun _ _ _ => False) (hr : Room k X.A) (hN : X.N[i]? = some x) (hv : Vis X.env.scope x) (ha : PA X [.Starred e1 p1, .Starred e2 p2] t)
    (hd : (x == ("__debug__" : Str)) = false := by decide) (hcd : (x == ("__classdict__" : Str)) = false := by decide)
    (he : starEach [.Starred e1 p1, .Starred e2 p2] X.env = [(true, eval e1 X.env), (true, eval e2 X.env)] := by rfl) : PE X (.Call (.Name x p) [.Starred e1 p1, .Starred e2 p2] [] pos) (tCallVS X.K i R t) := by
  refine ⟨fun pins s σ H Q I h => ?_⟩
  obtain ⟨f, hs, hk, h⟩ := h
  refine wpAny_Call_Name_kw (thn ((pe_var (pos := p) (i := i) hN hv hd hcd).run pins s σ H (fun v H1 => v = .ref f ∧ H1 = H) I ⟨.ref f, hs, rfl, rfl⟩) fun u s1 ⟨v, H1, I1, r1, ev, eH⟩ => ?_)
  subst ev
  rw [eH] at I1
  cases r1
  have q := ha.run pos pins s1 σ H _ I1 h
  rw [he] at q ⊢
  refine PySem.W.ks_call rfl (PySem.W.keeps_K hk) (evalArgs_two (thn q fun us s2 ⟨vs, H2, I2, r, q⟩ => ⟨I2.kIn, ?_⟩))
  obtain ⟨sp, F, q⟩ := hR _ _ _ _ q
  exact wpAny_call (run_fnR F hr pass0 I2 r q)
end
/-! ### the sheet's points -/
def SHP : List Pt := (0, 0) :: (1, 0) :: (2, 0) :: (0, 1) :: (0, 2) :: []
def spSheetQ (CT CN : Addr) : Sp := fun vs H Q _ => vs = [] ∧ ∀ d ws H', Same H H' → H d = none → H' d = some (.dK ((SHEET.map Sum.inr).zip ws)) → F2 (fun v pt => ∃ p, v = V.ref p ∧ PtQ CT CN H' p pt) ws SHP → Q (.ref d) H'
theorem PtQ.point {CT CN : Addr} {H : Hp} {p : Addr} {x : Pt} (h : PtQ CT CN H p x) : PointV CN H (.ref p) := by
  obtain ⟨a, b, h1, ⟨da, fa, _, _, ea, _⟩, ⟨db, fb, _, _, eb, _⟩⟩ := h
  exact ⟨p, a, b, da, fa, db, fb, rfl, h1, ea, eb⟩
theorem NumQ.offG {CT CN : Addr} {H : Hp} {a : Addr} {q : Rat} {b : Addr} {u : HO} (hb : H b = some u) (n1 : ∀ l, u ≠ .tup l) (n2 : ∀ C d fs, u ≠ .ins C d fs) (h : NumQ CT CN H a q) (o : HO) : NumQ CT CN (L2.upd H b o) a q := by
  have off : ∀ {c : Addr} {u' : HO}, H c = some u' → u' ≠ u → (L2.upd H b o) c = some u' := fun {c u'} e n => by
    rw [upd_ne (ne_of e hb n)]
    exact e
  obtain ⟨dx, fs, t, v, h1, h2, h3, ⟨dt, ft, r, c1, c2, c3⟩, ⟨ws, d1, d2⟩⟩ := h
  exact ⟨dx, fs, t, v, off h1 (n2 _ _ _).symm, h2, h3, ⟨dt, ft, r, off c1 (n2 _ _ _).symm, c2, off c3 (n1 _).symm⟩, ⟨ws, off d1 (n1 _).symm, off d2 (n1 _).symm⟩⟩
theorem PtQ.offG {CT CN : Addr} {H : Hp} {p : Addr} {x : Pt} {b : Addr} {u : HO} (hb : H b = some u) (n1 : ∀ l, u ≠ .tup l) (n2 : ∀ C d fs, u ≠ .ins C d fs) (h : PtQ CT CN H p x) (o : HO) : PtQ CT CN (L2.upd H b o) p x := by
  obtain ⟨c, v, h1, h2, h3⟩ := h
  refine ⟨c, v, ?_, h2.offG hb n1 n2 o, h3.offG hb n1 n2 o⟩
  rw [upd_ne (ne_of h1 hb (n1 _).symm)]
  exact h1
theorem NumQ.off {CT CN : Addr} {H : Hp} {a : Addr} {q : Rat} {b : Addr} {kvs : List (Key × V)} (hb : H b = some (.dK kvs)) (h : NumQ CT CN H a q) (o : HO) : NumQ CT CN (L2.upd H b o) a q := by
  have off : ∀ {c : Addr} {u : HO}, H c = some u → (∀ kvs, u ≠ .dK kvs) → (L2.upd H b o) c = some u := fun {c u} e n => by
    rw [upd_ne (ne_of e hb (n _))]
    exact e
  obtain ⟨dx, fs, t, v, h1, h2, h3, ⟨dt, ft, r, c1, c2, c3⟩, ⟨ws, d1, d2⟩⟩ := h
  exact ⟨dx, fs, t, v, off h1 (fun _ z => by cases z), h2, h3, ⟨dt, ft, r, off c1 (fun _ z => by cases z), c2, off c3 fun _ z => by cases z⟩, ⟨ws, off d1 (fun _ z => by cases z), off d2 fun _ z => by cases z⟩⟩
theorem PtQ.off {CT CN : Addr} {H : Hp} {p : Addr} {x : Pt} {b : Addr} {kvs : List (Key × V)} (hb : H b = some (.dK kvs)) (h : PtQ CT CN H p x) (o : HO) : PtQ CT CN (L2.upd H b o) p x := by
  obtain ⟨u, v, h1, h2, h3⟩ := h
  refine ⟨u, v, ?_, h2.off hb o, h3.off hb o⟩
  rw [upd_ne (ne_of h1 hb (by intro z; cases z))]
  exact h1
/-- a dict of points -/
structure PDict (CT CN : Addr) (H : Hp) (b : Addr) (kvs : List (Key × V)) (env : List (Str × Pt)) : Prop where
  at_ : H b = some (.dK kvs)
  len : kvs.length ≤ 1000
  rel : F2 (fun (kv : Key × V) (e : Str × Pt) => kv.1 = Sum.inr e.1 ∧ NameOk e.1 ∧ ∃ p, kv.2 = .ref p ∧ PtQ CT CN H p e.2) kvs env
theorem PDict.same {CT CN : Addr} {H H' : Hp} {b : Addr} {kvs : List (Key × V)} {env : List (Str × Pt)} (h : PDict CT CN H b kvs env) (e : Same H H') : PDict CT CN H' b kvs env :=
  ⟨e _ _ h.at_, h.len, h.rel.mono fun _ _ ⟨q1, q2, p, q3, q4⟩ => ⟨q1, q2, p, q3, q4.same e⟩⟩
theorem vdb_name {z : Str} (h : NameOk z) : vdb (.str z) = true := by
  have f := fok_name h
  have l8 := h.1
  have q : gdb (.str z) = true := by
    show (_ && (decide ((0 : Nat) ≤ 50) && decide (z.length ≤ 1000))) = true
    rw [decide_eq_true (by omega : z.length ≤ 1000), Bool.and_true, Bool.and_eq_true]
    exact ⟨f, rfl⟩
  unfold vdb
  rw [q, Bool.or_true]
theorem pdict_look {CT CN : Addr} {H : Hp} : ∀ {kvs : List (Key × V)} {env : List (Str × Pt)}, F2 (fun (kv : Key × V) (e : Str × Pt) => kv.1 = Sum.inr e.1 ∧ NameOk e.1 ∧ ∃ p, kv.2 = .ref p ∧ PtQ CT CN H p e.2) kvs env → ∀ z : Str,
    (∃ p x, valV kvs (Sum.inr z) = some (.ref p) ∧ env.lookup z = some x ∧ PtQ CT CN H p x) ∨ (valV kvs (Sum.inr z) = none ∧ env.lookup z = none)
  | _, _, .nil, z => .inr ⟨rfl, rfl⟩
  | (_, _) :: kvs, (y, x) :: env, .cons ⟨h1, _, p, h2, h3⟩ r, z => by
    dsimp only at h1 h2
    subst h1 h2
    by_cases e : y = z
    · subst e
      refine .inl ⟨p, x, ?_, ?_, h3⟩
      · show ((List.find? _ _).map _) = _
        rw [List.find?_cons_of_pos (by simp)]
        rfl
      · simp [List.lookup]
    · have e1 : valV ((Sum.inr y, V.ref p) :: kvs) (Sum.inr z) = valV kvs (Sum.inr z) := by
        show ((List.find? _ _).map _) = _
        rw [List.find?_cons_of_neg (by simpa using e)]
        rfl
      have e2 : List.lookup z ((y, x) :: env) = List.lookup z env := by
        have : (z == y) = false := by simpa using fun q => e q.symm
        simp [List.lookup, this]
      rw [e1, e2]
      exact pdict_look r z
theorem PDict.keys {CT CN : Addr} {H : Hp} {b : Addr} {kvs : List (Key × V)} {env : List (Str × Pt)} (h : PDict CT CN H b kvs env) : PtsIn CN H (.ref b) kvs (env.map fun _ => true) ∧ ptsB kvs (env.map fun _ => true) = true := by
  have key : ∀ kv ∈ kvs, ∃ z, kv.1 = Sum.inr z ∧ NameOk z := fun kv hk => by
    obtain ⟨e, _, q1, q2, _⟩ := h.rel.left hk
    exact ⟨_, q1, q2⟩
  refine ⟨⟨b, rfl, h.at_, h.len, fun kv hk => ?_, ?_⟩, ?_⟩
  · obtain ⟨z, e, n⟩ := key kv hk
    rw [e]
    exact vdb_name n
  · have go : ∀ {kvs : List (Key × V)} {env : List (Str × Pt)}, F2 (fun (kv : Key × V) (e : Str × Pt) => kv.1 = Sum.inr e.1 ∧ NameOk e.1 ∧ ∃ p, kv.2 = .ref p ∧ PtQ CT CN H p e.2) kvs env → F2 (fun (kv : Key × V) p => PtIs CN H kv.2 p) kvs (env.map fun _ => true) := fun {kvs env} f => by
      induction f with
      | nil => exact .nil
      | cons q _ ih =>
        obtain ⟨_, _, p, e, q⟩ := q
        refine .cons ?_ ih
        show PointV CN H _
        rw [e]
        exact q.point
    exact go h.rel
  · unfold ptsB
    rw [List.all_eq_true]
    rintro ⟨kv, t⟩ hm
    obtain ⟨hk, ht⟩ := List.of_mem_zip hm
    obtain ⟨z, e, n⟩ := key kv hk
    obtain ⟨_, _, rfl⟩ := List.mem_map.mp ht
    show (nameB (kD kv.1) && true) = true
    rw [e, Bool.and_true]
    exact decide_eq_true n
/-- what a deed of meets and uprights lays down -/
def layP : List Pt → Option Pt
  | [a, b, c, d] => meetQ a b c d
  | [p, a, b, c, d] => upQ p a b c d
  | _ => none
def OkP : List Pt → Prop
  | [a, b, c, d] => a ≠ b → c ≠ d → WayOk a b ∧ MetOk a (wayQ a b) c d
  | [p, a, b, c, d] => a ≠ b → c ≠ d → WayOk a b ∧ Ok2 0 (wayQ a b).2 ∧ MetOk p (quartQ (wayQ a b)) c d
  | _ => True
def ptsOf (env : List (Str × Pt)) (ns : List Str) : List Pt := ns.map fun z => (env.lookup z).getD (0, 0)
def DenOk (x : Pt) : Prop := x.1.den.log2 < 9000 ∧ x.2.den.log2 < 9000
def Plain (dd : Deed) : Prop := dd.word = "meet" ∨ dd.word = "upright"
theorem plain_len {dd : Deed} (ok : DeedOk dd) (h : Plain dd) : (dd.word = "meet" ∧ dd.names.length = 4 ∨ dd.word = "upright" ∧ dd.names.length = 5) ∧ dd.way = [] := by
  obtain ⟨m, k, hm, hl, _, hw, _⟩ := ok
  have g : ∀ t ∈ FORM, (t.1 = "meet" → t.2.1 = 4 ∧ t.2.2 = 0) ∧ (t.1 = "upright" → t.2.1 = 5 ∧ t.2.2 = 0) := by decide +kernel
  obtain ⟨g1, g2⟩ := g _ hm
  rcases h with h | h
  · obtain ⟨e1, e2⟩ := g1 h
    exact ⟨.inl ⟨h, hl.trans e1⟩, List.eq_nil_of_length_eq_zero (hw.trans e2)⟩
  · obtain ⟨e1, e2⟩ := g2 h
    exact ⟨.inr ⟨h, hl.trans e1⟩, List.eq_nil_of_length_eq_zero (hw.trans e2)⟩
def spLaidQ (NOW : List Str) (CT CN CL : Addr) : Sp := fun vs H Q E => ∃ (a b : Addr) (dd : Deed) (kvs : List (Key × V)) (env : List (Str × Pt)), vs = [.ref a, .ref b] ∧ DeedIn NOW H (.ref a) dd.py ∧ DeedOk dd ∧ Plain dd ∧ PDict CT CN H b kvs env ∧ (∀ z ∈ dd.names, (env.lookup z).isSome = true) ∧ OkP (ptsOf env dd.names) ∧
  (layP (ptsOf env dd.names) = none → ∀ H', Same H H' → E (.ref CL) none H') ∧ ∀ x, layP (ptsOf env dd.names) = some x → DenOk x ∧ ∀ r H', Same H H' → PtQ CT CN H' r x → Q (.ref r) H'
section
variable {NOW : List Str} {P : Program} {w : World} {K : PySem.W.Frag} {mg : Str → Option Value} {base : Heap} {f fF CT CN fT fN pE CD CL : Addr} {fd2 fdF dT dN fdD fdM fdS fdA fdB fdR : FuncData}
theorem ok_sheetQ (F : FnP K "sheet" sSheet f fd2) (FF : FunD K "fraction" "fraction" (defArgs sFrac) (defBody sFrac) (defScope sFrac) [.int 1] [] fF fdF) (GF : FnOk P w K mg base CX0 4 fF fdF ["n", "d"] (spFracQ CT CN)) (gF : mg "fraction" = some (.ref fF)) : FnOk P w K mg base CX0 5 f fd2 [] (spSheetQ CT CN) := by
  obtain ⟨ds, vD, bF⟩ := FF.binds1 (ps := ["n", "d"]) 1 0 (by simp) rfl fun T kV doc pm an cdv ct us its l1 l2 => match us, its, l1, l2 with | [_], [_], _, _ => ⟨_, rfl, rfl⟩
  refine F.ok scSheet (fun vs H Q E h => ?_) (fun cdv A outer s H vs Q E hr h => ?_)
  · obtain ⟨rfl, _⟩ := h
    rfl
  · obtain ⟨rfl, k⟩ := h
    refine ⟨_, PSs.nox (pss_cons (ps_par3 (i := 0) (j := 1) (l := 2) rfl scSheet.nd rfl rfl rfl (by decide) (by decide) (by decide) rfl rfl rfl (pa_cons (pe_call GF hr (by rfl) gF FF.kp bF vD pass0 (pa_cons pe_int pa_nil)) (pa_cons (pe_call GF hr (by rfl) gF FF.kp bF vD pass0 (pa_cons pe_int pa_nil)) (pa_cons (pe_call GF hr (by rfl) gF FF.kp bF vD pass0 (pa_cons pe_int pa_nil)) pa_nil))) rfl)
      (pss_one (ps_ret (pe_disp (pps_cons pe_str (pe_tup (pa_cons (pv 0) (pa_cons (pv 0) pa_nil))) (pps_cons pe_str (pe_tup (pa_cons (pv 1) (pa_cons (pv 0) pa_nil))) (pps_cons pe_str (pe_tup (pa_cons (pv 2) (pa_cons (pv 0) pa_nil)))
        (pps_cons pe_str (pe_tup (pa_cons (pv 0) (pa_cons (pv 1) pa_nil))) (pps_cons pe_str (pe_tup (pa_cons (pv 0) (pa_cons (pv 2) pa_nil))) pps_nil))))) (by rfl) (by rfl) (fun z => by cases z) (by decide))))), ?_⟩
    refine ⟨0, rfl, fun v0 H1 s1 i0 => ⟨1, rfl, fun v1 H2 s2 i1 => ⟨2, rfl, fun v2 H3 s3 i2 => ⟨_, _, _, rfl, ?_⟩⟩⟩⟩
    intro d nd
    have two : (2 : Nat) ≤ sizeLine := by decide
    refine ⟨_, rfl, _, rfl, two, fun t1 n1 => ⟨_, rfl, _, rfl, two, fun t2 n2 => ⟨_, rfl, _, rfl, two, fun t3 n3 => ⟨_, rfl, _, rfl, two, fun t4 n4 => ⟨_, rfl, _, rfl, two, fun t5 n5 => ?_⟩⟩⟩⟩⟩
    have e0 := same_upd (o := .dK []) nd
    have e1 := same_upd (o := .tup [.ref v0, .ref v0]) n1
    have e2 := same_upd (o := .tup [.ref v1, .ref v0]) n2
    have e3 := same_upd (o := .tup [.ref v2, .ref v0]) n3
    have e4 := same_upd (o := .tup [.ref v0, .ref v1]) n4
    have e5 := same_upd (o := .tup [.ref v0, .ref v2]) n5
    have all := (((e1.trans e2).trans e3).trans e4).trans e5
    refine ⟨all _ _ upd_same, (SHEET.map Sum.inr).zip [.ref t1, .ref t2, .ref t3, .ref t4, .ref t5], rfl, by show 5 ≤ 15; decide, ?_⟩
    have al0 : Same H3 (L2.upd (L2.upd (L2.upd (L2.upd (L2.upd (L2.upd H3 d (.dK [])) t1 (.tup [.ref v0, .ref v0])) t2 (.tup [.ref v1, .ref v0])) t3 (.tup [.ref v2, .ref v0])) t4 (.tup [.ref v0, .ref v1])) t5 (.tup [.ref v0, .ref v2])) := e0.trans all
    have j0 := ((i0.same s2).same s3).same al0
    have j1 := (i1.same s3).same al0
    have j2 := i2.same al0
    have g1 := (((e2.trans e3).trans e4).trans e5) _ _ (upd_same (a := t1) (o := .tup [V.ref v0, .ref v0]))
    have g2 := ((e3.trans e4).trans e5) _ _ (upd_same (a := t2) (o := .tup [V.ref v1, .ref v0]))
    have g3 := (e4.trans e5) _ _ (upd_same (a := t3) (o := .tup [V.ref v2, .ref v0]))
    have g4 := e5 _ _ (upd_same (a := t4) (o := .tup [V.ref v0, .ref v1]))
    have g5 := upd_same (H := L2.upd (L2.upd (L2.upd (L2.upd (L2.upd H3 d (.dK [])) t1 (.tup [.ref v0, .ref v0])) t2 (.tup [.ref v1, .ref v0])) t3 (.tup [.ref v2, .ref v0])) t4 (.tup [.ref v0, .ref v1])) (a := t5) (o := .tup [V.ref v0, .ref v2])
    have gd := all _ _ (upd_same (H := H3) (a := d) (o := .dK []))
    have freeH := ((s1.trans s2).trans s3).free nd
    generalize L2.upd (L2.upd (L2.upd (L2.upd (L2.upd (L2.upd H3 d (.dK [])) t1 (.tup [.ref v0, .ref v0])) t2 (.tup [.ref v1, .ref v0])) t3 (.tup [.ref v2, .ref v0])) t4 (.tup [.ref v0, .ref v1])) t5 (.tup [.ref v0, .ref v2]) = G at al0 j0 j1 j2 g1 g2 g3 g4 g5 gd
    have pt : ∀ {t u v : Addr} {x y : Rat}, G t = some (.tup [.ref u, .ref v]) → NumQ CT CN G u x → NumQ CT CN G v y → ∃ p, V.ref t = V.ref p ∧ PtQ CT CN (L2.upd G d (.dK (mergeK [] ((SHEET.map Sum.inr).zip [V.ref t1, .ref t2, .ref t3, .ref t4, .ref t5])))) p (x, y) := fun {t u v x y} h1 h2 h3 => ⟨t, rfl, PtQ.off gd ⟨u, v, h1, h2, h3⟩ _⟩
    refine k d [.ref t1, .ref t2, .ref t3, .ref t4, .ref t5] _ (((s1.trans s2).trans s3).trans fun b o e => ?_) freeH ?_ ?_
    · rw [upd_ne (ne_of_none e nd)]
      exact al0 _ _ e
    · rw [upd_same]
      kernel_rfl
    · exact .cons (pt g1 j0 j0) (.cons (pt g2 j1 j0) (.cons (pt g3 j2 j0) (.cons (pt g4 j0 j1) (.cons (pt g5 j0 j2) .nil))))
/-- the layers of meets and uprights -/
structure Lyr (K : PySem.W.Frag) (w : World) (mg : Str → Option Value) : Prop where
  lay : ∃ p es n, mg "LAYERS" = some (.ref p) ∧ KDict K w p es n ∧ PySem.W.nsIn K p "meet" = some (some (.ref (He.ga K "lay_meet"))) ∧ PySem.W.nsIn K p "upright" = some (some (.ref (He.ga K "lay_upright")))
theorem ok_laidQ (F : FnP K "laid" sLaid f fd2) (KD : Fk P w K mg base (L2.CX P w) 3 "need_deed" fdD ["deed"] (spNeedD NOW CD)) (KM : Fk P w K mg base (L2.CX P w) 4 "names_of" fdM ["deed"] (spOfDeed NOW CD rNames)) (KS : Fk P w K mg base CX0 3 "is_points" fdS ["value"] (spIsPts CN)) (T : Txt K mg) (W : Dct NOW K w mg) (L : Lyr K w mg)
    (KA : Fk P w K mg base CX0 7 "lay_meet" fdA ["a", "b", "c", "d"] (spMeet CT CN)) (KB : Fk P w K mg base CX0 7 "lay_upright" fdB ["p", "a", "b", "c", "d"] (spUp CT CN)) (KR : Fk P w K mg base CX0 4 "trimmed" fdR ["number"] (spTrim CT CN))
    (B : ExcT K mg "CannotLay" CL) : FnOk P w K mg base (L2.CX P w) 8 f fd2 ["deed", "points"] (spLaidQ NOW CT CN CL) := by
  obtain ⟨pf, es, nE, hpf, DF, atF, _⟩ := W.forms
  obtain ⟨pl, esl, nL, hpl, DL, atM, atU⟩ := L.lay
  refine F.ok scLaid (fun vs H Q E h => ?_) (fun cdv A outer s H vs Q E hr h => ?_)
  · obtain ⟨a, b, dd, kvs, env, rfl, _⟩ := h
    rfl
  · obtain ⟨a, b, dd, kvs, env, rfl, hx, ok, pl0, hp, hin, okp, kN, kS⟩ := h
    have hu := hu_of hr
    have hr3 := hr.mono (show 3 ≤ 7 by decide)
    have hr4 := hr.mono (show 4 ≤ 7 by decide)
    let R : Addr → List V → Hp → VK → Prop := fun g vs H Q => (g = He.ga K "lay_meet" ∧ spMeet CT CN vs H Q fun _ _ _ => False) ∨ (g = He.ga K "lay_upright" ∧ spUp CT CN vs H Q fun _ _ _ => False)
    have hR : ∀ g vs H Q, R g vs H Q → ∃ sp, FnR P w K mg base CX0 7 g sp ∧ sp vs H Q fun _ _ _ => False := fun g vs H Q h => by
      rcases h with ⟨rfl, h⟩ | ⟨rfl, h⟩
      · exact ⟨_, KA.ok.raw (dvs := []) KA.b .nil, by rw [List.append_nil]; exact h⟩
      · exact ⟨_, KB.ok.raw (dvs := []) KB.b .nil, by rw [List.append_nil]; exact h⟩
    refine ⟨_, pss_cons (ps_expr (pe_call KD.ok hr3 (by rfl) KD.g KD.kp KD.b .nil (passes_call (takes_of rfl rfl rfl rfl) fun _ _ _ _ h => h) (pa_cons (pv 0) pa_nil)))
      (pss_cons (ps_if (pt_not (pt_val (pe_call KS.ok hr3 (by rfl) KS.g KS.kp KS.b .nil pass0 (pa_cons (pv 1) pa_nil)))) pss_never pss_nil)
      (pss_cons (ps_for (passes_of rfl) rfl (pi_tup (pe_call KM.ok hr4 (by rfl) KM.g KM.kp KM.b .nil (passes_call (takes_of rfl rfl rfl rfl) fun _ _ _ _ h => h) (pa_cons (pv 0) pa_nil))) (pg_name (i := 2) scLaid.nd rfl (Or.inl rfl))
        (pss_one (ps_if (pt_cmp (pc_dnotin hu (pv 2) (pv 1))) pss_never pss_nil)))
      (pss_cons (ps_set (i := 3) scLaid.nd rfl (.inl rfl) (pe_ix ix_tup (pe_ix ix_kdict (pe_glob (v := .ref pf) (by rfl) hpf rfl) (pe_ix ix_tup (pv 0) pe_int (fun _ _ => rfl)) (fun _ _ => rfl)) pe_int (fun _ _ => rfl)))
      (pss_cons (ps_set (i := 4) scLaid.nd rfl (.inl rfl) (pe_ix ix_kdict (pe_glob (v := .ref pl) (by rfl) hpl rfl) (pe_ix ix_tup (pv 0) pe_int (fun _ _ => rfl)) (fun _ _ => rfl)))
      (pss_cons (ps_setLc (i := 5) (own := [("name", 2)]) (g := gName 2) (tt := tYes) (by rfl) scLaid.nd rfl rfl (sw_true rfl rfl rfl (by decide +kernel)) (pi_tup (pe_slice sl_tup (pv 0) (po_some pe_int) (po_some (pe_op op_add pe_int (pv 3))))) (blkOk_by (own := [("name", 2)]) (N := nsLaid) (sc := defScope sLaid) (by decide +kernel))
          (fun _ _ _ _ _ => pg_name (i := 2) scLaid.nd rfl (Or.inl rfl)) (fun _ _ _ _ _ => pts_nil) (fun _ _ _ _ _ => pe_dget hu (pv 1) (pv 2) (fun _ _ => rfl)))
      (pss_cons (ps_set (i := 6) scLaid.nd rfl (.inl rfl) (pe_slice sl_tup (pv 0) (po_some (pe_op op_add pe_int (pv 3))) po_none))
      (pss_cons (ps_set (i := 7) scLaid.nd rfl (.inl rfl) (pe_callVS (k := 7) (i := 4) (R := R) hR hr (by rfl) (.inl rfl) (StX.pa_star (pv 5) (StX.pa_star (pv 6) pa_nil))))
      (pss_cons (ps_if (pt_cmpR op_isN (pv 7) pe_non (nomark _)) (pss_one (ps_raise rfl (takes_of rfl rfl rfl rfl) (pmk_own PySem.F.excBase_ValueError B.x B.g B.k (raises_own B.b B.t) rfl))) pss_nil)
      (pss_one (ps_ret (pe_tup (pa_cons (pe_call KR.ok hr4 (by rfl) KR.g KR.kp KR.b .nil pass0 (pa_cons (pe_ix ix_tup (pv 7) pe_int (fun _ _ => rfl)) pa_nil)) (pa_cons (pe_call KR.ok hr4 (by rfl) KR.g KR.kp KR.b .nil pass0 (pa_cons (pe_ix ix_tup (pv 7) pe_int (fun _ _ => rfl)) pa_nil)) pa_nil))))))))))))), ?_⟩
    refine ⟨_, rfl, .ref a, _, rfl, hx, .inl ⟨deedB_of ok, fun H1 s1 => ?_⟩⟩
    obtain ⟨pin, pb⟩ := (hp.same s1).keys
    refine ⟨_, rfl, .ref b, rfl, .inr ⟨kvs, _, pin, fun H2 s2 => ⟨_, rfl, ?_⟩⟩⟩
    rw [pb]
    refine iteF ?_
    have s12 := s1.trans s2
    refine ⟨_, rfl, .ref a, _, rfl, hx.same s12, .inl ⟨dd, rfl, ok, fun q H3 s3 _ hq => ⟨q, rfl, ⟨_, SqT.of hq⟩, ?_⟩⟩⟩
    have s13 := s12.trans s3
    have hp3 := hp.same s13
    have look : ∀ z ∈ dd.names, ∃ p x, valV kvs (Sum.inr z) = some (.ref p) ∧ env.lookup z = some x := fun z hz => by
      rcases pdict_look hp.rel z with ⟨p, x, h1, h2, _⟩ | ⟨_, h2⟩
      · exact ⟨p, x, h1, h2⟩
      · have := hin z hz
        rw [h2] at this
        cases this
    refine for_tup (K := K) (a := q) (xs := (once dd.names).map V.str) (fun i σ G => ∃ v2, σ = [some (.ref a), some (.ref b), v2, none, none, none, none, none] ∧ G = H3) ⟨none, rfl, rfl⟩ (fun i σ G _ ⟨_, _, e⟩ => by rw [e]; exact SqT.of hq) ?_ ?_
    · rintro i y σ G hi ⟨v2, rfl, rfl⟩
      obtain ⟨z, hz, rfl⟩ := List.mem_map.mp (List.mem_of_getElem? hi)
      have hz' : z ∈ dd.names := (once_mem _ _).mp hz
      obtain ⟨p, x, h1, _⟩ := look z hz'
      refine ⟨_, rfl, _, rfl, b, _, rfl, DGet.k (k := Sum.inr z) hp3.at_, _, rfl, ?_⟩
      rw [h1]
      refine iteF ?_
      exact ⟨_, rfl, rfl⟩
    rintro σ G ⟨v2, rfl, rfl⟩
    obtain ⟨m, kk, hm, nm, okN, nk, _⟩ := id ok
    obtain ⟨qf, hqf, sqf⟩ := atF _ hm
    obtain ⟨wl, we⟩ := plain_len ok pl0
    obtain ⟨aa, ea, _, ha⟩ := hx.1.deed
    cases ea
    have ha3 : SqT K G a dd.vs := SqT.of (s13 _ _ ha)
    have hcall : ∃ f0, PySem.W.nsIn K pl dd.word = some (some (.ref f0)) ∧ PySem.W.keepIn K (.ref f0) = true ∧ ∀ (ys : List V) (H' : Hp) (Q' : VK), F2 (fun y pt => ∃ p, y = V.ref p ∧ PtQ CT CN H' p pt) ys (ptsOf env dd.names) → Ans CT CN H' Q' (layP (ptsOf env dd.names)) → R f0 (ys ++ ([] ++ [])) H' Q' := by
      have l1 : (ptsOf env dd.names).length = dd.names.length := List.length_map _
      generalize ptsOf env dd.names = pts at l1 okp
      rcases wl with ⟨ew, el⟩ | ⟨ew, el⟩
      · refine ⟨_, by rw [ew]; exact atM, KA.kp, fun ys H' Q' f2 an => .inl ⟨rfl, ?_⟩⟩
        rw [el] at l1
        match pts, l1, ys, f2, okp, an with
        | [a, b, c, d], _, _, .cons ⟨p1, e1, q1⟩ (.cons ⟨p2, e2, q2⟩ (.cons ⟨p3, e3, q3⟩ (.cons ⟨p4, e4, q4⟩ .nil))), okp, an =>
          subst e1 e2 e3 e4
          exact ⟨p1, p2, p3, p4, a, b, c, d, rfl, q1, q2, q3, q4, okp, an⟩
      · refine ⟨_, by rw [ew]; exact atU, KB.kp, fun ys H' Q' f2 an => .inr ⟨rfl, ?_⟩⟩
        rw [el] at l1
        match pts, l1, ys, f2, okp, an with
        | [o, a, b, c, d], _, _, .cons ⟨p0, e0, q0⟩ (.cons ⟨p1, e1, q1⟩ (.cons ⟨p2, e2, q2⟩ (.cons ⟨p3, e3, q3⟩ (.cons ⟨p4, e4, q4⟩ .nil)))), okp, an =>
          subst e0 e1 e2 e3 e4
          exact ⟨p0, p1, p2, p3, p4, o, a, b, c, d, rfl, q0, q1, q2, q3, q4, okp, an⟩
    obtain ⟨f0, atL, kp0, hcall⟩ := hcall
    refine ⟨_, rfl, a, _, _, _, rfl, rfl, ha3, deed_head dd, pf, dd.word, .ref qf, rfl, rfl, ⟨es, nE, _, DF.at_, DF.lit, hqf, rfl⟩, qf, _, _, _, rfl, rfl, sqf G, at_nat (k := 0) rfl, ?_⟩
    refine ⟨_, rfl, a, _, _, _, rfl, rfl, ha3, deed_head dd, pl, dd.word, .ref f0, rfl, rfl, ⟨esl, nL, _, DL.at_, DL.lit, atL, rfl⟩, ?_⟩
    refine ⟨_, rfl, _, rfl, _, rfl, _, _, rfl, rfl, _, rfl, a, _, rfl, ha3, deed_notwhole, fun p np => ?_⟩
    rw [deed_names nm]
    have s4 := same_upd (o := .tup (dd.names.map V.str)) np
    have hp4 := upd_same (H := G) (a := p) (o := .tup (dd.names.map V.str))
    generalize L2.upd G p (.tup (dd.names.map V.str)) = G4 at s4 hp4
    have nl5 : dd.names.length ≤ 5 := by rcases wl with ⟨_, e⟩ | ⟨_, e⟩ <;> omega
    refine ⟨p, rfl, ⟨_, SqT.of hp4⟩, fun D nD => ?_⟩
    refine lc_rel (xs := dd.names.map V.str) (p := fun _ => true) (c := fun v => (env.lookup (strV v)).getD (0, 0)) (rel := fun H y pt => ∃ p, y = V.ref p ∧ PtQ CT CN H p pt) walk_tup nD (by rw [List.length_map]; exact Nat.lt_of_le_of_lt nl5 (by decide)) (fun H' s' => SqT.of (s' _ _ hp4)) (fun s' ⟨p, e, q⟩ => ⟨p, e, q.same s'⟩) (fun hb ⟨p, e, q⟩ l' => ⟨p, e, q.offG hb (fun _ z => by cases z) (fun _ _ _ z => by cases z) _⟩) (fun v => rfl) (fun x H' _ _ R kR => kR H' (Same.refl _)) (fun x H' hx _ sH R kR => ?_) fun G5 ys sG5 hD f2 => ?_
    · obtain ⟨z, hz, rfl⟩ := List.mem_map.mp hx
      have hpz := hp3.same (s4.trans sH)
      rcases pdict_look hpz.rel z with ⟨p', x', h1, h2, h3⟩ | ⟨_, h2⟩
      · refine ⟨_, rfl, _, rfl, b, .ref p', rfl, ?_, ?_⟩
        · have := DGet.k (k := Sum.inr z) hpz.at_
          rw [h1] at this
          exact this
        · refine kR _ H' (Same.refl _) ⟨p', rfl, ?_⟩
          show PtQ CT CN H' p' ((env.lookup z).getD (0, 0))
          rw [h2]
          exact h3
      · have := hin z hz
        rw [h2] at this
        cases this
    have epts : ((dd.names.map V.str).filter fun _ => true).map (fun v => (env.lookup (strV v)).getD (0, 0)) = ptsOf env dd.names := by
      rw [List.filter_eq_self.mpr fun _ _ => rfl, List.map_map]
      rfl
    rw [epts] at f2
    have s45 := s4.trans sG5
    refine ⟨_, rfl, _, rfl, _, _, rfl, rfl, _, rfl, a, _, rfl, seqT s45 ha3, ?_, fun u nu => ?_⟩
    · rintro ⟨e, _⟩
      have e2 : HT.sIx dd.vs.length 0 (some ((1 + m : Nat) : Int)) = min (1 + m) dd.vs.length := HT.sIx_nat _ _ _
      have e3 : HT.sIx dd.vs.length 0 (some ((1 : Int) + (m : Int))) = 0 := e
      have e4 : ((1 : Int) + (m : Int)) = ((1 + m : Nat) : Int) := by omega
      rw [e4, e2, deed_len] at e3
      omega
    have ecut : cutV dd.vs (some ((1 : Int) + (m : Int))) none = [] := by
      have e4 : ((1 : Int) + (m : Int)) = ((1 + m : Nat) : Int) := by omega
      rw [e4, cut_drop (by rw [deed_len]; omega)]
      refine List.drop_eq_nil_of_le ?_
      rw [deed_len, we]
      simp
      omega
    rw [ecut]
    have s6 := same_upd (o := .tup []) nu
    have hu6 := upd_same (H := G5) (a := u) (o := .tup [])
    generalize L2.upd G5 u (.tup []) = G6 at s6 hu6
    have s46 := s45.trans s6
    refine ⟨f0, rfl, kp0, _, rfl, D, _, rfl, .inr (SqL.of (s6 _ _ hD)), _, rfl, u, _, rfl, .inl (SqT.of hu6), ?_⟩
    refine hcall _ _ _ (f2.mono fun _ _ ⟨p, e, q⟩ => ⟨p, e, q.same s6⟩) ⟨fun hn H7 s7 => ?_, fun x hx r H7 s7 hr7 => ?_⟩
    · refine ⟨_, rfl, rfl, _, rfl, ?_⟩
      refine iteT ?_
      exact kN hn H7 ((s13.trans s46).trans s7)
    · obtain ⟨⟨d1, d2⟩, kS⟩ := kS x hx
      refine ⟨_, rfl, rfl, _, rfl, ?_⟩
      refine iteF ?_
      obtain ⟨a1, a2, h1, h2, h3⟩ := hr7
      refine ⟨_, rfl, r, _, _, _, rfl, rfl, SqT.of h1, at_nat (k := 0) rfl, a1, x.1, rfl, h2, d1, fun q1 H8 s8 h8 => ?_⟩
      refine ⟨_, rfl, r, _, _, _, rfl, rfl, SqT.of (s8 _ _ h1), at_nat (k := 1) rfl, a2, x.2, rfl, h3.same s8, d2, fun q2 H9 s9 h9 => ?_⟩
      refine ⟨(by show 2 ≤ sizeLine; decide), fun t nt => ?_⟩
      have s10 := same_upd (o := .tup [.ref q1, .ref q2]) nt
      exact kS t _ (((((s13.trans s46).trans s7).trans s8).trans s9).trans s10) ⟨q1, q2, upd_same, (h8.same s9).same s10, h9.same s10⟩
end
end Own
set_option Elab.async false
set_option linter.all false
set_option maxRecDepth 100000
set_option maxHeartbeats 400000
namespace Own
open PySem PySem.Spec PyProof.Rows L2
/-! ### dict comprehensions: stored in a local; over any walk -/
section
variable {X : Cx}
theorem ps_setDc {n : Nat} {dn : Str} {pn : Pos} {kx vx tg src : Expr} {cs : List Expr} {sc : Scope} {own : List (Str × Nat)} {p1 p2 : Pos} {wi : TI} {gg : TG} {tc : TT} {tk tv : TE} (calm : X.calm = true) (nd : X.N.Nodup) (at_ : X.N[n]? = some dn) (loc : X.env.scope.names.lookup dn = some .local)
    (sw : swapsWith (.DictComp kx vx [⟨tg, src, cs, 0⟩] sc p1) (some (.Name dn pn)) p2.line X.env = pure true) (it : PI X tg src wi) (bk : BlkOk X.N X.env.scope sc own)
    (h1 : ∀ (s : Shared) (H : Hp) (C : Addr) (cl : List (PySem.Str × Addr)) (fp : List Addr), PG (X.blk s H sc (compEnvC sc cl C X.env) fp) tg gg) (h2 : ∀ (s : Shared) (H : Hp) (C : Addr) (cl : List (PySem.Str × Addr)) (fp : List Addr), PTs (X.blk s H sc (compEnvC sc cl C X.env) fp) cs tc)
    (h3 : ∀ (s : Shared) (H : Hp) (C : Addr) (cl : List (PySem.Str × Addr)) (fp : List Addr), PE (X.blk s H sc (compEnvC sc cl C X.env) fp) kx tk)
    (h4 : ∀ (s : Shared) (H : Hp) (C : Addr) (cl : List (PySem.Str × Addr)) (fp : List Addr), PE (X.blk s H sc (compEnvC sc cl C X.env) fp) vx tv) (h5 : ∀ x, foldedSetIterable src X.env x = pure x := by intro _; rfl) :
    PS X (.Assign [.Name dn pn] (.DictComp kx vx [⟨tg, src, cs, 0⟩] sc p1) p2) (tAsg (tDc wi gg tc tk tv (own.map (·.2))) (gName n)) := by
  refine ⟨fun pins s σ H D I hyp => ?_⟩
  rw [exec_Assign_Name_used _ _ _ _ sw]
  refine wpAny_bind (wpAny_standAt (wpAny_bind ?_))
  show wpAny _ X.A (do let _ ← comprehension (.DictComp kx vx [⟨tg, src, cs, 0⟩] sc p1) sc X.env (firstIterPos [⟨tg, src, cs, 0⟩] p1) newDict false (eval src X.env) (some (assign (.Name dn pn) X.env))) _ _ s
  have hyp : tDc wi gg tc tk tv (own.map (·.2)) σ H (fun x H1 => gName n x σ H1 D.nx) := hyp
  refine wpAny_bind (thn (dc_core (Qf := fun _ s' => SP X pins D .next s') calm nd I it bk h1 h2 h3 h4 h5 hyp fun L C s' m H' I' q hn f => ?_) fun _ s' hq => wpAny_pure (wpAny_pure hq))
  show wpAny _ _ (assign (.Name dn pn) X.env (.ref L)) _ _ _
  refine wpAny_assign_Name (store_ok2 (v := V.ref L) I' nd at_ (.inl loc) rfl (fun s2 I2 ⟨a, sb, ha⟩ => ?_) (.inr loc))
  obtain ⟨f0, f1, f2, f3, f4, f5⟩ := f
  have neC : C ≠ a := by
    rcases ha with z | z
    · rw [z]; exact f1
    · exact fun e => f4 dn a z e.symm
  refine ⟨m, hn.sameBut sb neC, fun h3 sb3 => ?_⟩
  exact ⟨_, H', I2.turned (t' := s2.toks) (fun b o hb e => (sb3.2 b hb).trans e) f0 f1 f3 f4 f5, q⟩
theorem sw_trueD {kx vx : Expr} {gs : List Comprehension} {sc : Scope} {p1 pn : Pos} {dn : Str} {l : Nat} {env : Env} (hk : env.scope.kind = .function) (hy : env.scope.names.lookup dn = some .local) (hl : (pn.line == p1.line) = true)
    (ha : (sc.names.any fun (n, k) => n == dn && (k == .local || k == .cell)) = false) : swapsWith (.DictComp kx vx gs sc p1) (some (.Name dn pn)) l env = pure true := by
  have k1 : env.kindOf dn = some .local := hy
  have k2 : env.blockKind = .function := by unfold Env.blockKind; rw [hk]; rfl
  unfold swapsWith
  simp only [k2, k1, ha, Expr.pos, hl]
  rfl
end
section
variable {J : It} {n : Nat} {G : Hp → Prop} {Y : Nat → Hp → V → Hp → Prop}
theorem dc_it (w : Walk J n G Y) {g : TG} {tt : TT} {tk tv : TE} {vs : List Nat} {σ : L2.St} {H1 : Hp} {D : Addr} {Qd : Hp → Prop} (R : Nat → Hp → Prop) (first : R 0 (upd H1 D (.dK []))) (still : ∀ i H, i ≤ n → R i H → G H)
    (turn : ∀ i x H H', i < n → R i H → Y i H x H' → g x (wipe σ vs) H' fun σ2 H2 => wipe σ2 vs = wipe σ vs ∧ tt σ2 H2 fun b H3 =>
      if b = true then tk σ2 H3 fun y H4 => tv σ2 H4 fun z H5 => ∃ kvs k, y = kV k ∧ H5 D = some (.dK kvs) ∧ kvs.length < sizeLine ∧ R (i + 1) (upd H5 D (.dK (putK kvs k z))) else R (i + 1) H3) (last : ∀ H, R n H → Qd H) :
    ∃ W : Nat → Nat → Hp → Prop, (∃ m, W 0 m (upd H1 D (.dK []))) ∧ ∀ i m H, W i m H →
      (J.stop i H ∧ Qd H) ∨ (J.go i H ∧ ∃ Nx : Hp → Prop, (∀ H', Nx H' → ∃ m', m' < m ∧ W (i + 1) m' H') ∧ ∀ x H', J.yld i H x H' → g x (wipe σ vs) H' fun σ2 H2 => wipe σ2 vs = wipe σ vs ∧ tt σ2 H2 fun b H3 =>
        if b = true then tk σ2 H3 fun y H4 => tv σ2 H4 fun z H5 => ∃ kvs k, y = kV k ∧ H5 D = some (.dK kvs) ∧ kvs.length < sizeLine ∧ Nx (upd H5 D (.dK (putK kvs k z))) else Nx H3) := by
  refine ⟨fun i m H => m = n - i ∧ i ≤ n ∧ R i H, ⟨n, by simp, Nat.zero_le _, first⟩, ?_⟩
  rintro i m H ⟨rfl, le, r⟩
  have gd := still i H le r
  rcases Nat.lt_or_ge i n with lt | ge
  · exact .inr ⟨w.goes i H lt gd, R (i + 1), fun H' r' => ⟨n - (i + 1), by omega, rfl, lt, r'⟩, fun x H' y => turn i x H H' lt r (w.yields i H x H' lt gd y)⟩
  · obtain rfl : i = n := by omega
    exact .inl ⟨w.stops H gd, last H r⟩
end
end Own
set_option Elab.async false
set_option linter.all false
set_option maxRecDepth 100000
set_option maxHeartbeats 1000000
set_option exponentiation.threshold 300
namespace Own
open PySem PySem.Spec PyProof.Rows L2 LamX
/-! ### the point of a deed, or None -/
def spSpotQ (NOW : List Str) (CT CN : Addr) : Sp := fun vs H Q _ => ∃ (a b : Addr) (dd : Deed) (kvs : List (Key × V)) (env : List (Str × Pt)), vs = [.ref a, .ref b] ∧ DeedIn NOW H (.ref a) dd.py ∧ DeedOk dd ∧ Plain dd ∧ PDict CT CN H b kvs env ∧ (∀ z ∈ dd.names, (env.lookup z).isSome = true) ∧ OkP (ptsOf env dd.names) ∧
  (∀ x, layP (ptsOf env dd.names) = some x → DenOk x) ∧ Ans CT CN H Q (layP (ptsOf env dd.names))
def askE (env : List (Str × Pt)) (ns : List Str) : List (Str × Pt) := ns.map fun z => (z, (env.lookup z).getD (0, 0))
theorem askE_look (env : List (Str × Pt)) : ∀ (ns : List Str) (z : Str), z ∈ ns → (askE env ns).lookup z = some ((env.lookup z).getD (0, 0))
  | [], z, h => by cases h
  | y :: ns, z, h => by
    show List.lookup z ((y, (env.lookup y).getD (0, 0)) :: askE env ns) = _
    by_cases e : z = y
    · subst e
      simp [List.lookup]
    · have : (z == y) = false := by simpa using e
      simp only [List.lookup, this]
      exact askE_look env ns z ((List.mem_cons.mp h).resolve_left e)
theorem askE_pts {env : List (Str × Pt)} {ns ks : List Str} (h : ∀ z ∈ ks, z ∈ ns) : ptsOf (askE env ns) ks = ptsOf env ks := by
  unfold ptsOf
  refine List.map_congr_left fun z hz => ?_
  rw [askE_look env ns z (h z hz)]
  rfl
theorem once_nd : ∀ (ns l : List Str), l.Nodup → (ns.foldl (fun l x => if x ∈ l then l else l ++ [x]) l).Nodup
  | [], l, h => h
  | y :: ns, l, h => by
    rw [List.foldl_cons]
    refine once_nd ns _ ?_
    by_cases e : y ∈ l
    · rw [if_pos e]
      exact h
    · rw [if_neg e, List.nodup_append]
      refine ⟨h, by simp, fun a ha b hb => ?_⟩
      rw [List.mem_singleton.mp hb]
      exact fun q => e (q ▸ ha)
theorem once_nodup (ns : List Str) : (once ns).Nodup := once_nd ns [] List.nodup_nil
theorem deed_nameok {dd : Deed} (ok : DeedOk dd) {z : Str} (h : z ∈ dd.names) : NameOk z := by
  obtain ⟨_, _, _, _, q, _⟩ := ok
  exact q z h
theorem put_new {kvs : List (Key × V)} {k : Key} {v : V} (h : valV kvs k = none) : putK kvs k v = kvs ++ [(k, v)] := by
  unfold putK
  rw [if_neg]
  intro a
  rw [valV_any] at a
  rw [h] at a
  cases a
section
variable {NOW : List Str} {P : Program} {w : World} {K : PySem.W.Frag} {mg : Str → Option Value} {base : Heap} {f CT CN fT fN pE CD CL : Addr} {fd2 dT dN fdL fdM : FuncData}
abbrev nsSpot : List Str := ["deed", "points", "asked", "name", "found"]
theorem scSpot : FnScope nsSpot ["deed", "points"] (defScope sSpot) := ⟨rfl, rfl, rfl, by decide +kernel, rfl, by decide +kernel, by decide +kernel⟩
theorem ok_spot (F : FnP K "spot_or_none" sSpot f fd2) (KM : Fk P w K mg base (L2.CX P w) 4 "names_of" fdM ["deed"] (spOfDeed NOW CD rNames)) (KL : Fk P w K mg base (L2.CX P w) 8 "laid" fdL ["deed", "points"] (spLaidQ NOW CT CN CL)) (B : ExcT K mg "CannotLay" CL) (xL : PySem.W.exmOne K (.ref CL) (.ref CL) = some true) :
    FnOk P w K mg base CX0 9 f fd2 ["deed", "points"] (spSpotQ NOW CT CN) := by
  refine F.ok scSpot (fun vs H Q E h => ?_) (fun cdv A outer s H vs Q E hr h => ?_)
  · obtain ⟨a, b, dd, kvs, env, rfl, _⟩ := h
    rfl
  · obtain ⟨a, b, dd, kvs, env, rfl, hx, ok, pl0, hp, hin, okp, den, k⟩ := h
    have hu := hu_of hr
    have hr4 := hr.mono (show 4 ≤ 8 by decide)
    refine ⟨_, pss_cons (ps_setDc (n := 2) (own := [("name", 3)]) (gg := gName 3) (tc := tYes) (by rfl) scSpot.nd rfl rfl (sw_trueD rfl rfl rfl (by decide +kernel)) (pi_tup (pe_call KM.ok hr4 (by rfl) KM.g KM.kp KM.b .nil passL (pa_cons (pv 0) pa_nil))) (blkOk_by (own := [("name", 3)]) (N := nsSpot) (sc := defScope sSpot) (by decide +kernel))
          (fun _ _ _ _ _ => pg_name (i := 3) scSpot.nd rfl (.inl rfl)) (fun _ _ _ _ _ => pts_nil) (fun _ _ _ _ _ => pv 3) (fun _ _ _ _ _ => pe_dget hu (pv 1) (pv 3) (fun _ _ => rfl)))
      (pss_cons (ps_try_only (tb := fun W => tAsg (tCallS (spLaidQ NOW CT CN CL) (WE W) (tCons (tVar 0) (tCons (tVar 2) tNil))) (gName 4)) (ts := fun _ _ _ => tAsg (tC .non) (gName 4)) (Wout := fun _ _ _ _ => False) rfl rfl ⟨rfl, by decide, Or.inl B.g⟩ LamX.takes0
          (fun W pn xe tk _ => pss_one (ps_set (i := 4) scSpot.nd rfl (.inl rfl) (pe_callS KL.ok hr (by rfl) KL.g KL.kp KL.b (fun σ => passAt tk σ) (by exact (pa_cons (pv 0) (pa_cons (pv 2) pa_nil))))))
          (fun _ _ _ _ _ _ _ => pss_one (ps_set (i := 4) scSpot.nd rfl (.inl rfl) pe_non)))
      (pss_one (ps_ret (pv 4)))), ?_⟩
    refine ⟨_, rfl, .ref a, _, rfl, hx, .inl ⟨dd, rfl, ok, fun q H1 s1 _ hq => ?_⟩⟩
    have hp1 := hp.same s1
    have nl : (once dd.names).length ≤ 1000 := by
      have h1 : (once dd.names).length ≤ 0 + dd.names.length := once_len dd.names []
      rcases plain_len ok pl0 with ⟨⟨_, e⟩ | ⟨_, e⟩, _⟩ <;> omega
    refine ⟨q, rfl, ⟨_, SqT.of hq⟩, fun D nD => ?_⟩
    have nd := once_nodup dd.names
    refine dc_it (walk_tup (xs := (once dd.names).map V.str)) (fun i G => Same H1 G ∧ ∃ kv, G D = some (.dK kv) ∧ kv.length = i ∧ F2 (fun (kv : Key × V) (e : Str × Pt) => kv.1 = Sum.inr e.1 ∧ NameOk e.1 ∧ ∃ p, kv.2 = .ref p ∧ PtQ CT CN H1 p e.2) kv (askE env ((once dd.names).take i))) ⟨same_upd nD, [], upd_same, rfl, .nil⟩ (fun i G _ q => SqT.of (q.1 _ _ hq)) ?_ ?_
    · rintro i y G G' hi ⟨sG, kv, eD, lk, f2⟩ ⟨rfl, hy⟩
      rw [List.getElem?_map] at hy
      cases ez : (once dd.names)[i]? with
      | none => rw [ez] at hy; cases hy
      | some z =>
        rw [ez] at hy
        cases hy
        have mz : z ∈ dd.names := (once_mem _ _).mp (List.mem_of_getElem? ez)
        refine ⟨rfl, yes_if ?_⟩
        have hpG := hp1.same sG
        rcases pdict_look hpG.rel z with ⟨p, x, h1, h2, _⟩ | ⟨_, h2⟩
        rotate_left
        · have := hin z mz
          rw [h2] at this
          cases this
        obtain ⟨p1, x1, h11, h21, h31⟩ : ∃ p x, valV kvs (Sum.inr z) = some (.ref p) ∧ env.lookup z = some x ∧ PtQ CT CN H1 p x := by
          rcases pdict_look hp1.rel z with h | ⟨_, h2'⟩
          · exact h
          · rw [h2] at h2'
            cases h2'
        refine ⟨_, rfl, _, rfl, _, rfl, b, .ref p1, rfl, ?_, ?_⟩
        · have := DGet.k (k := Sum.inr z) hpG.at_
          rw [h11] at this
          exact this
        have li : i < (once dd.names).length := (List.getElem?_eq_some_iff.mp ez).1
        refine ⟨kv, Sum.inr z, rfl, eD, Nat.lt_of_lt_of_le (show kv.length < 1000 by omega) (by decide), ?_, ?_⟩
        · exact fun c o hc => by
            have nb : c ≠ D := fun q => by rw [q, nD] at hc; cases hc
            rw [upd_ne nb]
            exact sG _ _ hc
        · have fresh : valV kv (Sum.inr z) = none := by
            rcases pdict_look f2 z with ⟨_, _, _, h, _⟩ | ⟨h, _⟩
            · exfalso
              have hm : z ∈ (once dd.names).take i := by
                have gen : ∀ ns : List Str, (askE env ns).lookup z ≠ none → z ∈ ns := fun ns hn => by
                  induction ns with
                  | nil => exact absurd rfl hn
                  | cons y ns ih =>
                    by_cases e : z = y
                    · subst e
                      exact List.mem_cons_self
                    · refine List.mem_cons_of_mem _ (ih fun q => hn ?_)
                      show List.lookup z ((y, (env.lookup y).getD (0, 0)) :: askE env ns) = none
                      have : (z == y) = false := by simpa using e
                      simp only [List.lookup, this]
                      exact q
                exact gen _ (by rw [h]; exact fun z => by cases z)
              obtain ⟨hlt, hg⟩ := List.getElem?_eq_some_iff.mp ez
              have hd : z ∈ (once dd.names).drop i := by
                rw [← hg]
                exact List.mem_of_getElem? (i := 0) (by rw [List.getElem?_drop]; simp [hlt])
              have nd2 := nd
              rw [← List.take_append_drop i (once dd.names)] at nd2
              exact (List.nodup_append.mp nd2).2.2 z hm z hd rfl
            · exact h
          rw [put_new fresh]
          refine ⟨_, upd_same, by rw [List.length_append, lk]; rfl, ?_⟩
          rw [take_snoc ez]
          unfold askE
          rw [List.map_append]
          refine f2.snoc ⟨rfl, deed_nameok ok mz, p1, rfl, ?_⟩
          show PtQ CT CN H1 p1 ((env.lookup z).getD (0, 0))
          rw [h21]
          exact h31
    · rintro G ⟨sG, kv, eD, lk, f2⟩
      rw [List.length_map, List.take_length] at f2
      have hpd : PDict CT CN G D kv (askE env (once dd.names)) := ⟨eD, by rw [lk, List.length_map]; exact nl, f2.mono fun _ _ ⟨q1, q2, p, q3, q4⟩ => ⟨q1, q2, p, q3, q4.same sG⟩⟩
      have sub : ∀ z ∈ dd.names, z ∈ once dd.names := fun z hz => (once_mem _ _).mpr hz
      have ep := askE_pts (env := env) sub
      have s1G := s1.trans sG
      refine ⟨_, rfl, _, rfl, a, D, dd, kv, _, rfl, hx.same s1G, ok, pl0, hpd, fun z hz => by rw [askE_look env _ z (sub z hz)]; rfl, by rw [ep]; exact okp, fun hn H2 s2 => ?_, fun x hx2 => ⟨den x (by rw [← ep]; exact hx2), fun r H2 s2 hr2 => ?_⟩⟩
      · rw [ep] at hn
        refine ⟨true, xL, fun _ c hc => ?_, fun z => by cases z⟩
        exact ⟨_, rfl, k.1 hn H2 (s1G.trans s2)⟩
      · rw [ep] at hx2
        exact ⟨_, rfl, k.2 x hx2 r H2 (s1G.trans s2) hr2⟩
end
end Own
set_option Elab.async false
set_option linter.all false
set_option maxRecDepth 100000
set_option maxHeartbeats 400000
namespace Own
open PySem PySem.Spec PyProof.Rows L2 LamX
/-! ### the law's forms; shuffled lists -/
def FK : List (Key × V) := FORM.map fun t => (Sum.inr t.1, V.int t.2.1)
def spForms : Sp := fun vs H Q _ => vs = [] ∧ ∀ p H', Same H H' → H p = none → H' p = some (.dK FK) → Q (.ref p) H'
def WAYS : List Str := "disc" :: "rims" :: "corner" :: "compass" :: "circles" :: []
def spHasWay : Sp := fun vs H Q _ => ∃ z : Str, vs = [.str z] ∧ ∀ H', Same H H' → Q (.bl (decide (z ∈ WAYS))) H'
theorem StA.off {H : Hp} {a lw lc : Addr} {t : Nat} (S : StA H a lw lc t) {b : Addr} {o : HO} (e : H b = some o) (n1 : ∀ kvs, o ≠ .dK kvs) (n2 : ∀ xs, o ≠ .lst xs) : b ∉ [a, lw] := by
  obtain ⟨⟨ws, cs, r, u, g1, g2, _⟩, _⟩ := S
  have q1 : b ≠ a := ne_of e g1 (n1 _)
  have q2 : b ≠ lw := ne_of e g2 (n2 _)
  simp [q1, q2]
theorem StA.new {H : Hp} {a lw lc : Addr} {t : Nat} (S : StA H a lw lc t) {b : Addr} (e : H b = none) : b ∉ [a, lw] ∧ b ≠ lc := by
  obtain ⟨⟨ws, cs, r, u, g1, g2, g3, _⟩, _⟩ := S
  have q1 : b ≠ a := (ne_of_none g1 e).symm
  have q2 : b ≠ lw := (ne_of_none g2 e).symm
  have q3 : b ≠ lc := (ne_of_none g3 e).symm
  exact ⟨by simp [q1, q2], q3⟩
theorem StA.back {H G : Hp} {a lw lc : Addr} {t : Nat} (S : StA G a lw lc t) (k : Kp [a, lw] H G) {q : Addr} (n : G q = none) : H q = none := by
  cases e : H q with
  | none => rfl
  | some o =>
    have := k q o e (S.new n).1
    rw [n] at this
    cases this
theorem StA.put {H : Hp} {a lw lc : Addr} {t : Nat} (S : StA H a lw lc t) {b : Addr} (n : b ∉ [a, lw]) (n2 : b ≠ lc) (o : HO) : StA (L2.upd H b o) a lw lc t := by
  obtain ⟨⟨ws, cs, r, u, g1, g2, g3, g⟩, ne⟩ := S
  have q1 : a ≠ b := fun z => n (by simp [z])
  have q2 : lw ≠ b := fun z => n (by simp [z])
  exact ⟨⟨ws, cs, r, u, by rw [upd_ne q1]; exact g1, by rw [upd_ne q2]; exact g2, by rw [upd_ne n2.symm]; exact g3, g⟩, ne⟩
def ctnL (H : Hp) (L : Addr) : List V := match H L with
  | some (.lst xs) => xs
  | _ => []
theorem ctnL_of {H : Hp} {L : Addr} {xs : List V} (h : H L = some (.lst xs)) : ctnL H L = xs := by
  unfold ctnL
  rw [h]
theorem StA.tupK {H H' : Hp} {a lw lc : Addr} {t : Nat} (S : StA H a lw lc t) (k : Kp [a, lw] H H') {b : Addr} {ys : List V} (e : H b = some (.tup ys)) : H' b = some (.tup ys) := k b _ e (S.off e (fun _ z => by cases z) fun _ z => by cases z)
theorem seq_nat {j n : Nat} (h : j < n) : seqIndex? (j : Int) n = some j := by
  unfold seqIndex?
  have h0 : ¬ (j : Int) < 0 := by omega
  simp only [if_neg h0]
  have h1 : (decide (0 ≤ (j : Int)) && decide ((j : Int) < (n : Int))) = true := by
    rw [decide_eq_true (by omega), decide_eq_true (by omega)]
    rfl
  rw [if_pos h1]
  rfl
theorem erase_map {α β : Type} (f : α → β) : ∀ (l : List α) (j : Nat), (l.map f).eraseIdx j = (l.eraseIdx j).map f
  | [], _ => rfl
  | _ :: _, 0 => rfl
  | x :: l, j + 1 => congrArg (f x :: ·) (erase_map f l j)
theorem erase_front {α : Type} : ∀ {l : List α} {j : Nat} (hj : j < l.length), (l[j] :: l.eraseIdx j).Perm l
  | _ :: _, 0, _ => List.Perm.refl _
  | x :: l, j + 1, hj => by
    have ih := erase_front (l := l) (j := j) (by simpa using hj)
    exact (List.Perm.swap _ _ _).trans (ih.cons x)
theorem erase_mv {l ys ns : List Str} {j : Nat} (hj : j < l.length) (h : (l ++ ys).Perm ns) : (l.eraseIdx j ++ (ys ++ [l[j]])).Perm ns := by
  refine List.Perm.trans ?_ h
  have e : (l[j] :: l.eraseIdx j).Perm l := erase_front hj
  refine List.Perm.trans ?_ (e.append_right ys)
  rw [← List.append_assoc]
  exact List.perm_append_singleton _ _
def spShuf : Sp := fun vs H Q _ => ∃ (a lw lc : Addr) (t : Nat) (l : Addr) (ns : List Str), vs = [.ref a, .ref l] ∧ StA H a lw lc t ∧ t < 2 ^ 39 ∧ H l = some (.lst (ns.map V.str)) ∧ (ns.map V.str).all fok = true ∧ ns.length ≤ 100 ∧
  ∀ (p : Addr) (ms : List Str) (H' : Hp), ms.Perm ns → ms.length = ns.length → (∀ z ∈ ms, z ∈ ns) → StA H' a lw lc (t + ns.length) → Kp [a, lw] H H' → H p = none → H' p = some (.lst (ms.map V.str)) → Q (.ref p) H'
section
variable {P : Program} {w : World} {K : PySem.W.Frag} {mg : Str → Option Value} {base : Heap} {f fP fD fS fT fSh fF fHW : Addr} {fd2 fdP fdD fdS fdT fdSh fdF fdHW : FuncData}
theorem scForms : FnScope [] [] (defScope sForms) := ⟨rfl, rfl, rfl, by decide +kernel, rfl, by decide +kernel, by decide +kernel⟩
theorem ok_forms (F : FnP K "_law_forms" sForms f fd2) : FnOk P w K mg base CX0 1 f fd2 [] spForms := by
  refine F.ok scForms (fun vs H Q E h => ?_) (fun cdv A outer s H vs Q E hr h => ?_)
  · obtain ⟨rfl, _⟩ := h
    rfl
  · obtain ⟨rfl, k⟩ := h
    refine ⟨_, PSs.nox (pss_one (ps_ret (pe_disp (pps_cons pe_str pe_int (pps_cons pe_str pe_int (pps_cons pe_str pe_int (pps_cons pe_str pe_int (pps_cons pe_str pe_int (pps_cons pe_str pe_int (pps_cons pe_str pe_int (pps_cons pe_str pe_int (pps_cons pe_str pe_int (pps_cons pe_str pe_int (pps_cons pe_str pe_int pps_nil))))))))))) (by rfl) (by rfl) (fun z => by cases z) (by decide)))), ?_⟩
    intro d nd
    refine ⟨upd_same, FK, rfl, by decide, ?_⟩
    refine k d _ (fun b o e => ?_) nd ?_
    · rw [upd_ne (ne_of_none e nd), upd_ne (ne_of_none e nd)]
      exact e
    · rw [upd_same]
      kernel_rfl
theorem scHasWay : FnScope ["_law_word"] ["_law_word"] (defScope sHasWay) := ⟨rfl, rfl, rfl, by decide +kernel, rfl, by decide +kernel, by decide +kernel⟩
theorem ok_hasway (F : FnP K "_law_has_way" sHasWay f fd2) : FnOk P w K mg base CX0 1 f fd2 ["_law_word"] spHasWay := by
  refine F.ok scHasWay (fun vs H Q E h => ?_) (fun cdv A outer s H vs Q E hr h => ?_)
  · obtain ⟨z, rfl, _⟩ := h
    rfl
  · obtain ⟨z, rfl, k⟩ := h
    refine ⟨_, PSs.nox (pss_one (ps_ret (pe_cmpR op_in_seq (pv 0) (pe_lst (pa_cons pe_str (pa_cons pe_str (pa_cons pe_str (pa_cons pe_str (pa_cons pe_str pa_nil)))))) (by rfl)))), ?_⟩
    refine ⟨_, rfl, (by show 5 ≤ sizeLine; decide), fun l nl => ?_⟩
    refine ⟨l, WAYS.map V.str, rfl, .inl (SqL.of upd_same), rfl, flat_strs _, ?_⟩
    show Q (.bl (inV (.str z) (WAYS.map V.str))) _
    rw [inV_str]
    exact k _ (same_upd nl)
theorem scShuf : FnScope ["_law_state", "_law_some", "_law_left", "_law_found"] ["_law_state", "_law_some"] (defScope sShuf) := ⟨rfl, rfl, rfl, by decide +kernel, rfl, by decide +kernel, by decide +kernel⟩
theorem ok_shuf (F : FnP K "_law_shuffled" sShuf f fd2) (FD : FnP K "_law_draw" sDraw fD fdD) (FS : FnP K "_law_stirred" sStir fS fdS) (gD : mg "_law_draw" = some (.ref fD)) (gS : mg "_law_stirred" = some (.ref fS)) (T : Txt K mg) :
    FnOk P w K mg base CX0 3 f fd2 ["_law_state", "_law_some"] spShuf := by
  have GD : FnOk P w K mg base CX0 2 fD fdD ["_law_state", "_law_room"] spDraw := ok_draw FD FS gS T
  have bD : Binds K fdD ["_law_state", "_law_room"] [] := FD.bindsN fun _ _ _ _ _ _ us hl => match us, hl with | [_, _], _ => rfl
  refine F.ok scShuf (fun vs H Q E h => ?_) (fun cdv A outer s H vs Q E hr h => ?_)
  · obtain ⟨a, lw, lc, t, l, ns, rfl, _⟩ := h
    rfl
  · obtain ⟨a, lw, lc, t, l, ns, rfl, S, ht, hl, hf, h100, k⟩ := h
    refine ⟨_, PSs.nox (pss_cons (ps_par (i := 2) (j := 3) (by rfl) scShuf.nd rfl rfl (by decide) rfl rfl (pa_cons (pe_callTy call_list_of (by rfl) T.list (by decide +kernel) (pa_cons (pv 1) pa_nil)) (pa_cons (pe_lst pa_nil) pa_nil)) (by rfl))
      (pss_cons (ps_while PassesOwn.never (pt_cmpR (op_neD hr.units) (pv 2) (pe_lst pa_nil) (nomark _))
        (pss_one (ps_expr (pe_bm PySem.F.plainAttrs_list PySem.F.slot_list_append PySem.F.type_list_append mt_append (pv 3) (pa_cons (pe_bm PySem.F.plainAttrs_list PySem.F.slot_list_pop PySem.F.type_list_pop mt_popAt (pv 2)
          (pa_cons (pe_call GD hr (by rfl) gD FD.kp bD .nil pass0 (pa_cons (pv 0) (pa_cons (pe_callB call_len_seq (by rfl) T.len PySem.boot_len (pa_cons (pv 2) pa_nil)) pa_nil))) pa_nil)) pa_nil)))))
      (pss_one (ps_ret (pv 3))))), ?_⟩
    refine ⟨_, rfl, l, _, rfl, .inl (SqL.of hl), fun L nL => ⟨(by show 0 ≤ sizeLine; decide), fun F0 nF => ⟨_, _, rfl, ?_⟩⟩⟩
    have s1 := same_upd (o := .lst (ns.map V.str)) nL
    have s2 := same_upd (o := .lst []) nF
    have SA := S.same (s1.trans s2)
    obtain ⟨oL, oLc⟩ := S.new nL
    obtain ⟨oF, oFc⟩ := S.new (s1.free nF)
    have nLF : L ≠ F0 := ne_of_none upd_same nF
    have hL := s2 _ _ (upd_same (a := L) (o := .lst (ns.map V.str)))
    refine while_by (fun σ G => σ = [some (.ref a), some (.ref l), some (.ref L), some (.ref F0)] ∧ ∃ xs ys : List Str, (xs ++ ys).Perm ns ∧ xs.length + ys.length = ns.length ∧ (∀ z ∈ xs, z ∈ ns) ∧ (∀ z ∈ ys, z ∈ ns) ∧ G L = some (.lst (xs.map V.str)) ∧ G F0 = some (.lst (ys.map V.str)) ∧ StA G a lw lc (t + ys.length) ∧ Kp [a, lw] H G)
      (fun σ G => (ctnL G L).length) ⟨rfl, ns, [], by simp, by simp, (fun _ h => h), (fun _ h => by cases h), hL, upd_same, SA, Kp.of (s1.trans s2)⟩ ?_ ?_
    · rintro σ G ⟨rfl, xs, ys, pm, hlen, hx, hy, gL, gF, SG, KG⟩
      have fx : (xs.map V.str).all fok = true := by
        rw [List.all_eq_true] at hf ⊢
        intro v hv
        obtain ⟨z, hz, rfl⟩ := List.mem_map.mp hv
        exact hf _ (List.mem_map.mpr ⟨z, hx z hz, rfl⟩)
      refine ⟨_, rfl, (by show 0 ≤ sizeLine; decide), fun q nq => ?_⟩
      have s3 := same_upd (o := .lst []) nq
      refine ne_nil (SqL.of (s3 _ _ gL)) (SqL.of upd_same) fx ⟨_, rfl, ?_⟩
      have S3 := SG.same s3
      generalize L2.upd G q (.lst []) = G1 at s3 S3
      have gL1 := s3 _ _ gL
      have gF1 := s3 _ _ gF
      cases xs with
      | nil =>
        refine iteF ?_
        have e : ys.length = ns.length := by simpa using hlen
        rw [e] at S3
        have K1 := KG.trans (Kp.of s3 (xs := [a, lw]))
        exact ⟨_, rfl, k F0 ys G1 (by simpa using pm) e hy S3 K1 (s1.free nF) gF1⟩
      | cons x xs =>
        refine iteT ?_
        have len : 0 < (x :: xs).length := by simp
        have yl : ys.length < 100 := by rw [List.length_cons] at hlen; omega
        refine ⟨_, rfl, .inl ⟨rfl, _, .inl (.inl gF1)⟩, _, rfl, .inl ⟨rfl, _, .inl (.inl gL1)⟩, _, rfl, _, rfl, L, _, rfl, .inl (SqL.of gL1), a, lw, lc, _, _, rfl, S3, by omega, ?_, ?_, fun z G2 z0 z1 S4 K4 => ?_⟩
        · rw [List.length_map]
          omega
        · rw [List.length_map, List.length_cons]
          rw [List.length_cons] at hlen
          omega
        have gL2 := K4 _ _ gL1 oL
        have gF2 := K4 _ _ gF1 oF
        obtain ⟨j, rfl⟩ : ∃ j : Nat, z = (j : Int) := ⟨z.toNat, by omega⟩
        rw [List.length_map] at z1
        have hj : j < (x :: xs).length := by omega
        have ej : ((x :: xs).map V.str)[j]? = some (.str ((x :: xs)[j])) := by
          rw [List.getElem?_map, List.getElem?_eq_getElem hj]
          rfl
        refine ⟨L, _, _, j, _, rfl, rfl, gL2, by omega, by rw [List.length_cons] at hj; rw [List.length_cons] at hlen; omega, ?_, ej, ?_⟩
        · rw [List.length_map]
          exact seq_nat hj
        · refine ⟨F0, _, _, rfl, rfl, by rw [upd_ne nLF.symm]; exact gF2, by rw [List.length_map]; exact Nat.lt_of_lt_of_le yl (by decide), ?_⟩
          have gLn : (L2.upd (L2.upd G2 L (.lst (((x :: xs).map V.str).eraseIdx j))) F0 (.lst (ys.map V.str ++ [.str ((x :: xs)[j])]))) L = some (.lst (((x :: xs).eraseIdx j).map V.str)) := by
            rw [upd_ne nLF, upd_same, erase_map]
          refine ⟨⟨rfl, (x :: xs).eraseIdx j, ys ++ [(x :: xs)[j]], erase_mv hj pm, ?_, fun z hz => hx z (List.mem_of_mem_eraseIdx hz), fun z hz => ?_, gLn, ?_, ?_, ?_⟩, ?_⟩
          · rw [List.length_eraseIdx_of_lt hj, List.length_append, List.length_singleton]
            rw [List.length_cons] at hlen ⊢
            omega
          · rcases List.mem_append.mp hz with hz | hz
            · exact hy z hz
            · rw [List.mem_singleton.mp hz]
              exact hx _ (List.getElem_mem hj)
          · rw [upd_same, List.map_append]
            rfl
          · rw [List.length_append, List.length_singleton]
            exact (S4.put oL oLc _).put oF oFc _
          · exact fun b o e nb => by
              rw [upd_ne (ne_of_none e (s1.free nF)), upd_ne (ne_of_none e nL)]
              exact ((KG.trans (Kp.of s3)).trans K4) b o e nb
          · show (ctnL _ L).length < (ctnL G L).length
            rw [ctnL_of gLn, ctnL_of gL, List.length_map, List.length_map, List.length_eraseIdx_of_lt hj]
            rw [List.length_cons]
            omega
    · rintro σ G Q1 Q2 hq ⟨v, e1, hle, hh⟩
      exact ⟨v, e1, hle, fun p np => let ⟨d, e, a1, a2, a3, a4, kk, e5, q⟩ := hh p np; ⟨d, e, a1, a2, a3, a4, kk, e5, hq _ _ q⟩⟩
end
end Own
set_option Elab.async false
set_option linter.all false
set_option maxRecDepth 100000
set_option maxHeartbeats 400000
namespace Own
open PySem PySem.Spec PyProof.Rows L2 LamX
/-! ### fresh names -/
def AZ : Str := "abcdefghijklmnopqrstuvwxyz"
def LAB : List Str := "a" :: "b" :: "z" :: "meet" :: "gauge" :: "draw" :: "undo" :: "x" :: "y" :: "ok" :: "r1" :: "a1" :: "zzzzzzzz" :: "q9" :: []
def KK : List Str := (signs AZ).map fun x => strV x ++ "k" ++ strV x
def SV : List Str := (signs AZ).map fun x => strV x ++ "7"
theorem near_ok : (∀ z ∈ LAB ++ (KK ++ SV), NameOk z) ∧ KK.Nodup ∧ KK.length = 26 ∧ SV.length = 26 ∧ ∀ z ∈ KK, z ∉ SHEET := by decide +kernel
theorem signs_ok : ∀ x ∈ signs AZ, ∃ z, x = .str z ∧ z.length = 1 := fun x hx => by
  obtain ⟨c, hc, rfl⟩ := List.mem_map.mp hx
  exact ⟨_, rfl, rfl⟩
theorem nodup_le {α : Type} [DecidableEq α] : ∀ {l m : List α}, l.Nodup → (∀ x ∈ l, x ∈ m) → l.length ≤ m.length
  | [], _, _, _ => Nat.zero_le _
  | x :: l, m, h, s => by
    obtain ⟨h1, h2⟩ := List.nodup_cons.mp h
    have hx := s x List.mem_cons_self
    have := nodup_le (l := l) (m := m.erase x) h2 fun y hy => by
      have ne : y ≠ x := fun z => h1 (z ▸ hy)
      exact (List.mem_erase_of_ne ne).mpr (s y (List.mem_cons_of_mem _ hy))
    rw [List.length_erase_of_mem hx] at this
    have pos := List.length_pos_of_mem hx
    rw [List.length_cons]
    omega
def freshB (kn : List Str) (z : Str) : Bool := !decide (z ∈ kn) && !decide (z ∈ SHEET)
theorem fresh_some {kn : List Str} (h : kn.length ≤ 20) (label : Str) : ∃ z r, ([label] ++ KK ++ SV).filter (freshB kn) = z :: r := by
  cases e : ([label] ++ KK ++ SV).filter (freshB kn) with
  | cons z r => exact ⟨z, r, rfl⟩
  | nil =>
    exfalso
    have no := List.filter_eq_nil_iff.mp e
    have : KK.length ≤ kn.length := nodup_le near_ok.2.1 fun x hx => by
      have q := no x (List.mem_append_left _ (List.mem_append_right _ hx))
      have ns := near_ok.2.2.2.2 x hx
      unfold freshB at q
      rw [decide_eq_false ns] at q
      simpa using q
    rw [near_ok.2.2.1] at this
    omega
def spLName : Sp := fun vs H Q _ => ∃ (a lw lc : Addr) (t : Nat) (b : Addr) (kn : List Str), vs = [.ref a, .ref b] ∧ StA H a lw lc t ∧ t < 2 ^ 39 ∧ H b = some (.lst (kn.map V.str)) ∧ b ∉ [a, lw] ∧ kn.length ≤ 20 ∧
  ∀ z H', NameOk z → z ∈ LAB ++ (KK ++ SV) → z ∉ kn → StA H' a lw lc (t + 1) → Kp [a, lw] H H' → Q (.str z) H'
section
variable {P : Program} {w : World} {K : PySem.W.Frag} {mg : Str → Option Value} {base : Heap} {f fP fD fS fT fSh fF fHW : Addr} {fd2 fdP fdD fdS fdT fdSh fdF fdHW : FuncData}
abbrev nsLName : List Str := ["_law_state", "_law_barred", "_law_some", "_law_label", "_law_near", "_law_mark", "_law_one"]
theorem scLName : FnScope nsLName ["_law_state", "_law_barred"] (defScope sLName) := ⟨rfl, rfl, rfl, by decide +kernel, rfl, by decide +kernel, by decide +kernel⟩
theorem ok_lname (F : FnP K "_law_name" sLName f fd2) (FP : FnP K "_law_pick" sPick fP fdP) (FD : FnP K "_law_draw" sDraw fD fdD) (FS : FnP K "_law_stirred" sStir fS fdS) (gP : mg "_law_pick" = some (.ref fP)) (gD : mg "_law_draw" = some (.ref fD)) (gS : mg "_law_stirred" = some (.ref fS)) (T : Txt K mg) :
    FnOk P w K mg base CX0 4 f fd2 ["_law_state", "_law_barred"] spLName := by
  have GP : FnOk P w K mg base CX0 3 fP fdP ["_law_state", "_law_some"] (spPick K) := ok_pick FP FD FS gD gS T
  have bP : Binds K fdP ["_law_state", "_law_some"] [] := FP.bindsN fun _ _ _ _ _ _ us hl => match us, hl with | [_, _], _ => rfl
  refine F.ok scLName (fun vs H Q E h => ?_) (fun cdv A outer s H vs Q E hr h => ?_)
  · obtain ⟨a, lw, lc, t, b, kn, rfl, _⟩ := h
    rfl
  · obtain ⟨a, lw, lc, t, b, kn, rfl, S, ht, hb, nb, hl, k⟩ := h
    refine ⟨_, PSs.nox (pss_cons (ps_set (i := 2) scLName.nd rfl (.inl rfl) (pe_lst (pa_cons pe_str (pa_cons pe_str (pa_cons pe_str (pa_cons pe_str (pa_cons pe_str (pa_cons pe_str (pa_cons pe_str (pa_cons pe_str (pa_cons pe_str (pa_cons pe_str (pa_cons pe_str (pa_cons pe_str (pa_cons pe_str (pa_cons pe_str pa_nil))))))))))))))))
      (pss_cons (ps_set (i := 3) scLName.nd rfl (.inl rfl) (pe_call GP hr (by rfl) gP FP.kp bP .nil pass0 (pa_cons (pv 0) (pa_cons (pv 2) pa_nil))))
      (pss_cons (ps_set (i := 4) scLName.nd rfl (.inl rfl) (pe_op op_cat (pe_lst (pa_cons (pv 3) pa_nil)) (pe_lc (own := [("_law_mark", 5)]) (g := gName 5) (tt := tYes) (by rfl) scLName.nd (pi_str pe_str) (blkOk_by (own := [("_law_mark", 5)]) (N := nsLName) (sc := defScope sLName) (by decide +kernel))
          (fun _ _ _ _ _ => pg_name (i := 5) scLName.nd rfl (Or.inl rfl)) (fun _ _ _ _ _ => pts_nil) (fun _ _ _ _ _ => pe_op op_add_str (pe_op op_add_str (pv 5) pe_str) (pv 5)))))
      (pss_cons (ps_set (i := 4) scLName.nd rfl (.inl rfl) (pe_op op_cat (pv 4) (pe_lc (own := [("_law_mark", 5)]) (g := gName 5) (tt := tYes) (by rfl) scLName.nd (pi_str pe_str) (blkOk_by (own := [("_law_mark", 5)]) (N := nsLName) (sc := defScope sLName) (by decide +kernel))
          (fun _ _ _ _ _ => pg_name (i := 5) scLName.nd rfl (Or.inl rfl)) (fun _ _ _ _ _ => pts_nil) (fun _ _ _ _ _ => pe_op op_add_str (pv 5) pe_str))))
      (pss_one (ps_ret (pe_ix ix_list (pe_lc (own := [("_law_one", 6)]) (g := gName 6) (by rfl) scLName.nd (pi_list (pv 4)) (blkOk_by (own := [("_law_one", 6)]) (N := nsLName) (sc := defScope sLName) (by decide +kernel))
          (fun _ _ _ _ _ => pg_name (i := 6) scLName.nd rfl (Or.inl rfl)) (fun _ _ _ _ _ => pts_one (PW.pt (pw_and (pt_cmpR (op_notInK (K := K) rfl) (pv 6) (pv 1) (by rfl)) (pw_and1 (pt_cmpR (op_notInK (K := K) rfl) (pv 6) (pe_lst (pa_cons pe_str (pa_cons pe_str (pa_cons pe_str (pa_cons pe_str (pa_cons pe_str pa_nil)))))) (by rfl)))))) (fun _ _ _ _ _ => pv 6)) pe_int (fun _ _ => rfl)))))))), ?_⟩
    refine ⟨(by show 14 ≤ sizeLine; decide), fun L nL => ?_⟩
    have s1 := same_upd (o := .lst (LAB.map V.str)) nL
    have nLw : L ≠ lw := fun z => (S.new nL).1 (by simp [z])
    refine ⟨_, rfl, _, rfl, a, lw, lc, t, L, LAB.map V.str, rfl, S.same s1, by omega, upd_same, nLw, by decide, by decide, fun i x H1 hx S1 K1 => ?_⟩
    obtain ⟨label, hlab, rfl⟩ : ∃ z ∈ LAB, x = .str z := by
      obtain ⟨z, hz, e⟩ := List.mem_map.mp (List.mem_of_getElem? hx)
      exact ⟨z, hz, e.symm⟩
    have KK1 := (Kp.of s1 (xs := [a, lw])).trans K1
    have hb1 := KK1 _ _ hb nb
    have zk : ∀ {x : V}, x ∈ signs AZ → ∃ z, x = .str z ∧ z.length = 1 := fun h => signs_ok _ h
    -- the first list
    refine ⟨_, rfl, (by show 1 ≤ sizeLine; decide), fun l1 n1 => ?_⟩
    have s2 := same_upd (o := .lst [.str label]) n1
    refine ⟨AZ, rfl, fun D nD => ?_⟩
    refine lc_rel (p := fun _ => true) (c := fun x => V.str (strV x ++ "k" ++ strV x)) (rel := fun _ y b => y = b) walk_signs nD (by decide) (fun _ _ => trivial) (fun _ q => q) (fun _ q _ => q) (fun v => rfl) (fun x H' _ _ R kR => kR H' (Same.refl _)) (fun x H' hx _ _ R kR => ?_) fun H2 ys sH eD f => ?_
    · obtain ⟨z, rfl, hz⟩ := zk hx
      refine ⟨_, rfl, _, _, rfl, rfl, by rw [hz]; decide, _, rfl, _, _, rfl, rfl, ?_, kR _ H' (Same.refl _) rfl⟩
      have : (z ++ "k").length = 2 := by rw [Str.length_append, hz]; rfl
      rw [this, hz]
      decide
    rw [List.filter_eq_self.mpr fun _ _ => rfl] at f
    have ey : ys = KK.map V.str := by
      rw [f.map_eq (f := fun x => x), List.map_id']
      unfold KK
      rw [List.map_map]
      rfl
    subst ey
    refine ⟨l1, D, [.str label], _, rfl, rfl, sH _ _ upd_same, eD, (by rw [List.length_map, near_ok.2.2.1]; show 27 ≤ sizeLine; decide), fun l2 n2 => ?_⟩
    have s3 := same_upd (o := .lst ([V.str label] ++ KK.map V.str)) n2
    have up3 := (s2.trans sH).trans s3
    -- the second one
    refine ⟨_, rfl, ⟨AZ, rfl, fun D2 nD2 => ?_⟩⟩
    have h2 := upd_same (H := H2) (a := l2) (o := .lst ([V.str label] ++ KK.map V.str))
    generalize L2.upd H2 l2 (.lst ([V.str label] ++ KK.map V.str)) = H3 at s3 up3 nD2 h2
    refine lc_rel (p := fun _ => true) (c := fun x => V.str (strV x ++ "7")) (rel := fun _ y b => y = b) walk_signs nD2 (by decide) (fun _ _ => trivial) (fun _ q => q) (fun _ q _ => q) (fun v => rfl) (fun x H' _ _ R kR => kR H' (Same.refl _)) (fun x H' hx _ _ R kR => ?_) fun H4 ys s4 eD2 f2 => ?_
    · obtain ⟨z, rfl, hz⟩ := zk hx
      exact ⟨_, rfl, _, _, rfl, rfl, by rw [hz]; decide, kR _ H' (Same.refl _) rfl⟩
    rw [List.filter_eq_self.mpr fun _ _ => rfl] at f2
    have ey : ys = SV.map V.str := by
      rw [f2.map_eq (f := fun x => x), List.map_id']
      unfold SV
      rw [List.map_map]
      rfl
    subst ey
    refine ⟨l2, D2, _, _, rfl, rfl, s4 _ _ h2, eD2, (by rw [List.length_append, List.length_map, List.length_map, near_ok.2.2.1, near_ok.2.2.2.1]; show 53 ≤ sizeLine; decide), fun l3 n3 => ?_⟩
    have en : ([V.str label] ++ KK.map V.str) ++ SV.map V.str = ([label] ++ KK ++ SV).map V.str := by
      rw [List.map_append, List.map_append]
      rfl
    rw [en]
    have s5 := same_upd (o := .lst (([label] ++ KK ++ SV).map V.str)) n3
    have h3 := upd_same (H := H4) (a := l3) (o := .lst (([label] ++ KK ++ SV).map V.str))
    generalize L2.upd H4 l3 (.lst (([label] ++ KK ++ SV).map V.str)) = H5 at s5 h3
    have up5 := (up3.trans s4).trans s5
    have hb5 := up5 _ _ hb1
    refine ⟨_, rfl, l3, rfl, ⟨_, SqL.of h3⟩, fun D3 nD3 => ?_⟩
    have len53 : (([label] ++ KK ++ SV).map V.str).length = 53 := by
      rw [List.length_map, List.length_append, List.length_append, near_ok.2.2.1, near_ok.2.2.2.1]
      rfl
    refine lc_filt (p := fun x => !inV x (kn.map V.str) && !inV x (SHEET.map V.str)) walk_list nD3 (by rw [len53]; decide) (fun H' s => Same.seq s (SqL.of h3)) (by show 6 < 7; decide) (fun x H' hx s6 R kR => ?_) fun H6 s6 hD3 => ?_
    · obtain ⟨z, _, rfl⟩ := List.mem_map.mp hx
      refine ⟨_, rfl, _, rfl, b, _, rfl, .inl (SqL.of (s6 _ _ hb5)), rfl, flat_strs _, _, rfl, ?_⟩
      cases e : inV (V.str z) (kn.map V.str) with
      | true =>
        refine iteF ?_
        have q := kR H' (Same.refl _)
        rw [e] at q
        exact q
      | false =>
        refine iteT ?_
        refine ⟨_, rfl, (by show 5 ≤ sizeLine; decide), fun l nl => ⟨l, SHEET.map V.str, rfl, .inl (SqL.of upd_same), rfl, flat_strs _, _, rfl, ?_⟩⟩
        have q := kR _ (same_upd (o := .lst (SHEET.map V.str)) nl)
        rw [e] at q
        exact q
    obtain ⟨z, r, ez⟩ := fresh_some hl label
    have ef : (([label] ++ KK ++ SV).map V.str).filter (fun x => !inV x (kn.map V.str) && !inV x (SHEET.map V.str)) = (z :: r).map V.str := by
      rw [← ez, List.filter_map]
      refine congrArg (List.map V.str) (List.filter_congr fun y _ => ?_)
      show (!inV (.str y) _ && !inV (.str y) _) = freshB kn y
      rw [inV_str, inV_str]
      rfl
    rw [ef] at hD3
    have mz : z ∈ ([label] ++ KK ++ SV).filter (freshB kn) := by rw [ez]; exact List.mem_cons_self
    obtain ⟨mz1, mz2⟩ := List.mem_filter.mp mz
    have okz : NameOk z := by
      rcases List.mem_append.mp mz1 with m | m
      · rcases List.mem_append.mp m with m | m
        · rw [List.mem_singleton.mp m]
          exact near_ok.1 _ (List.mem_append_left _ hlab)
        · exact near_ok.1 _ (List.mem_append_right _ (List.mem_append_left _ m))
      · exact near_ok.1 _ (List.mem_append_right _ (List.mem_append_right _ m))
    have frz : z ∉ kn := by
      unfold freshB at mz2
      intro q
      rw [decide_eq_true q] at mz2
      cases mz2
    have up6 := up5.trans s6
    refine ⟨D3, _, _, _, rfl, rfl, SqL.of hD3, at_nat (k := 0) rfl, ?_⟩
    have memz : z ∈ LAB ++ (KK ++ SV) := by
      rcases List.mem_append.mp mz1 with m | m
      · rcases List.mem_append.mp m with m | m
        · rw [List.mem_singleton.mp m]
          exact List.mem_append_left _ hlab
        · exact List.mem_append_right _ (List.mem_append_left _ m)
      · exact List.mem_append_right _ (List.mem_append_right _ m)
    exact k z H6 okz memz frz (S1.same up6) (KK1.trans (Kp.of up6))
end
end Own
set_option Elab.async false
set_option linter.all false
set_option maxRecDepth 100000
set_option maxHeartbeats 400000
namespace Own
open PySem PySem.Spec PyProof.Rows L2 LamX
/-! ### drawn deeds -/
theorem ix_listK2 {X : Cx} {K : PySem.W.Frag} (h : X.K = K) : IxR X (rIxL K) := h ▸ ix_list
theorem fk_look : ∀ t ∈ FORM, valV FK (Sum.inr t.1) = some (.int t.2.1) := by decide +kernel
theorem fk_way : ∀ t ∈ FORM, decide (t.1 ∈ WAYS) = (t.2.2 == 1) := by decide +kernel
def spLDeed : Sp := fun vs H Q _ => ∃ (a lw lc : Addr) (t : Nat) (wd : Str) (m kk : Nat) (n : Addr) (kn : List Str), vs = [.ref a, .str wd, .ref n] ∧ StA H a lw lc t ∧ t < 2 ^ 38 ∧ (wd, m, kk) ∈ FORM ∧ H n = some (.lst (kn.map V.str)) ∧ n ∉ [a, lw] ∧ 0 < kn.length ∧ kn.length ≤ 20 ∧ (∀ z ∈ kn, NameOk z) ∧
  ∀ (p : Addr) (d : Deed) (H' : Hp), d.word = wd → DeedOk d → (∀ z ∈ d.names, z ∈ kn) → StA H' a lw lc (t + 40) → Kp [a, lw] H H' → H p = none → H' p = some (.tup d.vs) → Q (.ref p) H'
section
variable {P : Program} {w : World} {K : PySem.W.Frag} {mg : Str → Option Value} {base : Heap} {f fP fD fS fT fSh fF fHW : Addr} {fd2 fdP fdD fdS fdT fdSh fdF fdHW : FuncData}
abbrev nsLDeed : List Str := ["_law_state", "_law_word", "_law_names", "_law_left", "_law_found", "_law_spot"]
theorem scLDeed : FnScope nsLDeed ["_law_state", "_law_word", "_law_names"] (defScope sLDeed) := ⟨rfl, rfl, rfl, by decide +kernel, rfl, by decide +kernel, by decide +kernel⟩
theorem ok_ldeed (F : FnP K "_law_deed" sLDeed f fd2) (FSh : FnP K "_law_shuffled" sShuf fSh fdSh) (FF : FnP K "_law_forms" sForms fF fdF) (FH : FnP K "_law_has_way" sHasWay fHW fdHW) (FP : FnP K "_law_pick" sPick fP fdP) (FD : FnP K "_law_draw" sDraw fD fdD) (FS : FnP K "_law_stirred" sStir fS fdS)
    (gSh : mg "_law_shuffled" = some (.ref fSh)) (gF : mg "_law_forms" = some (.ref fF)) (gH : mg "_law_has_way" = some (.ref fHW)) (gP : mg "_law_pick" = some (.ref fP)) (gD : mg "_law_draw" = some (.ref fD)) (gS : mg "_law_stirred" = some (.ref fS)) (T : Txt K mg) :
    FnOk P w K mg base CX0 4 f fd2 ["_law_state", "_law_word", "_law_names"] spLDeed := by
  have GP : FnOk P w K mg base CX0 3 fP fdP ["_law_state", "_law_some"] (spPick K) := ok_pick FP FD FS gD gS T
  have bP : Binds K fdP ["_law_state", "_law_some"] [] := FP.bindsN fun _ _ _ _ _ _ us hl => match us, hl with | [_, _], _ => rfl
  have GD : FnOk P w K mg base CX0 2 fD fdD ["_law_state", "_law_room"] spDraw := ok_draw FD FS gS T
  have bD : Binds K fdD ["_law_state", "_law_room"] [] := FD.bindsN fun _ _ _ _ _ _ us hl => match us, hl with | [_, _], _ => rfl
  have GSh : FnOk P w K mg base CX0 3 fSh fdSh ["_law_state", "_law_some"] spShuf := ok_shuf FSh FD FS gD gS T
  have bSh : Binds K fdSh ["_law_state", "_law_some"] [] := FSh.bindsN fun _ _ _ _ _ _ us hl => match us, hl with | [_, _], _ => rfl
  have GF : FnOk P w K mg base CX0 1 fF fdF [] spForms := ok_forms FF
  have bF : Binds K fdF [] [] := FF.bindsN fun _ _ _ _ _ _ us hl => match us, hl with | [], _ => rfl
  have GH : FnOk P w K mg base CX0 1 fHW fdHW ["_law_word"] spHasWay := ok_hasway FH
  have bH : Binds K fdHW ["_law_word"] [] := FH.bindsN fun _ _ _ _ _ _ us hl => match us, hl with | [_], _ => rfl
  refine F.ok scLDeed (fun vs H Q E h => ?_) (fun cdv A outer s H vs Q E hr h => ?_)
  · obtain ⟨a, lw, lc, t, wd, m, kk, n, kn, rfl, _⟩ := h
    rfl
  · obtain ⟨a, lw, lc, t, wd, m, kk, n, kn, rfl, S, ht, hm, hn, nn, l0, l20, okN, k⟩ := h
    have hu := hu_of hr
    have hr1 := hr.mono (show 1 ≤ 3 by decide)
    have hr2 := hr.mono (show 2 ≤ 3 by decide)
    refine ⟨_, PSs.nox (pss_cons (ps_set (i := 3) scLDeed.nd rfl (.inr rfl) (pe_call GSh hr (by rfl) gSh FSh.kp bSh .nil pass0 (pa_cons (pv 0) (pa_cons (pv 2) pa_nil))))
      (pss_cons (ps_setLc (i := 4) (own := [("_law_spot", 5)]) (g := gName 5) (tt := tYes) (by rfl) scLDeed.nd rfl rfl (sw_true rfl rfl rfl (by decide +kernel)) (pi_range1 (by rfl) T.range (pa_cons (pe_dget hu (pe_call0 GF hr1 (by rfl) gF FF.kp bF .nil pass0) (pv 1) (fun _ _ => rfl)) pa_nil)) (blkOk_by (own := [("_law_spot", 5)]) (N := nsLDeed) (sc := defScope sLDeed) (by decide +kernel))
          (fun _ _ _ _ _ => pg_name (i := 5) scLDeed.nd rfl (Or.inl rfl)) (fun _ _ _ _ _ => pts_nil)
          (fun _ _ _ _ _ => pe_ifExp (PW.pt (pw_and (pt_cmpR op_lt (pv 5) (pe_callB (call_lenK (K := K) rfl) (by rfl) T.len PySem.boot_len (pa_cons (pv 3) pa_nil)) (nomark _)) (pw_and1 (pt_cmpR op_gt (pe_call GD hr2 (by rfl) gD FD.kp bD .nil pass0 (pa_cons (pv 0) (pa_cons pe_int pa_nil))) pe_int (nomark _)))))
            (pe_ix (ix_listK2 (K := K) rfl) (pv 3) (pv 5) (fun _ _ => rfl)) (pe_call GP hr (by rfl) gP FP.kp bP .nil pass0 (pa_cons (pv 0) (pa_cons (pv 2) pa_nil)))))
      (pss_one (ps_ret (pe_tupleOf (by rfl) T.tuple (pe_op op_cat (pe_op op_cat (pe_lst (pa_cons (pv 1) pa_nil)) (pv 4)) (pe_ifExp (pt_val (pe_call GH hr1 (by rfl) gH FH.kp bH .nil pass0 (pa_cons (pv 1) pa_nil))) (pe_lst (pa_cons (pe_op op_add pe_int (pe_call GD hr2 (by rfl) gD FD.kp bD .nil pass0 (pa_cons (pv 0) (pa_cons pe_int pa_nil)))) pa_nil)) (pe_lst pa_nil)))))))), ?_⟩
    have f5 : m ≤ 5 := (form_facts _ hm).2.2.1
    have f1 : kk ≤ 1 := (form_facts _ hm).2.2.2
    refine ⟨_, rfl, _, rfl, a, lw, lc, t, n, kn, rfl, S, by omega, hn, fok_names okN, by omega, fun L ms H1 _ lm hms S1 K1 nL hL => ?_⟩
    have nLA := (S.new nL).1
    refine ⟨rfl, fun fo H2 s2 nfo hfo => ?_⟩
    refine ⟨_, rfl, fo, _, rfl, dget_k (.inr wd) hfo (fk_look _ hm), m, rfl, by omega, by omega, fun D nD => ?_⟩
    have S2 := S1.same s2
    obtain ⟨nDA, nDc⟩ := S2.new nD
    have sD := same_upd (o := .lst []) nD
    have hn2 := s2 _ _ (K1 _ _ hn nn)
    have hL2 := s2 _ _ hL
    have nLD : L ≠ D := ne_of_none hL2 nD
    have nnD : n ≠ D := ne_of_none hn2 nD
    refine lc_it (walk_range (lo := 0) (n := m)) (fun i G => ∃ ns : List Str, ns.length = i ∧ (∀ z ∈ ns, z ∈ kn) ∧ G D = some (.lst (ns.map V.str)) ∧ StA G a lw lc (t + kn.length + 2 * i) ∧ Kp [a, lw] H2 G) ⟨[], rfl, (fun _ h => by cases h), upd_same, S2.same sD, Kp.of sD⟩ (fun _ _ _ _ => trivial) ?_ ?_
    · rintro i x G G' hi ⟨ns, ln, hns, gD2, SG, KG⟩ ⟨rfl, rfl⟩
      have put : ∀ (z : Str) (G2 : Hp), z ∈ kn → G2 D = some (.lst (ns.map V.str)) → StA G2 a lw lc (t + kn.length + 2 * (i + 1)) → Kp [a, lw] H2 G2 → ∃ acc, G2 D = some (.lst acc) ∧ acc.length < sizeLine ∧ ∃ ms : List Str, ms.length = i + 1 ∧ (∀ z ∈ ms, z ∈ kn) ∧ (L2.upd G2 D (.lst (acc ++ [.str z]))) D = some (.lst (ms.map V.str)) ∧ StA (L2.upd G2 D (.lst (acc ++ [.str z]))) a lw lc (t + kn.length + 2 * (i + 1)) ∧ Kp [a, lw] H2 (L2.upd G2 D (.lst (acc ++ [.str z]))) := fun z G2 hz e S3 K3 => by
        refine ⟨_, e, by rw [List.length_map, ln]; exact Nat.lt_of_lt_of_le (show i < 5 by omega) (by decide), ns ++ [z], by rw [List.length_append, ln]; rfl, fun y hy => ?_, by rw [upd_same, List.map_append]; rfl, S3.put nDA nDc _, fun b o eb nb => ?_⟩
        · rcases List.mem_append.mp hy with hy | hy
          · exact hns y hy
          · rw [List.mem_singleton.mp hy]
            exact hz
        · rw [upd_ne (ne_of_none eb nD)]
          exact K3 b o eb nb
      have e0 : (0 : Int) + ((i : Nat) : Int) = ((i : Nat) : Int) := by omega
      have gL := KG _ _ hL2 nLA
      have gn := KG _ _ hn2 nn
      have pick : ∀ G2, StA G2 a lw lc (t + kn.length + 2 * i + 1) → Kp [a, lw] H2 G2 → G2 D = some (.lst (ns.map V.str)) → spPick K [.ref a, .ref n] G2 (fun y H4 => ∃ acc, H4 D = some (.lst acc) ∧ acc.length < sizeLine ∧ ∃ ms : List Str, ms.length = i + 1 ∧ (∀ z ∈ ms, z ∈ kn) ∧ (L2.upd H4 D (.lst (acc ++ [y]))) D = some (.lst (ms.map V.str)) ∧ StA (L2.upd H4 D (.lst (acc ++ [y]))) a lw lc (t + kn.length + 2 * (i + 1)) ∧ Kp [a, lw] H2 (L2.upd H4 D (.lst (acc ++ [y])))) E0 := fun G2 S3 K3 e => by
        refine ⟨a, lw, lc, _, n, _, rfl, S3, by omega, K3 _ _ hn2 nn, fun z => nn (by simp [z]), by rw [List.length_map]; exact l0, by rw [List.length_map]; omega, fun j x G3 hx S4 K4 => ?_⟩
        obtain ⟨z, hz, rfl⟩ := List.mem_map.mp (List.mem_of_getElem? hx)
        exact put z G3 hz (K4 _ _ e nDA) (S4.more (by omega)) (K3.trans K4)
      refine ⟨rfl, yes_if ?_⟩
      refine ⟨_, rfl, _, rfl, L, _, rfl, .inl (SqL.of gL), _, _, rfl, rfl, _, rfl, ?_⟩
      rw [e0]
      refine ite2 (fun c => ?_) fun c => ?_
      · have hlt : i < ms.length := by
          have := of_decide_eq_true c
          rw [List.length_map] at this
          omega
        refine ⟨_, rfl, a, lw, lc, _, _, rfl, SG, by omega, by decide, by decide, fun z G1 z0 z1 S3 K3 => ⟨_, _, rfl, rfl, _, rfl, ?_⟩⟩
        have gD3 := K3 _ _ gD2 nDA
        refine ite2 (fun _ => ?_) fun _ => ?_
        · have ej : (ms.map V.str)[i]? = some (.str (ms[i])) := by
            rw [List.getElem?_map, List.getElem?_eq_getElem hlt]
            rfl
          refine ⟨_, rfl, _, rfl, L, _, _, _, rfl, rfl, SqL.of (K3 _ _ gL nLA), by rw [e0]; exact at_nat ej, ?_⟩
          exact put _ G1 (hms _ (List.getElem_mem hlt)) gD3 (S3.more (by omega)) (KG.trans K3)
        · exact ⟨_, rfl, _, rfl, pick G1 S3 (KG.trans K3) gD3⟩
      · exact ⟨_, rfl, _, rfl, pick G' (SG.more (by omega)) KG gD2⟩
    · rintro G ⟨ns, ln, hns, gD2, SG, KG⟩
      have okns : ∀ z ∈ ns, NameOk z := fun z hz => okN z (hns z hz)
      have KA : Kp [a, lw] H G := (K1.trans (Kp.of s2)).trans KG
      have small : ∀ j : Nat, j ≤ 100 → j ≤ sizeLine := fun j h => Nat.le_trans h (by decide)
      refine ⟨_, rfl, (by show 1 ≤ sizeLine; decide), fun l1 n1 => ⟨_, rfl, ?_⟩⟩
      have s3 := same_upd (o := .lst [.str wd]) n1
      refine ⟨l1, D, [.str wd], _, rfl, rfl, upd_same, s3 _ _ gD2, small _ (by rw [List.length_map, ln]; show 1 + m ≤ 100; omega), fun l2 n2 => ?_⟩
      have s4 := same_upd (o := .lst ([V.str wd] ++ ns.map V.str)) n2
      have h2 := upd_same (H := L2.upd G l1 (.lst [.str wd])) (a := l2) (o := .lst ([V.str wd] ++ ns.map V.str))
      have sAB := s3.trans s4
      generalize L2.upd (L2.upd G l1 (.lst [.str wd])) l2 (.lst ([V.str wd] ++ ns.map V.str)) = G2 at s4 h2 sAB
      refine ⟨_, rfl, wd, rfl, fun G3 s5 => ⟨_, rfl, ?_⟩⟩
      rw [fk_way _ hm]
      have S5 := SG.same (sAB.trans s5)
      have K5 := KA.trans (Kp.of (sAB.trans s5) (xs := [a, lw]))
      have h25 := s5 _ _ h2
      by_cases hk : kk = 1
      · subst hk
        refine iteT ?_
        refine ⟨_, rfl, a, lw, lc, _, _, rfl, S5, by omega, by decide, by decide, fun z G4 z0 z1 S6 K6 => ⟨_, _, rfl, rfl, (by show 1 ≤ sizeLine; decide), fun l3 n3 => ?_⟩⟩
        have s6 := same_upd (o := .lst [V.int (1 + z)]) n3
        have o2 : l2 ∉ [a, lw] := ((SG.same s3).new n2).1
        have h26 := s6 _ _ (K6 _ _ h25 o2)
        refine ⟨l2, l3, _, [V.int (1 + z)], rfl, rfl, h26, upd_same, small _ (by rw [List.length_append, List.length_map, ln]; show (1 + m) + 1 ≤ 100; omega), fun l4 n4 => ?_⟩
        have s7 := same_upd (o := .lst ([V.str wd] ++ ns.map V.str ++ [V.int (1 + z)])) n4
        refine .inl ⟨l4, _, rfl, SqL.of upd_same, fun p np => ?_⟩
        have s8 := same_upd (o := .tup ([V.str wd] ++ ns.map V.str ++ [V.int (1 + z)])) np
        have sF := (s6.trans s7).trans s8
        have KF := (K5.trans K6).trans (Kp.of sF (xs := [a, lw]))
        have SF := S6.same sF
        refine k p ⟨wd, ns, [1 + z]⟩ _ rfl ⟨m, 1, hm, ln, okns, rfl, fun y hy => ?_⟩ hns (SF.more (by omega)) KF ?_ ?_
        · rw [List.mem_singleton.mp hy]
          omega
        · exact S6.back ((K5.trans K6)) ((s6.trans s7).free np)
        · rw [upd_same]
          unfold Deed.vs
          simp
      · have e0 : (kk == 1) = false := by simpa using hk
        rw [e0]
        refine iteF ?_
        refine ⟨(by show 0 ≤ sizeLine; decide), fun l3 n3 => ?_⟩
        have s6 := same_upd (o := .lst []) n3
        refine ⟨l2, l3, _, [], rfl, rfl, s6 _ _ h25, upd_same, small _ (by rw [List.length_append, List.length_map, ln]; show (1 + m) + 0 ≤ 100; omega), fun l4 n4 => ?_⟩
        have s7 := same_upd (o := .lst ([V.str wd] ++ ns.map V.str ++ [])) n4
        refine .inl ⟨l4, _, rfl, SqL.of upd_same, fun p np => ?_⟩
        have s8 := same_upd (o := .tup ([V.str wd] ++ ns.map V.str ++ [])) np
        have sF := (s6.trans s7).trans s8
        have k0 : kk = 0 := by omega
        subst k0
        refine k p ⟨wd, ns, []⟩ _ rfl ⟨m, 0, hm, ln, okns, rfl, fun y hy => by cases hy⟩ hns ((S5.same sF).more (by omega)) (K5.trans (Kp.of sF)) (S5.back K5 ((s6.trans s7).free np)) ?_
        rw [upd_same]
        unfold Deed.vs
        simp
end
end Own
set_option Elab.async false
set_option linter.all false
set_option maxRecDepth 100000
set_option maxHeartbeats 4000000
namespace Own
open PySem PySem.Spec PyProof.Rows L2
/-! ### rules for code that runs when a token is out -/
/-- a def's promise, kept where a token is out at its call -/
structure FnOkT (P : Program) (w : World) (K : PySem.W.Frag) (mg : Str → Option Value) (base : Heap) (CX : CXT) (k : Nat) (f : Addr) (fd : FuncData) (ps : List Str) (sp : Sp) : Prop where
  len : ∀ vs H Q E, sp vs H Q E → vs.length = ps.length
  run : ∀ (A : Around) (outer : List Env) (s : Shared) (H : Hp) (args : Args) (us : List Value) (vs : List V) (Q : VK) (E : XK), 1 ≤ s.toks → Room k A → Env0 P w K mg base A outer s H → BindsTo s fd args (ps.zip us) → Vals vs us → sp vs H Q E →
    codeAny (model P w) A (.call (.ref f) args) (CR CX outer P w H s Q E) s
/-- the step into the body -/
theorem run_bodyT {CX : CXT} {P : Program} {w : World} {K : PySem.W.Frag} {mg : Str → Option Value} {base : Heap} {k : Nat} {f : Addr} {qual : Str} {body : List Stmt} {scope : Scope} {cdv : Value} {N ps : List Str} (S : FnScope N ps scope)
    {A : Around} {outer : List Env} {s s1 : Shared} {H : Hp} {us : List Value} {vs : List V} {Q : VK} {E : XK} (hr : Room (k + 1) A) (e0 : Env0 P w K mg base A outer s H) (hl : vs.length = ps.length) (r : Vals vs us)
    (x : InCallC s (envOfC qual scope s.heap.objs.size f cdv).locals (bindL (envOfC qual scope s.heap.objs.size f cdv).kindOf (ps.zip us) fun _ => none) (envOfC qual scope s.heap.objs.size f cdv).cells (bindC (envOfC qual scope s.heap.objs.size f cdv).kindOf (ps.zip us) fun _ => none) s1)
    (ht : 1 ≤ s1.toks) (hb : ∃ t, PSsT (cxOf CX P w K mg base N qual scope f cdv A outer s H E) body t ∧ t { nx := fun _ H' => Q .non H', rt := Q } (start N vs) H) :
    codeAny (model P w) A (.func body (envOfC qual scope s.heap.objs.size f cdv)) (CR CX outer P w H s Q E) s1 := by
  obtain ⟨t, hbt, hq⟩ := hb
  have J0 : Inv (cxOf CX P w K mg base N qual scope f cdv A outer s H E) [] (start N vs) H s1 := inv_start S hr.hd e0 hl r x
  refine codeAny_func (wpAny_mono (hbt [] s1 (start N vs) H _ ht J0 hq) (fun fl s2 h2 => ?_) fun _ _ z => z)
  cases fl with
  | ret u => obtain ⟨v, σ2, H2, J, rv, q⟩ := h2; exact ⟨v, H2, J.os, J.bare, J.base, J.hok, rv, q⟩
  | next => obtain ⟨σ2, H2, J, q⟩ := h2; exact ⟨.non, H2, J.os, J.bare, J.base, J.hok, rfl, q⟩
  | brk => obtain ⟨_, _, _, q⟩ := h2; exact False.elim q
  | cont => obtain ⟨_, _, _, q⟩ := h2; exact False.elim q
theorem kinds_of {N ps : List Str} {scope : Scope} (S : FnScope N ps scope) (n : Nat) (us : List Value) : ∀ y ∈ ps.zip us, scope.names.lookup y.1 = some .local ∨ (scope.names.lookup y.1 = some .cell ∧ ((cellsFrom n scope.names []).lookup y.1).isSome = true) := fun y hy => by
  cases S.par y.1 (List.of_mem_zip (a := y.1) (b := y.2) hy).1 with
  | inl q => exact .inl q
  | inr q => exact .inr ⟨q, PySem.W.cellsFrom_some _ _ _ (.inl q)⟩
/-- a def that wants a token at its call -/
theorem FunD.okT {CX : CXT} {P : Program} {w : World} {K : PySem.W.Frag} {mg : Str → Option Value} {base : Heap} {x qual : Str} {params : Arguments} {body : List Stmt} {scope : Scope} {dvs : List V} {kws : List (Str × V)} {f : Addr} {fd : FuncData} {N ps : List Str} {k : Nat} {sp : Sp}
    (F : FunD K x qual params body scope dvs kws f fd) (S : FnScope N ps scope) (len : ∀ vs H Q E, sp vs H Q E → vs.length = ps.length)
    (hbody : ∀ (cdv : Value) (A : Around) (outer : List Env) (s : Shared) (H : Hp) (vs : List V) (Q : VK) (E : XK), (∃ (oc : Value) (od : Option Addr) (dV kV doc pm : Value) (an : Option Addr) (ct : Value) (osl : Array (Option Value)), K.lookup f = some ⟨oc, od, .func (PySem.W.fnOf x qual params body scope dV kV doc pm an cdv ct), osl⟩) → PySem.W.codeIn K cdv qual = true → Room k (A.deeper (envOfC qual scope s.heap.objs.size f cdv)) → sp vs H Q E →
      ∃ t, PSsT (cxOf CX P w K mg base N qual scope f cdv A outer s H E) body t ∧ t { nx := fun _ H' => Q .non H', rt := Q } (start N vs) H) : FnOkT P w K mg base CX (k + 1) f fd ps sp := by
  obtain ⟨oc, od, dV, kV, doc, pm, an, cdv, ct, osl, rfl, lk, hcd, _, _⟩ := F.ex
  refine ⟨len, fun A outer s H args us vs Q E ht hr e0 hb r hsp => ?_⟩
  have inH : K.In s.heap := e0.mod.kin.keeps fun b o e => (e0.bs b o e).1
  have nl : s.heap.NoLimit := e0.mod.nolimit.keeps fun b o e => (e0.bs b o e).1
  refine codeAny_call_function hr.depth (inH _ _ lk) rfl S.co S.gen rfl (PySem.W.codeRec_of inH hcd) (hb _ _ _ _ ?_)
  refine wpAny_mono (PySem.wpAny_toks (wpAny_newFunctionEnv_cells (Q := fun env s1 => env = envOfC qual scope s.heap.objs.size f cdv ∧ InCallC s (envOfC qual scope s.heap.objs.size f cdv).locals (bindL (envOfC qual scope s.heap.objs.size f cdv).kindOf (ps.zip us) fun _ => none) (envOfC qual scope s.heap.objs.size f cdv).cells (bindC (envOfC qual scope s.heap.objs.size f cdv).kindOf (ps.zip us) fun _ => none) s1) S.kind (kinds_of S _ _) fun env he s1 xx => ?_)) (fun env s1 h1 => ?_) fun _ _ z => z.2
  · subst he
    exact ⟨rfl, xx⟩
  · obtain ⟨hk, rfl, xx⟩ := h1
    exact ⟨nl.keeps xx.toInCall.keep, run_bodyT S hr e0 (len _ _ _ _ hsp) r xx (Nat.le_trans ht hk) (hbody _ _ _ _ _ _ _ _ ⟨_, _, _, _, _, _, _, _, _, lk⟩ hcd (hr.deeper _) hsp)⟩
/-- the parameters bound, the first one a plain local name: a token is out -/
theorem bind_tok {M : Model} {A : Around} {E : Value → Shared → Prop} {env : Env} {s0 : Shared} (g : Str × Value → PUnit → Sem (ForInStep PUnit)) (hg : ∀ n v u, g (n, v) u = (do storeName env n v; pure (.yield ⟨⟩))) (hk : env.scope.kind = .function)
    {n : Str} {v : Value} {r : List (Str × Value)} {s : Shared} {Q : PUnit → Shared → Prop} (x : InCallC s0 env.locals (fun _ => none) env.cells (fun _ => none) s) (hn : env.kindOf n = some .local)
    (hr : ∀ y ∈ r, env.kindOf y.1 = some .local ∨ (env.kindOf y.1 = some .cell ∧ (env.cells.lookup y.1).isSome = true))
    (h : ∀ s', 1 ≤ s'.toks → InCallC s0 env.locals (bindL env.kindOf ((n, v) :: r) fun _ => none) env.cells (bindC env.kindOf ((n, v) :: r) fun _ => none) s' → Q ⟨⟩ s') : wpAny M A (forIn ((n, v) :: r) ⟨⟩ g) Q E s := by
  rw [List.forIn_cons, hg]
  refine wpAny_bind (wpAny_bind (wpAny_storeName_local hn x.toInCall.ns (fun h1 hn1 sb => wpAny_pure ?_) (by rw [hk]; rfl)))
  have x1 : InCallC s0 env.locals (fun y => if y = n then some v else none) env.cells (fun _ => none) ({ s with heap := h1, toks := s.toks + 1 } : Shared) := by
    refine ⟨⟨?_, hn1, fun b o e => ?_, x.toInCall.fresh⟩, fun m c hc => ?_, x.apart, x.above⟩
    · obtain ⟨hh, tk, rfl⟩ := x.toInCall.same
      exact ⟨h1, _, rfl⟩
    · exact sb.extBut b o (Nat.ne_of_lt (Nat.lt_of_lt_of_le (Heap.lt_size e) x.toInCall.fresh)) (x.toInCall.keep b o e)
    · exact (x.cell m c hc).sameBut sb (Nat.ne_of_gt (x.above m c (mem_of_lookup hc)))
  refine wpAny_mono (PySem.wpAny_toks_of (n := 1) (show 1 ≤ s.toks + 1 by omega) (wpAny_bindParams (Q := fun _ s' => InCallC s0 env.locals (bindL env.kindOf ((n, v) :: r) fun _ => none) env.cells (bindC env.kindOf ((n, v) :: r) fun _ => none) s') g hg hk r _ _ _ x1 hr fun s' x2 => ?_)) (fun u s' q => h s' q.1 q.2) fun _ _ z => z.2
  unfold bindL bindC
  rw [if_pos hn, if_pos hn]
  exact x2
theorem newEnv_tok {M : Model} {A : Around} {E : Value → Shared → Prop} {s : Shared} {scope : Scope} {globals : Addr} {n : Str} {v : Value} {r : List (Str × Value)} {qual : Str} {func : Option Addr} {code : Value} {builtins : Addr} {Q : Env → Shared → Prop}
    (hk : scope.kind = .function) (h1 : scope.names.lookup n = some .local)
    (hkind : ∀ x ∈ r, scope.names.lookup x.1 = some .local ∨ (scope.names.lookup x.1 = some .cell ∧ ((cellsFrom (s.heap.objs.size + 1) scope.names []).lookup x.1).isSome = true))
    (hQ : ∀ env, env = newEnv scope s.heap.objs.size globals (cellsFrom (s.heap.objs.size + 1) scope.names []) qual func code none builtins →
      ∀ s', 1 ≤ s'.toks → InCallC s env.locals (bindL env.kindOf ((n, v) :: r) fun _ => none) env.cells (bindC env.kindOf ((n, v) :: r) fun _ => none) s' → Q env s') :
    wpAny M A (newFunctionEnv scope globals [] ((n, v) :: r) qual func code none builtins) Q E s := by
  simp only [newFunctionEnv, Option.isSome_none, Bool.false_eq_true, if_false]
  refine wpAny_bind (wpAny_alloc (wpAny_bind (wpAny_layCells _ (fun name kind cells => by cases e : kind == NameKind.cell <;> simp [e]) _ _ _ _ ?_)))
  have lay := cellsFrom_ok scope.names (s.heap.push { cls := .type "frame", data := .dict #[] }) (s.heap.objs.size + 1) [] ⟨fun _ _ hm => (nomatch hm), List.Pairwise.nil⟩ (by rw [Heap.size_push]; exact Nat.le_refl _)
  rw [Heap.size_push] at lay
  have ez : ({ s with heap := s.heap.push { cls := .type "frame", data := .dict #[] } } : Shared).heap.objs.size = s.heap.objs.size + 1 := Heap.size_push ..
  rw [ez]
  refine wpAny_bind (bind_tok (s0 := s) (env := newEnv scope s.heap.objs.size globals (cellsFrom (s.heap.objs.size + 1) scope.names []) qual func code none builtins) _ (fun _ _ _ => rfl) hk ?_ h1 hkind fun s' ht x => wpAny_pure (hQ _ rfl s' ht x))
  exact ⟨⟨⟨_, _, rfl⟩, (Heap.Ns.new s.heap (.type "frame")).keeps (pushCells_keeps _ _), fun b o e => pushCells_keeps _ _ b o (Heap.get?_push_of_some _ e), Nat.le_refl _⟩, fun m c hc => (lay.empty m c (mem_of_lookup hc)).1, lay.apart, fun m c hm => (lay.empty m c hm).2⟩
/-- a def whose first parameter is a plain local name: a token is out in its body -/
theorem FunD.okL {CX : CXT} {P : Program} {w : World} {K : PySem.W.Frag} {mg : Str → Option Value} {base : Heap} {x qual p : Str} {params : Arguments} {body : List Stmt} {scope : Scope} {dvs : List V} {kws : List (Str × V)} {f : Addr} {fd : FuncData} {N ps : List Str} {k : Nat} {sp : Sp}
    (F : FunD K x qual params body scope dvs kws f fd) (S : FnScope N (p :: ps) scope) (hp : scope.names.lookup p = some .local) (len : ∀ vs H Q E, sp vs H Q E → vs.length = (p :: ps).length)
    (hbody : ∀ (cdv : Value) (A : Around) (outer : List Env) (s : Shared) (H : Hp) (vs : List V) (Q : VK) (E : XK), (∃ (oc : Value) (od : Option Addr) (dV kV doc pm : Value) (an : Option Addr) (ct : Value) (osl : Array (Option Value)), K.lookup f = some ⟨oc, od, .func (PySem.W.fnOf x qual params body scope dV kV doc pm an cdv ct), osl⟩) → PySem.W.codeIn K cdv qual = true → Room k (A.deeper (envOfC qual scope s.heap.objs.size f cdv)) → sp vs H Q E →
      ∃ t, PSsT (cxOf CX P w K mg base N qual scope f cdv A outer s H E) body t ∧ t { nx := fun _ H' => Q .non H', rt := Q } (start N vs) H) : FnOk P w K mg base CX (k + 1) f fd (p :: ps) sp := by
  obtain ⟨oc, od, dV, kV, doc, pm, an, cdv, ct, osl, rfl, lk, hcd, _, _⟩ := F.ex
  refine ⟨len, fun A outer s H args us vs Q E hr e0 hb r hsp => ?_⟩
  have inH : K.In s.heap := e0.mod.kin.keeps fun b o e => (e0.bs b o e).1
  have nl : s.heap.NoLimit := e0.mod.nolimit.keeps fun b o e => (e0.bs b o e).1
  refine codeAny_call_function hr.depth (inH _ _ lk) rfl S.co S.gen rfl (PySem.W.codeRec_of inH hcd) (hb _ _ _ _ ?_)
  have hl := len _ _ _ _ hsp
  cases us with
  | nil =>
    rw [r.length] at hl
    cases hl
  | cons u us =>
    refine newEnv_tok (n := p) (v := u) (r := ps.zip us) S.kind hp (fun y hy => kinds_of S _ (u :: us) y (List.mem_cons_of_mem _ hy)) fun env he s1 ht xx => ?_
    subst he
    exact ⟨nl.keeps xx.toInCall.keep, run_bodyT S hr e0 hl r xx ht (hbody _ _ _ _ _ _ _ _ ⟨_, _, _, _, _, _, _, _, _, lk⟩ hcd (hr.deeper _) hsp)⟩
/-! ### tests and statements, a token out -/
def PTT (X : Cx) (e : Expr) (t : TT) : Prop :=
  ∀ (pins : List (Addr × Obj)) (s : Shared) (σ : L2.St) (H : Hp) (Q : Bool → Hp → Prop), 1 ≤ s.toks → Inv X pins σ H s → t σ H Q → wpAny (model X.prog X.w) X.A (isTrue e X.env (eval e X.env)) (TP X pins σ Q) X.xe s
def PWT (X : Cx) (e : Expr) (t : TT) : Prop :=
  ∀ (whole : Sem Value) (pins : List (Addr × Obj)) (s : Shared) (σ : L2.St) (H : Hp) (Q : Bool → Hp → Prop), 1 ≤ s.toks → Inv X pins σ H s → t σ H Q → wpAny (model X.prog X.w) X.A (isTrue e X.env whole) (TP X pins σ Q) X.xe s
/-- the state grows its tokens -/
theorem thnT {α : Type} {t : Sem α} {Q Q' : α → Shared → Prop} {M : Model} {A : Around} {E : Value → Shared → Prop} {s : Shared} (h0 : 1 ≤ s.toks) (h : wpAny M A t Q E s) (hQ : ∀ a s', 1 ≤ s'.toks → Q a s' → Q' a s') : wpAny M A t Q' E s :=
  wpAny_mono (PySem.wpAny_toks_of h0 h) (fun a s' q => hQ a s' q.1 q.2) fun _ _ z => z.2
section
variable {X : Cx} {a b e : Expr} {rest : List Expr} {te : TE} {tA tB2 : TT} {t u : TS} {pos p : Pos}
theorem PTT.of (h : PT X e tA) : PTT X e tA := fun pins s σ H Q _ I q => h.run pins s σ H Q I q
theorem PWT.ptt (h : PWT X e tA) : PTT X e tA := h _
theorem ptt_val (h : PET X e te) (he : ∀ whole, isTrue e X.env whole = (do let v ← whole; standAt e.pos; holding [v] (truthy v)) := by intro _; rfl) : PTT X e (tB te) := by
  intro pins s σ H Q h0 I hw
  refine isTrue_plain (thn (h pins s σ H _ h0 I hw) fun v s1 q => ?_) (he _)
  obtain ⟨y, H1, I1, r1, d, rfl, q⟩ := q
  cases r1
  exact wpAny_truthy_bool ⟨H1, I1, q⟩
theorem ptt_not (ha : PTT X a tA) : PTT X (.UnaryOp .Not a pos) (tNot tA) := fun pins s σ H Q h0 I h => isTrue_not (ha pins s σ H (fun c H1 => Q (!c) H1) h0 I h)
theorem pwt_or1 (ha : PTT X a tA) : PWT X (.BoolOp .Or [a] pos) tA := by
  intro wh pins s σ H Q h0 I h
  refine isTrue_or (thn (ha pins s σ H Q h0 I h) fun c s1 q => ?_)
  cases c with
  | false => exact isTrue_or_nil q
  | true => exact q
theorem pwt_or (ha : PTT X a tA) (hb : PWT X (.BoolOp .Or (b :: rest) pos) tB2) : PWT X (.BoolOp .Or (a :: b :: rest) pos) (tOr tA tB2) := by
  intro wh pins s σ H Q h0 I h
  refine isTrue_or (thnT h0 (ha pins s σ H _ h0 I h) fun c s1 h1 q => ?_)
  obtain ⟨H1, I1, q1⟩ := q
  cases c with
  | true => exact ⟨H1, I1, q1⟩
  | false => exact hb wh pins s1 σ H1 Q h1 I1 q1
theorem pst_ifT {c : Expr} {sa sb : List Stmt} {tc : TT} (hc : PTT X c tc) (ha : PSsT X sa t) (hb : PSsT X sb u) : PST X (.If c sa sb pos) (tIfS tc t u) := by
  intro pins s σ H D h0 I h
  refine wpAny_If (thnT h0 (hc pins s σ H _ h0 I h) fun d s1 h1 q => ?_)
  obtain ⟨H1, I1, q1⟩ := q
  cases d with
  | true => exact ha pins s1 σ H1 D h1 I1 q1
  | false => exact hb pins s1 σ H1 D h1 I1 q1
theorem psstT_nil : PSsT X [] tNext := PSsT.of pss_nil
theorem psstT_one {st : Stmt} (h : PST X st t) : PSsT X [st] t := psst_cons h psstT_nil
/-- f(e, ..), f wanting a token -/
theorem pet_callT {CX : CXT} {k : Nat} {f : Addr} {fd : FuncData} {ps : List Str} {sp : Sp} {dvs : List V} {ds : List Value} {E : XK} {x : Str} {es : List Expr} {ta : TA} (F : FnOkT X.prog X.w X.K X.mg X.base CX k f fd ps sp) (hr : Room k X.A) (hg : Gl X x) (hm : X.mg x = some (.ref f))
    (hk : PySem.W.keepIn X.K (.ref f) = true) (hb : Binds X.K fd ps ds) (hd : Vals dvs ds) (hx : Passes CX X E) (ha : PA X (e :: es) ta) (hdb : (x == ("__debug__" : Str)) = false := by decide)
    (he : starEach (e :: es) X.env = (false, eval e X.env) :: starEach es X.env := by rfl) (hpl : (backTo pos (starEach es X.env)).any (·.1) = false := by rfl) : PET X (.Call (.Name x p) (e :: es) [] pos) (tCall sp dvs E ta) := by
  intro pins s σ H Q h0 I h
  refine wpAny_Call_Name_kw (ld_glob I hg hm ?_ hdb)
  refine PySem.W.callWith_K (h₀ := X.base) I.ok.mod.kin hk (thnT h0 (ha.run pos pins s σ H _ I h) fun us s1 h1 ⟨vs, H1, I1, r, q⟩ => ⟨I1.kIn, ?_⟩) he hpl
  have r2 : Vals (vs ++ dvs) (us ++ ds) := r.append hd
  have hl : (us ++ ds).length = ps.length := r2.length ▸ F.len _ _ _ _ q
  refine wpAny_call (codeAny_mono (F.run X.A X.stack s1 H1 ⟨us, []⟩ (us ++ ds) (vs ++ dvs) Q E h1 hr I1.env0 (hb s1 us I1.kIn hl) r2 q) fun res s2 hq => ?_)
  cases res with
  | error er => exact hx pins σ H1 s1 er s2 I1 hq
  | ok fl =>
    cases fl with
    | ret v => exact I1.after hq
    | next => exact False.elim hq
    | brk => exact False.elim hq
    | cont => exact False.elim hq
/-- for, its body wanting a token -/
theorem pst_forT {tg iter : Expr} {body : List Stmt} {wi : TI} {g : TG} {tb : TS} (hp : PassesOwn (model X.prog X.w) X.A X.env X.xe) (hc : X.calm = true) (hi : PI X tg iter wi) (hg : PG X tg g) (hb : PSsT X body tb)
    (hs : ∀ x, foldedSetIterable iter X.env x = pure x := by intro _; rfl) : PST X (.For tg iter body [] pos) (tFor wi g tb) := by
  intro pins s σ H D h0 I h
  refine wpAny_For (thnT h0 (hi.run pins s σ H _ I h) fun v sa ha h1 => thnT ha h1 fun itv sb hb2 h2 => ?_) hs
  obtain ⟨it, fp, tn, Jf, Hb, e, Ib, T, stb, fb, W, ⟨n0, wn0⟩, turn⟩ := h2
  subst e
  have fix : ∀ {G : Hp}, (∀ c ∈ fp, G c = none) → ∀ c ∈ fp, FpOk X pins G c := fun hn c hcm => ⟨hn c hcm, (fb c hcm).2⟩
  refine codeAny_forLoop_any (fun n s' => 1 ≤ s'.toks ∧ ∃ i τ G, Inv X pins τ G s' ∧ tn i s'.heap ∧ (∀ c ∈ fp, G c = none) ∧ W i n τ G) ?_ n0 ⟨hb2, 0, σ, Hb, Ib, stb, fun c hcm => (fb c hcm).1, wn0⟩
  rintro n sc ⟨hto, i, τ, G, Ic, stc, frc, wc⟩
  rcases turn i n τ G wc with ⟨stop, qn⟩ | ⟨go, N, hN, step⟩
  · refine wpAny_passesOwn hp (thn (T.done X rfl rfl rfl hc i pins sc τ G X.xe Ic (fix frc) stc stop) fun r sd hd => ?_)
    obtain ⟨rfl, Id⟩ := hd
    exact wpAny_execs_nil ⟨τ, G, Id, qn⟩
  · refine wpAny_passesOwn hp (thnT hto (T.item X rfl rfl rfl hc i pins sc τ G X.xe Ic (fix frc) stc go) fun r sd td hd => ?_)
    obtain ⟨w, rfl, hd⟩ := hd
    refine wpAny_passesOwn hp (thnT td hd fun _ se te he => ?_)
    obtain ⟨y, Ge, Ie, re, ye, ste, fre⟩ := he
    have Ip := Ie.pinned (fix fre) (T.obj _ _ ste)
    refine wpAny_passesOwn hp (thnT te (hg.run _ se τ Ge y w _ Ip re (step y Ge ye)) fun _ sf tf hf => ?_)
    obtain ⟨τf, Gf, If, qf⟩ := hf
    refine wpAny_passesOwn hp (thnT tf (hb _ sf τf Gf _ tf If qf) fun fl sg tg2 qg => ?_)
    have back : ∀ {τg : L2.St} {Gg : Hp}, Inv X (pins ++ pinsAt fp se.heap) τg Gg sg → N τg Gg → ∃ m, m < n ∧ (1 ≤ sg.toks ∧ ∃ i τ' G', Inv X pins τ' G' sg ∧ tn i sg.heap ∧ (∀ c ∈ fp, G' c = none) ∧ W i m τ' G') := fun {τg Gg} Ig ng => by
      obtain ⟨m, hm, wm⟩ := hN τg Gg ng
      have pinned : ∀ c ∈ fp, ∀ o, se.heap.get? c = some o → sg.heap.get? c = some o ∧ Gg c = none := fun c hcm o eo => by
        have z := Ig.pin (c, o) (List.mem_append_right _ (List.mem_append_right _ (mem_pinsAt hcm eo)))
        exact ⟨z.1, z.2.1⟩
      refine ⟨m, hm, tg2, i + 1, τg, Gg, Ig.unpinned, T.keep _ _ _ ste fun c hcm o eo => (pinned c hcm o eo).1, fun c hcm => ?_, wm⟩
      obtain ⟨o, eo, _⟩ := T.obj _ _ ste c hcm
      exact (pinned c hcm o eo).2
    cases fl with
    | next =>
      obtain ⟨τg, Gg, Ig, ng⟩ := qg
      exact back Ig ng
    | cont =>
      obtain ⟨τg, Gg, Ig, ng⟩ := qg
      exact back Ig ng
    | brk =>
      obtain ⟨τg, Gg, Ig, qz⟩ := qg
      exact ⟨τg, Gg, Ig.unpinned, qz⟩
    | ret v =>
      obtain ⟨xv, τg, Gg, Ig, rv, qz⟩ := qg
      exact ⟨xv, τg, Gg, Ig.unpinned, rv, qz⟩
end
end Own
set_option Elab.async false
set_option linter.all false
set_option maxRecDepth 100000
set_option maxHeartbeats 400000
namespace Own
open PySem PySem.Spec PyProof.Rows L2 LamX
/-! ### a law that asks for the repr of lists: nothing is being written at its call -/
/-- a def's promise, kept where no repr is under way at its call -/
structure FnOkG (P : Program) (w : World) (K : PySem.W.Frag) (mg : Str → Option Value) (base : Heap) (CX : CXT) (k : Nat) (f : Addr) (fd : FuncData) (ps : List Str) (sp : Sp) : Prop where
  len : ∀ vs H Q E, sp vs H Q E → vs.length = ps.length
  run : ∀ (A : Around) (outer : List Env) (s : Shared) (H : Hp) (args : Args) (us : List Value) (vs : List V) (Q : VK) (E : XK), A.guards = some [] → Room k A → Env0 P w K mg base A outer s H → BindsTo s fd args (ps.zip us) → Vals vs us → sp vs H Q E →
    codeAny (model P w) A (.call (.ref f) args) (CR CX outer P w H s Q E) s
theorem FunD.okG {CX : CXT} {P : Program} {w : World} {K : PySem.W.Frag} {mg : Str → Option Value} {base : Heap} {x qual p : Str} {params : Arguments} {body : List Stmt} {scope : Scope} {dvs : List V} {kws : List (Str × V)} {f : Addr} {fd : FuncData} {N ps : List Str} {k : Nat} {sp : Sp}
    (F : FunD K x qual params body scope dvs kws f fd) (S : FnScope N (p :: ps) scope) (hp : scope.names.lookup p = some .local) (len : ∀ vs H Q E, sp vs H Q E → vs.length = (p :: ps).length)
    (hbody : ∀ (cdv : Value) (A : Around) (outer : List Env) (s : Shared) (H : Hp) (vs : List V) (Q : VK) (E : XK), (∃ (oc : Value) (od : Option Addr) (dV kV doc pm : Value) (an : Option Addr) (ct : Value) (osl : Array (Option Value)), K.lookup f = some ⟨oc, od, .func (PySem.W.fnOf x qual params body scope dV kV doc pm an cdv ct), osl⟩) → PySem.W.codeIn K cdv qual = true → (A.deeper (envOfC qual scope s.heap.objs.size f cdv)).guards = some [] →
      Room k (A.deeper (envOfC qual scope s.heap.objs.size f cdv)) → sp vs H Q E → ∃ t, PSsT (cxOf CX P w K mg base N qual scope f cdv A outer s H E) body t ∧ t { nx := fun _ H' => Q .non H', rt := Q } (start N vs) H) : FnOkG P w K mg base CX (k + 1) f fd (p :: ps) sp := by
  obtain ⟨oc, od, dV, kV, doc, pm, an, cdv, ct, osl, rfl, lk, hcd, _, _⟩ := F.ex
  refine ⟨len, fun A outer s H args us vs Q E hg hr e0 hb r hsp => ?_⟩
  have inH : K.In s.heap := e0.mod.kin.keeps fun b o e => (e0.bs b o e).1
  have hl := len _ _ _ _ hsp
  refine codeAny_call_function hr.depth (inH _ _ lk) rfl S.co S.gen rfl (PySem.W.codeRec_of inH hcd) (hb _ _ _ _ ?_)
  match us, r.length with
  | [], z => rw [z] at hl; cases hl
  | u :: us, _ =>
    refine newEnv_tok (n := p) (v := u) (r := ps.zip us) S.kind hp (fun y hy => kinds_of S _ (u :: us) y (List.mem_cons_of_mem _ hy)) fun env he s1 ht xx => ?_
    subst he
    exact ⟨(e0.mod.nolimit.keeps fun b o e => (e0.bs b o e).1).keeps xx.toInCall.keep, run_bodyT S hr e0 hl r xx ht (hbody _ _ _ _ _ _ _ _ ⟨_, _, _, _, _, _, _, _, _, lk⟩ hcd hg (hr.deeper _) hsp)⟩
/-! ### the end -/
section
variable {P : Program} {w : World} {K : PySem.W.Frag} {mg mb : Str → Option Value} {a : Addr} {T : List Addr} {h : Heap} {vs : List Value} {ns : List Int}
/-- the abstract heap at the law's call: the tables, and the script where it is not written -/
def H0 (K : PySem.W.Frag) (T : List Addr) (a : Addr) (vs : List Value) (ns : List Int) : Hp := fun b =>
  if b ∈ T then some (.tbl #[]) else if b = a ∧ K.lookup b = none then some (.frz { cls := .type "list", data := .seq vs.toArray } (.lst (ns.map V.int))) else none
theorem H0_tab {b : Addr} (hb : b ∈ T) : H0 K T a vs ns b = some (.tbl #[]) := if_pos hb
theorem H0_cases (b : Addr) : (b ∈ T ∧ H0 K T a vs ns b = some (.tbl #[])) ∨ (b ∉ T ∧ b = a ∧ K.lookup b = none ∧ H0 K T a vs ns b = some (.frz { cls := .type "list", data := .seq vs.toArray } (.lst (ns.map V.int)))) ∨ (b ∉ T ∧ ¬ (b = a ∧ K.lookup b = none) ∧ H0 K T a vs ns b = none) := by
  by_cases m : b ∈ T
  · exact .inl ⟨m, if_pos m⟩
  · by_cases e : b = a ∧ K.lookup b = none
    · exact .inr (.inl ⟨m, e.1, e.2, (if_neg m).trans (if_pos e)⟩)
    · exact .inr (.inr ⟨m, e, (if_neg m).trans (if_neg e)⟩)
/-- what is neither a plain list nor an empty record is not tracked -/
theorem H0_off {b : Addr} {o : Obj} (tab : ∀ b ∈ T, h.get? b = some { cls := .none, data := .fields #[] }) (ha : h.get? a = some { cls := .type "list", data := .seq vs.toArray }) (e : h.get? b = some o) (n1 : ∀ vs n, o.data ≠ .seq vs n) (n2 : o.data ≠ .fields #[]) : H0 K T a vs ns b = none := by
  rcases H0_cases (K := K) (T := T) (a := a) (vs := vs) (ns := ns) b with ⟨m, _⟩ | ⟨_, rfl, _, _⟩ | ⟨_, _, q⟩
  · have := e.symm.trans (tab b m)
    cases this
    exact absurd rfl n2
  · have := e.symm.trans ha
    cases this
    exact absurd rfl (n1 _ _)
  · exact q
theorem H0_ok (tab : ∀ b ∈ T, h.get? b = some { cls := .none, data := .fields #[] }) (ha : h.get? a = some { cls := .type "list", data := .seq vs.toArray }) (hi : IntsAre vs ns) (hl : ns.length ≤ sizeLine) : HOk P w (H0 K T a vs ns) h := by
  intro b u z
  rcases H0_cases (K := K) (T := T) (a := a) (vs := vs) (ns := ns) b with ⟨m, q⟩ | ⟨_, rfl, _, q⟩ | ⟨_, _, q⟩
  · cases q.symm.trans z
    exact tab b m
  · cases q.symm.trans z
    exact ⟨ha, by rw [List.length_map]; exact hl, vs, _, vals_ints hi, ha⟩
  · cases q.symm.trans z
theorem H0_list (nT : ∀ b ∈ T, h.get? b = some { cls := .none, data := .fields #[] }) (KX : K.In h) (ha : h.get? a = some { cls := .type "list", data := .seq vs.toArray }) (hi : IntsAre vs ns) (hl : ns.length ≤ sizeLine) : SqL K (H0 K T a vs ns) a (ns.map V.int) := by
  cases hk : K.lookup a with
  | some o =>
    cases (KX a o hk).symm.trans ha
    exact .inr ⟨_, vs.toArray, _, hk, rfl, rfl, rfl, by rw [List.size_toArray, hi.length]; exact hl, by simpa using vals_ints hi⟩
  | none =>
    have m : a ∉ T := fun m => by
      have := ha.symm.trans (nT a m)
      cases this
    exact .inl (.inr ⟨_, (if_neg m).trans (if_pos ⟨rfl, hk⟩)⟩)
end
section
variable {P : Program} {w : World} {K : PySem.W.Frag} {mg mb : Str → Option Value} {CX : CXT} {k : Nat} {fa a : Addr} {cs : List (Addr × Addr)} {fd : FuncData} {x : Str} {sp : Sp} {s₁ : Shared} {vs : List Value} {ns : List Int}
theorem law_callG (KX : K.In s₁.heap) (hns : s₁.heap.Ns mainGlobals mg) (hb : s₁.heap.Ns builtinsNs mb) (hbb : ∀ x : Str, x ≠ "__name__" → mb x = bootBuiltins x) (hlim : s₁.heap.NoLimit) (hg : s₁.gens = #[])
    (hT : ∀ p ∈ cs, s₁.heap.get? p.2 = some { cls := .none, data := .fields #[] }) (nT : ∀ p ∈ cs, K.lookup p.2 = none) (C : ∀ p ∈ cs, PySem.W.CodeHd s₁.heap p.1 p.2)
    (hbm : ∃ (bm : Addr) (ob : Obj), mg "__builtins__" = some (.ref bm) ∧ bm ≠ builtinsNs ∧ s₁.heap.get? bm = some ob ∧ ob.cls = .type "module" ∧ ob.dict = some builtinsNs ∧ ob.data = .plain)
    (ha : s₁.heap.get? a = some { cls := .type "list", data := .seq vs.toArray }) (hi : IntsAre vs ns) (hl : ns.length ≤ sizeLine) (hr : Room k callerA)
    (F : ∀ base : Heap, K.In base → base.Ns mainGlobals mg → (∀ p ∈ cs, TabB base mg p.1 p.2) → FnOkG P w K mg base CX k fa fd [x] sp) (hbind : ∀ (s : Shared) (u : Value), BindsTo s fd ⟨[u], []⟩ [(x, u)])
    (hsp : ∀ H : Hp, (∀ p ∈ cs, H p.2 = some (.tbl #[])) → SqL K H a (ns.map V.int) → sp [.ref a] H (fun v _ => v = .bl true) fun _ _ _ => False) (hCX : ∀ H e s', CX [] H s₁ (fun _ _ _ => False) e s' → False) :
    codeAny (model P w) callerA (.call (.ref fa) ⟨[.ref a], []⟩) (fun r s' => r = .ok (.ret (.bool true)) ∧ OldK s₁.heap s'.heap ∧ s'.os = s₁.os ∧ AllBare s'.gens) s₁ := by
  have tab : ∀ b ∈ cs.map (·.2), s₁.heap.get? b = some { cls := .none, data := .fields #[] } := fun b m => by
    obtain ⟨p, hp, rfl⟩ := List.mem_map.mp m
    exact hT p hp
  have here : ∀ p ∈ cs, H0 K (cs.map (·.2)) a vs ns p.2 = some (.tbl #[]) := fun p hp => H0_tab (List.mem_map.mpr ⟨p, hp, rfl⟩)
  have off : ∀ {b : Addr} {o : Obj}, s₁.heap.get? b = some o → (∀ vs n, o.data ≠ .seq vs n) → o.data ≠ .fields #[] → H0 K (cs.map (·.2)) a vs ns b = none := fun e n1 n2 => H0_off tab ha e n1 n2
  have kin : ∀ b o, K.lookup b = some o → H0 K (cs.map (·.2)) a vs ns b = none := fun b o e => by
    rcases H0_cases (K := K) (T := cs.map (·.2)) (a := a) (vs := vs) (ns := ns) b with ⟨m, _⟩ | ⟨_, _, n, _⟩ | ⟨_, _, q⟩
    · obtain ⟨p, hp, rfl⟩ := List.mem_map.mp m
      rw [nT p hp] at e
      cases e
    · rw [n] at e
      cases e
    · exact q
  have hok : HOk P w (H0 K (cs.map (·.2)) a vs ns) s₁.heap := H0_ok tab ha hi hl
  have old : ∀ {b : Addr} {o : Obj}, s₁.heap.get? b = some o → H0 K (cs.map (·.2)) a vs ns b ≠ none → (∃ p ∈ cs, b = p.2) ∨ ∃ ob xs, H0 K (cs.map (·.2)) a vs ns b = some (.frz ob (.lst xs)) := fun {b o} _ ne => by
    rcases H0_cases (K := K) (T := cs.map (·.2)) (a := a) (vs := vs) (ns := ns) b with ⟨m, _⟩ | ⟨_, _, _, q⟩ | ⟨_, _, q⟩
    · obtain ⟨p, hp, e⟩ := List.mem_map.mp m
      exact .inl ⟨p, hp, e.symm⟩
    · exact .inr ⟨_, _, q⟩
    · exact absurd q ne
  have lst := H0_list (K := K) (T := cs.map (·.2)) tab KX ha hi hl
  generalize H0 K (cs.map (·.2)) a vs ns = H at here off kin hok old lst
  have dic : ∀ {b : Addr} {m : Str → Option Value}, s₁.heap.Ns b m → (hidT s₁.heap H).Ns b m := fun {b m} z => by
    obtain ⟨o, es, ep, e, d, r⟩ := z
    exact ⟨o, es, ep, hidT_get e (off e (fun _ _ q => by rw [d] at q; cases q) fun q => by rw [d] at q; cases q), d, r⟩
  have kb : K.In (hidT s₁.heap H) := fun b o e => hidT_get (KX b o e) (kin b o e)
  have lim : (hidT s₁.heap H).NoLimit := by
    obtain ⟨mc, h1, h2⟩ := hlim
    exact ⟨mc, dic h1, h2⟩
  have tabs : ∀ p ∈ cs, TabB (hidT s₁.heap H) mg p.1 p.2 := fun p hp => by
    refine ⟨?_, ?_, fun z => ?_⟩
    · obtain ⟨o, us, file, tf, flags, tg, inF, text, tt, e1, r1, r2, r3, rs⟩ := C p hp
      refine ⟨o, us, file, tf, flags, tg, inF, text, tt, hidT_get e1 (off e1 (fun _ _ q => by rw [r2] at q; cases q) fun q => ?_), r1, r2, r3, rs⟩
      rw [r2] at q
      cases q
      simp at r3
    · obtain ⟨bm, ob, b1, b2, b3, b4, b5, b6⟩ := hbm
      refine ⟨bm, ob, b1, b2, fun q => ?_, fun q => ?_, hidT_get b3 (off b3 (fun _ _ q => by rw [b6] at q; cases q) fun q => by rw [b6] at q; cases q), b4, b5, b6⟩
      · obtain ⟨o, es, ep, e, hd, _⟩ := hns
        rw [q, e] at b3
        cases b3
        rw [hd] at b6
        cases b6
      · rw [q, hT p hp] at b3
        cases b3
        cases b6
    · obtain ⟨o, es, ep, e, hd, _⟩ := hns
      rw [z, hT p hp] at e
      cases e
      cases hd
  have env : Env0 P w K mg (hidT s₁.heap H) callerA [] s₁ H :=
    { frames := rfl, mod := ⟨kb, dic hns, ⟨mb, dic hb, hbb⟩, lim⟩, bs := fun b o e => of_hidT e, bsz := Nat.le_of_eq (hidT_size _ _), funs := trivial, frf := (fun b m => by cases m), hok := hok, bare := .of_eq hg }
  refine codeAny_mono ((F _ kb (dic hns) tabs).run callerA [] s₁ H ⟨[.ref a], []⟩ [.ref a] [.ref a] _ _ rfl hr env (hbind s₁ (.ref a)) (.cons rfl .nil) (hsp H here lst)) fun r s' z => ?_
  match r, z with
  | .error e, z => exact (hCX H e s' z).elim
  | .ok .next, z => exact False.elim z
  | .ok .brk, z => exact False.elim z
  | .ok .cont, z => exact False.elim z
  | .ok (.ret u), z =>
    obtain ⟨v, H', os, bare, un, hok', ru, rfl⟩ := z
    cases ru
    have more : ∀ p ∈ cs, ∃ m : Array Value, s'.heap.get? p.2 = some { cls := .none, data := .fields m } := fun p hp => by
      obtain ⟨m, z⟩ := un.tbls p.2 #[] (here p hp)
      exact ⟨_, hok' p.2 _ z⟩
    have rest : ∀ b o, s₁.heap.get? b = some o → (∀ p ∈ cs, b ≠ p.2) → s'.heap.get? b = some o := fun b o e nb => by
      by_cases q : H b = none
      · exact un.keep b o e q (by intro z; cases z) (by intro z; cases z)
      · rcases old e q with ⟨p, hp, z⟩ | ⟨ob, xs, z⟩
        · exact absurd z (nb p hp)
        · have z1 := (hok b _ z).1
          cases z1.symm.trans e
          exact (hok' b _ (un.frzs b _ _ z)).1
    refine ⟨rfl, ⟨fun b o e => ?_, fun b o e => ?_⟩, os, bare⟩
    · by_cases q : ∃ p ∈ cs, b = p.2
      · obtain ⟨p, hp, rfl⟩ := q
        obtain ⟨m, hm⟩ := more p hp
        cases (hT p hp).symm.trans e
        exact .inr (.inl ⟨((C p hp).tab (hT p hp)).isCodeTable, rfl, #[], m, rfl, by rw [Array.empty_append]; exact hm⟩)
      · exact .inl (rest b o e fun p hp z => q ⟨p, hp, z⟩)
    · by_cases q : ∃ p ∈ cs, b = p.2
      · obtain ⟨p, hp, rfl⟩ := q
        obtain ⟨m, hm⟩ := more p hp
        exact ⟨_, hm⟩
      · exact ⟨o, rest b o e fun p hp z => q ⟨p, hp, z⟩⟩
/-- what is known of the law's promise at the head's heap -/
def LawAtG (l : PySem.W.OpenLaw) (w : World) (K : PySem.W.Frag) (CX : CXT) (k n : Nat) (x : Str) (mg : Str → Option Value) (fa : Addr) (h : Heap) : Prop :=
  ∃ (fd : FuncData) (cs : List (Addr × Addr)) (sp : Sp), (∀ p ∈ cs, h.get? p.2 = some { cls := .none, data := .fields #[] }) ∧ (∀ p ∈ cs, K.lookup p.2 = none) ∧ (∀ p ∈ cs, PySem.W.CodeHd h p.1 p.2) ∧ (∀ (s : Shared) (u : Value), BindsTo s fd ⟨[u], []⟩ [(x, u)]) ∧
    (∀ (H : Hp) (a : Addr) (ns : List Int), ns.length ≤ n → (∀ z ∈ ns, Builtin.Int.intBits z ≤ 1048576) → (∀ p ∈ cs, H p.2 = some (.tbl #[])) → SqL K H a (ns.map V.int) → sp [.ref a] H (fun v _ => v = .bl true) fun _ _ _ => False) ∧
    ∀ base : Heap, K.In base → base.Ns mainGlobals mg → (∀ p ∈ cs, TabB base mg p.1 p.2) → FnOkG l.prog w K mg base CX k fa fd [x] sp
theorem walk_ofG {l : PySem.W.OpenLaw} {n k : Nat} {q : Program} {loose : List Str} {XP : (Str → Option Value) → Heap → Prop} {YP : World → Heap → Prop} {d : DefRec} {CX : World → CXT} {x : Str} (hn : l.most = some n) (hn2 : n ≤ sizeLine) (hdf : d.params.defaults = []) (hr : Room k callerA)
    (F : ∀ (w : World) (mg : Str → Option Value) (fa : Addr) (h : Heap), YP w h → h.Ns mainGlobals mg → mg d.name = some (.ref fa) → ∃ K : PySem.W.Frag, K.In h ∧ LawAtG l w K (CX w) k n x mg fa h)
    (hCX : ∀ (w : World) (H : Hp) (s : Shared) (e : Value) (s' : Shared), CX w [] H s (fun _ _ _ => False) e s' → False) : PySem.W.WalkO q loose XP YP l.row.toRowW d [] (fun f vs => PySem.call f vs) := by
  refine Att.attach_callB hn hdf fun w s₀ s₁ mg mb fa o pm cd doc a vs ns G Y ho hd hcd hmg hobj hints hlen hbits hg => ?_
  obtain ⟨K, KX, fd, cs, sp, hT, nT, C, hb, hsp, hF⟩ := F w mg fa _ Y G.T.g hmg
  exact law_callG KX G.T.g G.T.b G.T.builtins G.T.nolimit hg hT nT C G.T.bmain hobj hints (Nat.le_trans hlen hn2) hr hF hb (fun H hH hS => hsp H a ns hlen hbits hH hS) fun H e s' => hCX w H s₁ e s'
end
end Own
set_option Elab.async false
set_option linter.all false
set_option maxRecDepth 100000
set_option maxHeartbeats 400000
namespace L2
open PySem PySem.Spec PyProof.Rows
/-! ### repr -/
/-- the text of a flat value -/
def flatT : V → Option Str
  | .non => some "None"
  | .bl b => some (if b then "True" else "False")
  | .int i => some (toString i)
  | _ => none
/-- repr of None, a truth value, a number -/
def rRepr0 : List V → Hp → VK → Prop := fun vs H Q => ∃ (x : V) (z : Str), vs = [x] ∧ flatT x = some z ∧ (∀ i, x = .int i → i.natAbs.log2 < 1920) ∧ Q (.str z) H
/-- repr of data of any depth, nothing being written just now -/
def rReprD (K : PySem.W.Frag) : List V → Hp → VK → Prop := fun vs H Q => ∃ (a : Addr) (d : PyData), vs = [.ref a] ∧ Dp K H (.ref a) d ∧ d.showable = true ∧ d.hasDict = false ∧ d.depth ≤ 64 ∧ d.shown.length ≤ sizeLine ∧ Q (.str d.shown) H
section
variable {X : Cx}
theorem call_repr0 : CallR X (.builtin "repr") rRepr0 := by
  intro pins s σ H xs us Q I r h
  obtain ⟨x, z, rfl, hz, hi, q⟩ := h
  obtain ⟨u, rfl, ru⟩ := vals1 r
  cases x with
  | non =>
    cases ru
    cases hz
    exact P.repr_of_none ⟨.str _, H, I.tok _, ⟨_, rfl⟩, q⟩
  | bl b =>
    cases ru
    cases hz
    exact P.repr_of_bool ⟨.str _, H, I.tok _, ⟨_, rfl⟩, q⟩
  | int i =>
    obtain ⟨t, rfl⟩ := ru
    cases hz
    exact P.repr_of_int (hi i rfl) ⟨.str _, H, I.tok _, ⟨_, rfl⟩, q⟩
  | str _ => cases hz
  | byt _ => cases hz
  | flt _ => cases hz
  | ref _ => cases hz
  | ty _ => cases hz
theorem call_reprD (hg : X.A.guards = some []) (hu : X.A.units + 100 < cLine) : CallR X (.builtin "repr") (rReprD X.K) := by
  intro pins s σ H xs us Q I r h
  obtain ⟨a, d, rfl, hd, h1, h2, h3, h4, q⟩ := h
  obtain ⟨u, rfl, ru⟩ := vals1 r
  cases ru
  obtain ⟨as, rd⟩ := Dp.reads I d _ _ hd rfl
  exact repr_of_reads' rd h1 (PyData.noDict_hsm h2) hg (by omega) (fun _ _ e => e) (fun h' u tk hk => ⟨.str _, H, I.kept (t' := tk) hk, ⟨u, rfl⟩, q⟩) h4
end
end L2
set_option Elab.async false
set_option linter.all false
set_option maxRecDepth 100000
set_option maxHeartbeats 400000
namespace Own
open PySem PySem.Spec PyProof.Rows L2 LamX
/-! ### the law's own judge of names; repr of any value; calls where no repr is under way -/
/-- repr of data -/
def rReprA (K : PySem.W.Frag) : List V → Hp → VK → Prop := fun vs H Q => ∃ (x : V) (d : PyData), vs = [x] ∧ Dp K H x d ∧ d.showable = true ∧ d.hasDict = false ∧ d.depth ≤ 64 ∧ d.shown.length ≤ sizeLine ∧ Q (.str d.shown) H
section
variable {X : Cx}
theorem call_reprA (hg : X.A.guards = some []) (hu : X.A.units + 100 < cLine) : CallR X (.builtin "repr") (rReprA X.K) := by
  intro pins s σ H xs us Q I r h
  obtain ⟨x, d, rfl, hd, h1, h2, h3, h4, q⟩ := h
  obtain ⟨u, rfl, ru⟩ := vals1 r
  cases hd with
  | non =>
    cases ru
    exact P.repr_of_none ⟨.str _, H, I.tok _, ⟨_, rfl⟩, q⟩
  | bl b =>
    cases ru
    exact P.repr_of_bool ⟨.str _, H, I.tok _, ⟨_, rfl⟩, q⟩
  | int i =>
    obtain ⟨t, rfl⟩ := ru
    exact P.repr_of_int (of_decide_eq_true h1) ⟨.str _, H, I.tok _, ⟨_, rfl⟩, q⟩
  | str z =>
    obtain ⟨t, rfl⟩ := ru
    exact P.repr_of_str (hsz := h4) ⟨.str _, H, I.tok _, ⟨_, rfl⟩, q⟩
  | lst a b =>
    obtain ⟨as, rd⟩ := Dp.reads I _ _ _ (Dp.lst a b) ru
    cases ru
    exact repr_of_reads' rd h1 (PyData.noDict_hsm h2) hg (by omega) (fun _ _ e => e) (fun h' u tk hk => ⟨.str _, H, I.kept (t' := tk) hk, ⟨u, rfl⟩, q⟩) h4
  | tup a b =>
    obtain ⟨as, rd⟩ := Dp.reads I _ _ _ (Dp.tup a b) ru
    cases ru
    exact repr_of_reads' rd h1 (PyData.noDict_hsm h2) hg (by omega) (fun _ _ e => e) (fun h' u tk hk => ⟨.str _, H, I.kept (t' := tk) hk, ⟨u, rfl⟩, q⟩) h4
end
section
variable {X : Cx} {CX : CXT} {k : Nat} {f : Addr} {fd : FuncData} {ps : List Str} {sp : Sp} {E : XK} {x : Str} {p pos : Pos} {e : Expr} {es : List Expr} {t : TA}
/-- such a callee runs -/
theorem fnG_run {pins : List (Addr × Obj)} {σ : L2.St} {H : Hp} {s : Shared} {Q : VK} {us : List Value} {vs : List V} (F : FnOkG X.prog X.w X.K X.mg X.base CX k f fd ps sp) (gd : X.A.guards = some []) (room : Room k X.A) (hb : Binds X.K fd ps []) (pass : Passes CX X E) (I : Inv X pins σ H s) (r : Vals vs us) (h : sp vs H Q E) :
    wpAny (model X.prog X.w) X.A (call (.ref f) us) (EP X pins σ Q) X.xe s := by
  have hb' := hb s us I.kIn (by rw [List.append_nil, ← r.length]; exact F.len _ _ _ _ h)
  rw [List.append_nil] at hb'
  refine wpAny_call (codeAny_mono (F.run X.A X.stack s H ⟨us, []⟩ us vs Q E gd room I.env0 hb' r h) ?_)
  rintro (err | fl) s' hq
  · exact pass pins σ H s err s' I hq
  · cases fl with
    | ret u => exact I.after hq
    | _ => exact False.elim hq
theorem pe_callG (F : FnOkG X.prog X.w X.K X.mg X.base CX k f fd ps sp) (gd : X.A.guards = some []) (room : Room k X.A) (hg : Gl X x) (hm : X.mg x = some (.ref f)) (hk : PySem.W.keepIn X.K (.ref f) = true) (hb : Binds X.K fd ps []) (pass : Passes CX X E)
    (ha : PA X (e :: es) t) (hdb : (x == ("__debug__" : Str)) = false := by decide) (he : starEach (e :: es) X.env = (false, eval e X.env) :: starEach es X.env := by rfl) (hpl : (backTo pos (starEach es X.env)).any (·.1) = false := by rfl) :
    PE X (.Call (.Name x p) (e :: es) [] pos) (tCall sp [] E t) := by
  constructor
  intro pins s σ H Q I h
  refine wpAny_Call_Name_kw (ld_glob I hg hm (PySem.W.callWith_K (h₀ := X.base) I.ok.mod.kin hk (thn (ha.run pos pins s σ H _ I h) fun us s1 z => ?_) he hpl) hdb)
  obtain ⟨vs, H1, I1, r, q⟩ := z
  rw [List.append_nil] at q
  exact ⟨I1.kIn, fnG_run F gd room hb pass I1 r q⟩
end
end Own
set_option Elab.async false
set_option linter.all false
set_option maxRecDepth 100000
set_option maxHeartbeats 400000
namespace Own
open PySem PySem.Spec PyProof.Rows L2 LamX
/-! ### the law's own judge of deeds -/
theorem PSsT.nox {X : Cx} {st : List Stmt} {t : TS} (h : PSsT X.nox st t) : PSsT X st t := fun pins s σ H D h0 I hw =>
  wpAny_mono (h pins s σ H D h0 (I.wish _) hw) (fun _ _ q => q.unwish) fun _ _ z => False.elim z
/-- an item whose repr is that of a way only if it is one -/
def lastB (e : PyData) : Bool := e.showable && (decide (e.shown.length ≤ 100) && ((e.shown == "1" || e.shown == "2") == wayB e))
def LastAll (d : PyData) : Prop := ∀ ds, d = .tuple ds → ∀ e ∈ ds, lastB e = true
def spDeedDue : Sp := fun vs H Q _ => ∃ (x : V) (d : PyData), vs = [x] ∧ Dq [] H x d ∧ vdb d = true ∧ LastAll d ∧ ∀ H', Same H H' → Q (.bl (deedB d)) H'
theorem vdb_of {d : PyData} (h : gdb d = true) : vdb d = true := by
  unfold vdb
  rw [h, Bool.or_true]
theorem fk_get {wd : Str} : (∃ q, FORM.lookup wd = some q ∧ valV FK (Sum.inr wd) = some (.int q.1)) ∨ (FORM.lookup wd = none ∧ valV FK (Sum.inr wd) = none) := by
  cases e : FORM.lookup wd with
  | some q => exact .inl ⟨q, rfl, fk_look _ (look_mem e)⟩
  | none =>
    refine .inr ⟨rfl, ?_⟩
    cases e2 : valV FK (Sum.inr wd) with
    | none => rfl
    | some v =>
      exfalso
      have m := valV_in e2
      obtain ⟨t, ht, et⟩ := List.mem_map.mp (show Sum.inr wd ∈ FK.map (·.1) from m)
      obtain ⟨t2, ht2, rfl⟩ := List.mem_map.mp ht
      have : t2.1 = wd := by
        have := et
        injection this
      have q := form_look _ ht2
      rw [this, e] at q
      cases q
theorem way_form {m kk : Nat} {wd : Str} (h : (wd, m, kk) ∈ FORM) : decide (wd ∈ WAYS) = (kk == 1) := fk_way _ h
section
variable {P : Program} {w : World} {K : PySem.W.Frag} {mg : Str → Option Value} {base : Heap} {f : Addr} {fd2 dN dF dH : FuncData}
theorem form_two : ∀ t ∈ FORM, 2 ≤ t.2.1 := by decide +kernel
theorem deed_short {ds : List PyData} (h : ds.length < 3) : deedB (.tuple ds) = false := by
  cases e : deedB (.tuple ds) with
  | false => rfl
  | true =>
    exfalso
    obtain ⟨d, e2, m, k, hm, nm, _⟩ := deedB_ok e
    have e3 : ds = d.pys := by injection e2
    have := form_two _ hm
    have l : d.pys.length = 1 + d.names.length + d.way.length := by
      unfold Deed.pys
      rw [List.length_cons, List.length_append, List.length_map, List.length_map]
      omega
    rw [e3, l] at h
    have h2 : 2 ≤ m := this
    omega
end
end Own
set_option Elab.async false
set_option linter.all false
set_option maxRecDepth 100000
set_option maxHeartbeats 400000
namespace Own
open PySem PySem.Spec PyProof.Rows L2 LamX
/-! ### lists of unlike names -/
def namesG : List Str → List PyData → Bool
  | _, [] => true
  | kn, d :: r => match d with
    | .str z => if NameOk z ∧ z ∉ kn then namesG (kn ++ [z]) r else false
    | _ => false
def namesV (d : PyData) : Bool := match itemsOf d with
  | some ds => namesG [] ds
  | none => false
theorem namesG_good {kn : List Str} {z : Str} {r : List PyData} (h : NameOk z ∧ z ∉ kn) : namesG kn (.str z :: r) = namesG (kn ++ [z]) r := if_pos h
theorem namesG_bad {kn : List Str} {z : Str} {r : List PyData} (h : ¬ (NameOk z ∧ z ∉ kn)) : namesG kn (.str z :: r) = false := if_neg h
theorem namesG_none {kn : List Str} {d : PyData} {r : List PyData} (h : nameB d = false) : namesG kn (d :: r) = false := by
  cases d with
  | str z =>
    refine namesG_bad fun q => ?_
    have q1 : nameB (.str z) = true := decide_eq_true q.1
    rw [q1] at h
    cases h
  | _ => rfl
/-- names that are unlike and in order -/
structure NamesOk (ns : List Str) : Prop where
  nd : ns.Nodup
  ok : ∀ z ∈ ns, NameOk z
theorem namesG_ok : ∀ {ds : List PyData} {kn : List Str}, namesG kn ds = true → ∃ ns : List Str, ds = ns.map PyData.str ∧ NamesOk ns ∧ ∀ z ∈ ns, z ∉ kn
  | [], kn, _ => ⟨[], rfl, ⟨List.nodup_nil, fun _ h => by cases h⟩, fun _ h => by cases h⟩
  | d :: ds, kn, h => by
    cases hn : nameB d with
    | false =>
      rw [namesG_none hn] at h
      cases h
    | true =>
      obtain ⟨z, rfl⟩ : ∃ z, d = .str z := by
        cases d <;> first | exact ⟨_, rfl⟩ | cases hn
      by_cases q : NameOk z ∧ z ∉ kn
      · rw [namesG_good q] at h
        obtain ⟨ns, rfl, ok, no⟩ := namesG_ok h
        refine ⟨z :: ns, rfl, ⟨List.nodup_cons.mpr ⟨fun m => no z m (by simp), ok.nd⟩, fun y hy => ?_⟩, fun y hy => ?_⟩
        · rcases List.mem_cons.mp hy with rfl | hy
          · exact q.1
          · exact ok.ok y hy
        · rcases List.mem_cons.mp hy with rfl | hy
          · exact q.2
          · exact fun m => no y hy (by simp [m])
      · rw [namesG_bad q] at h
        cases h
theorem namesG_of : ∀ {ns kn : List Str}, NamesOk ns → (∀ z ∈ ns, z ∉ kn) → namesG kn (ns.map PyData.str) = true
  | [], _, _, _ => rfl
  | z :: ns, kn, h, no => by
    obtain ⟨n1, n2⟩ := List.nodup_cons.mp h.nd
    show namesG kn (.str z :: ns.map PyData.str) = true
    rw [namesG_good ⟨h.ok z List.mem_cons_self, no z List.mem_cons_self⟩]
    refine namesG_of ⟨n2, fun y hy => h.ok y (List.mem_cons_of_mem _ hy)⟩ fun y hy m => ?_
    rcases List.mem_append.mp m with m | m
    · exact no y (List.mem_cons_of_mem _ hy) m
    · rw [List.mem_singleton.mp m] at hy
      exact n1 hy
/-- what list or tuple it is -/
theorem seq_of {H : Hp} {x : V} {d : PyData} (hx : Dq [] H x d) (wd : wdb d = true) (e : (isL d || isT d) = true) :
    ∃ a xs ds, x = .ref a ∧ itemsOf d = some ds ∧ F2 (Dq [] H) xs ds ∧ ds.length ≤ 1000 ∧ (∀ q ∈ ds, vdb q = true) ∧ (H a = some (.lst xs) ∨ H a = some (.tup xs)) := by
  cases hx with
  | lst _ ha hds =>
    have h2 : (decide (_ ≤ 1000) && _) = true := wd
    rw [Bool.and_eq_true, decide_eq_true_iff, List.all_eq_true] at h2
    exact ⟨_, _, _, rfl, rfl, hds.f2, h2.1, h2.2, .inl ha⟩
  | tup _ ha hds =>
    have h2 : (decide (_ ≤ 1000) && _) = true := wd
    rw [Bool.and_eq_true, decide_eq_true_iff, List.all_eq_true] at h2
    exact ⟨_, _, _, rfl, rfl, hds.f2, h2.1, h2.2, .inr ha⟩
  | non => cases e
  | bl => cases e
  | int => cases e
  | str => cases e
  | dict => cases e
theorem no_items {d : PyData} (h : (isL d || isT d) = false) : itemsOf d = none := by
  cases d <;> first | rfl | cases h
def spAreN : Sp := fun vs H Q _ => ∃ (x : V) (d : PyData), vs = [x] ∧ Dq [] H x d ∧ wdb d = true ∧ ∀ H', Same H H' → Q (.bl (namesV d)) H'
def spNeedN (CB : Addr) : Sp := fun vs H Q E => ∃ (x : V) (d : PyData), vs = [x] ∧ Dq [] H x d ∧ wdb d = true ∧ ((namesV d = true ∧ ∀ H', Same H H' → Q .non H') ∨ (namesV d = false ∧ ∀ H', Same H H' → E (.ref CB) none H'))
def spNeedDr (NOW : List Str) (CB : Addr) : Sp := fun vs H Q E => ∃ (x : V) (d : PyData), vs = [x] ∧ DrawIn NOW H x d ∧ ((drawV SHEET d = true ∧ ∀ H', Same H H' → Q .non H') ∨ (drawV SHEET d = false ∧ ∀ H', Same H H' → E (.ref CB) none H'))
section
variable {NOW : List Str} {P : Program} {w : World} {K : PySem.W.Frag} {mg : Str → Option Value} {base : Heap} {f CB : Addr} {fd2 fdN fdA : FuncData}
theorem scNeedDr : FnScope ["steps"] ["steps"] (defScope sNeedDr) := ⟨rfl, rfl, rfl, by decide +kernel, rfl, by decide +kernel, by decide +kernel⟩
theorem ok_needdr (F : FnP K "need_drawing" sNeedDr f fd2) (KA : Fk P w K mg base CX0 6 "is_drawing" fdA ["value"] (spDrawing NOW)) (B : ExcT K mg "BadDrawing" CB) : FnOk P w K mg base (L2.CX P w) 7 f fd2 ["steps"] (spNeedDr NOW CB) := by
  refine F.ok scNeedDr (fun vs H Q E h => ?_) (fun cdv A outer s H vs Q E hr h => ?_)
  · obtain ⟨x, d, rfl, _⟩ := h
    rfl
  · obtain ⟨x, d, rfl, hx, k⟩ := h
    refine ⟨_, pss_one (ps_if (pt_not (pt_val (pe_call KA.ok hr (by rfl) KA.g KA.kp KA.b .nil pass0 (pa_cons (pv 0) pa_nil)))) (pss_one (ps_raise rfl (takes_of rfl rfl rfl rfl) (pmk_own PySem.F.excBase_ValueError B.x B.g B.k (raises_own B.b B.t) rfl))) pss_nil), ?_⟩
    refine ⟨_, rfl, x, d, rfl, hx, fun H1 s1 => ⟨_, rfl, ?_⟩⟩
    rcases k with ⟨e, k⟩ | ⟨e, k⟩
    · rw [e]
      exact iteF (k H1 s1)
    · rw [e]
      exact iteT (k H1 s1)
end
end Own
set_option Elab.async false
set_option linter.all false
set_option maxRecDepth 100000
set_option maxHeartbeats 400000
namespace Own
open PySem PySem.Spec PyProof.Rows L2 LamX
/-! ### drawn steps -/
def stepPy (s : Str × Deed) : PyData := .tuple [.str s.1, s.2.py]
theorem goes_snoc : ∀ (ds : List (Str × Deed)) (kn : List Str) (n : Str) (d : Deed), goesB kn (ds.map stepPy) = true → StepOk (kn ++ ds.map (·.1)) n d.py → goesB kn ((ds ++ [(n, d)]).map stepPy) = true
  | [], kn, n, d, _, h => by
    show goesB kn [.tuple [.str n, d.py]] = true
    rw [goes_good (by simpa using h)]
    rfl
  | (m, e) :: ds, kn, n, d, g, h => by
    have g' : goesB kn (.tuple [.str m, e.py] :: ds.map stepPy) = true := g
    show goesB kn (.tuple [.str m, e.py] :: (ds ++ [(n, d)]).map stepPy) = true
    by_cases q : StepOk kn m e.py
    · rw [goes_good q] at g' ⊢
      refine goes_snoc ds (kn ++ [m]) n d g' ?_
      simpa using h
    · rw [goes_bad (step_no q)] at g'
      cases g'
theorem mem3 {a b c x : Addr} (h1 : x ≠ a) (h2 : x ≠ b) (h3 : x ≠ c) : x ∉ [a, b, c] := by simp [h1, h2, h3]
end Own
set_option Elab.async false
set_option linter.all false
set_option maxRecDepth 100000
set_option maxHeartbeats 400000
namespace Own
open PySem PySem.Spec PyProof.Rows L2 LamX
/-! ### sequels -/
/-- {z: True for z in names} -/
theorem dc_known {J : It} {G : Hp → Prop} {m : Nat} {σ : L2.St} {H1 : Hp} {D : Addr} {Qd : Hp → Prop} {kn : List Str} (w : Walk J (kn.map V.str).length G (YAt (kn.map V.str))) (nd : kn.Nodup) (hD : H1 D = none) (hz : kn.length < sizeLine) (hG : ∀ H', Same H1 H' → G H') (hm : m < σ.length)
    (hd : ∀ H' kvs, Same H1 H' → H' D = some (.dK kvs) → KeysAre kvs kn → Qd H') :
    ∃ W : Nat → Nat → Hp → Prop, (∃ m, W 0 m (L2.upd H1 D (.dK []))) ∧ ∀ i k H, W i k H →
      (J.stop i H ∧ Qd H) ∨ (J.go i H ∧ ∃ Nx : Hp → Prop, (∀ H', Nx H' → ∃ m', m' < k ∧ W (i + 1) m' H') ∧ ∀ x H', J.yld i H x H' → gName m x (wipe σ [m]) H' fun σ2 H2 => wipe σ2 [m] = wipe σ [m] ∧ tYes σ2 H2 fun b H3 =>
        if b = true then tVar m σ2 H3 fun y H4 => tC (.bl true) σ2 H4 fun z H5 => ∃ kvs k, y = kV k ∧ H5 D = some (.dK kvs) ∧ kvs.length < sizeLine ∧ Nx (L2.upd H5 D (.dK (putK kvs k z))) else Nx H3) := by
  refine dc_it w (fun i H => Same H1 H ∧ ∃ kvs, H D = some (.dK kvs) ∧ KeysAre kvs (kn.take i)) ⟨same_upd hD, [], upd_same, rfl⟩ (fun i H _ q => hG H q.1) ?_ ?_
  · rintro i x H H' hi ⟨sH, kvs, e, ky⟩ ⟨rfl, hx⟩
    rw [List.getElem?_map] at hx
    cases ez : kn[i]? with
    | none => rw [ez] at hx; cases hx
    | some z =>
      rw [ez] at hx
      cases hx
      have et := take_snoc ez
      have no : z ∉ kn.take i := fun q => by
        have n2 : (kn.take (i + 1)).Nodup := nd.sublist (List.take_sublist _ _)
        rw [et] at n2
        exact (List.nodup_append.mp n2).2.2 z q z (by simp) rfl
      refine ⟨?_, yes_if ⟨.str z, ?_, kvs, Sum.inr z, rfl, e, ?_, ?_, ?_⟩⟩
      · show ((σ.set m none).set m (some (V.str z))).set m none = σ.set m none
        rw [List.set_set, List.set_set]
      · show ((σ.set m none).set m (some (V.str z)))[m]? = _
        rw [List.getElem?_set_self (by rw [List.length_set]; exact hm)]
      · rw [ky.len, List.length_take]
        exact Nat.lt_of_le_of_lt (Nat.min_le_right _ _) hz
      · exact fun b o hb => by
          have nb : b ≠ D := fun q => by rw [q, hD] at hb; cases hb
          rw [upd_ne nb]
          exact sH _ _ hb
      · refine ⟨_, upd_same, ?_⟩
        rw [et]
        exact ky.put no
  · rintro H ⟨sH, kvs, e, ky⟩
    rw [List.length_map, List.take_length] at ky
    exact hd H kvs sH e ky
theorem map_str_inj : ∀ {a b : List Str}, a.map PyData.str = b.map PyData.str → a = b
  | [], [], _ => rfl
  | [], _ :: _, h => by cases h
  | _ :: _, [], h => by cases h
  | x :: a, y :: b, h => by
    injection h with h1 h2
    injection h1 with h1
    rw [h1, map_str_inj h2]
/-- a list or tuple of names -/
def NamesAt (H : Hp) (y : V) (kn : List Str) : Prop := ∃ b, y = .ref b ∧ (H b = some (.lst (kn.map V.str)) ∨ H b = some (.tup (kn.map V.str)))
theorem NamesAt.same {H H' : Hp} {y : V} {kn : List Str} (h : NamesAt H y kn) (e : Same H H') : NamesAt H' y kn := by
  obtain ⟨b, rfl, h⟩ := h
  exact ⟨b, rfl, h.imp (fun q => e _ _ q) fun q => e _ _ q⟩
theorem names_at {H : Hp} {y : V} {d : PyData} (hy : Dq [] H y d) (wd : wdb d = true) (hn : namesV d = true) : ∃ kn, itemsOf d = some (kn.map PyData.str) ∧ NamesOk kn ∧ kn.length ≤ 1000 ∧ NamesAt H y kn := by
  cases e : isL d || isT d with
  | false =>
    unfold namesV at hn
    rw [no_items e] at hn
    cases hn
  | true =>
    obtain ⟨a, xs, ds, rfl, hi, f2, l, _, hw⟩ := seq_of hy wd e
    unfold namesV at hn
    rw [hi] at hn
    obtain ⟨ns, rfl, ok, _⟩ := namesG_ok hn
    have ex : xs = ns.map V.str := by
      obtain ⟨ys, e1, q⟩ := dq_strs (ns := ns) (ds := []) (by rw [List.append_nil]; exact DqAll.of f2)
      cases q
      rw [e1, List.append_nil]
    subst ex
    rw [List.length_map] at l
    exact ⟨ns, hi, ok, l, a, rfl, hw⟩
def spGoes (NOW : List Str) : Sp := fun vs H Q _ => ∃ (x y : V) (d : PyData) (kn : List Str), vs = [x, y] ∧ DrawIn NOW H x d ∧ NamesAt H y kn ∧ NamesOk kn ∧ kn.length ≤ 1000 ∧ ∀ H', Same H H' → Q (.bl (drawV kn d)) H'
def spSeq (NOW : List Str) (CB : Addr) : Sp := fun vs H Q E => ∃ (x y : V) (d nd : PyData), vs = [x, y] ∧ DrawIn NOW H x d ∧ Dq [] H y nd ∧ wdb nd = true ∧
  ((namesV nd = false ∧ ∀ H', Same H H' → E (.ref CB) none H') ∨ ∃ kn, itemsOf nd = some (kn.map PyData.str) ∧ NamesOk kn ∧ ∀ H', Same H H' → Q (.bl (drawV kn d)) H')
end Own
set_option Elab.async false
set_option linter.all false
set_option maxRecDepth 100000
set_option maxHeartbeats 400000
namespace Own
open PySem PySem.Spec PyProof.Rows L2 LamX
/-! ### chests of drawings -/
def TOOLS : List Str := "compass" :: "corner" :: "disc" :: "dividers" :: "gauge" :: "halver" :: "rims" :: "square" :: "strip" :: []
def chestOf (sts : List (Str × Deed)) : List Str := TOOLS.filter fun t => decide (t ∈ sts.map fun s => toolS s.2.word)
/-- a dict whose keys are S -/
def KeysIn (kvs : List (Key × V)) (S : List Str) : Prop := ∀ z : Str, (valV kvs (Sum.inr z)).isSome = decide (z ∈ S)
theorem KeysIn.put {kvs : List (Key × V)} {S : List Str} (h : KeysIn kvs S) (t : Str) (v : V) : KeysIn (putK kvs (Sum.inr t) v) (S ++ [t]) := fun z => by
  rw [valV_put]
  by_cases e : z = t
  · subst e
    rw [if_pos rfl]
    simp
  · rw [if_neg (fun q => e (by injection q)), h z, Bool.eq_iff_iff, decide_eq_true_iff, decide_eq_true_iff]
    simp [e]
theorem KeysAre.in_ {kvs : List (Key × V)} {S : List Str} (h : KeysAre kvs S) : KeysIn kvs S := h.look
theorem KeysIn.sub {kvs : List (Key × V)} {S S' : List Str} (h : KeysIn kvs S) (e : ∀ z, z ∈ S ↔ z ∈ S') : KeysIn kvs S' := fun z => by
  rw [h z, Bool.eq_iff_iff, decide_eq_true_iff, decide_eq_true_iff]
  exact e z
theorem dq_stepA {N : List Addr} {H : Hp} {x : V} {s : Str × Deed} (h : Dq N H x (stepPy s)) : ∃ b p, x = .ref b ∧ b ∉ N ∧ H b = some (.tup [.str s.1, .ref p]) ∧ p ∉ N ∧ H p = some (.tup s.2.vs) := by
  cases h with
  | tup n e q =>
    cases q with
    | cons q1 q =>
      cases q with
      | cons q2 q =>
        cases q
        cases q1
        obtain ⟨p, rfl, np, hp⟩ := q2.deed
        exact ⟨_, p, rfl, n, e, np, hp⟩
/-- a right drawing -/
structure DrawOk (NOW : List Str) (H : Hp) (x : V) (sts : List (Str × Deed)) (d : PyData) : Prop where
  i : DrawIn NOW H x d
  items : itemsOf d = some (sts.map stepPy)
  goes : goesB SHEET (sts.map stepPy) = true
  ok : ∀ s ∈ sts, DeedOk s.2
theorem DrawOk.v {NOW : List Str} {H : Hp} {x : V} {sts : List (Str × Deed)} {d : PyData} (h : DrawOk NOW H x sts d) : drawV SHEET d = true := by
  unfold drawV
  rw [h.items]
  exact h.goes
theorem DrawOk.same {NOW : List Str} {H H' : Hp} {x : V} {sts : List (Str × Deed)} {d : PyData} (h : DrawOk NOW H x sts d) (e : Same H H') : DrawOk NOW H' x sts d := ⟨h.i.same e, h.items, h.goes, h.ok⟩
theorem DrawOk.at_ {NOW : List Str} {H : Hp} {x : V} {sts : List (Str × Deed)} {d : PyData} (h : DrawOk NOW H x sts d) : ∃ a ws, x = .ref a ∧ (H a = some (.lst ws) ∨ H a = some (.tup ws)) ∧ F2 (Dq [] H) ws (sts.map stepPy) ∧ sts.length ≤ 1000 := by
  have e : (isL d || isT d) = true := by
    cases d <;> first | rfl | (have := h.items; cases this)
  obtain ⟨a, xs, ds, rfl, hi, f2, l, _, hw⟩ := seq_of h.i.1 h.i.2.1 e
  have : ds = sts.map stepPy := Option.some.inj (hi.symm.trans h.items)
  subst this
  rw [List.length_map] at l
  exact ⟨a, xs, rfl, hw, f2, l⟩
theorem deed_rd {NOW : List Str} {H : Hp} {d : PyData} {x : V} {sts : List (Str × Deed)} (h : DrawOk NOW H x sts d) {s : Str × Deed} (hs : s ∈ sts) : Ready NOW s.2.py ∧ vdb s.2.py = true := by
  have m : stepPy s ∈ sts.map stepPy := List.mem_map.mpr ⟨s, hs, rfl⟩
  refine ⟨h.i.2.2 _ h.items (stepPy s) m _ _ rfl, ?_⟩
  have w := h.i.2.1
  have q : ∀ e ∈ sts.map stepPy, vdb e = true := by
    cases d with
    | list ds =>
      have e : ds = sts.map stepPy := by injection h.items
      subst e
      have h2 : (decide (_ ≤ 1000) && _) = true := w
      rw [Bool.and_eq_true, List.all_eq_true] at h2
      exact h2.2
    | tuple ds =>
      have e : ds = sts.map stepPy := by injection h.items
      subst e
      have h2 : (decide (_ ≤ 1000) && _) = true := w
      rw [Bool.and_eq_true, List.all_eq_true] at h2
      exact h2.2
    | _ => have := h.items; cases this
  have g : gdb (.tuple [.str s.1, s.2.py]) = true := vdb_gdb (q _ m) rfl
  have := (gdb_tuple g).2 s.2.py (by simp)
  unfold vdb
  rw [this, Bool.or_true]
def spChest (NOW : List Str) : Sp := fun vs H Q _ => ∃ (x : V) (d : PyData) (sts : List (Str × Deed)), vs = [x] ∧ DrawOk NOW H x sts d ∧ ∀ p H', Same H H' → H p = none → H' p = some (.tup ((chestOf sts).map V.str)) → Q (.ref p) H'
section
variable {NOW : List Str} {P : Program} {w : World} {K : PySem.W.Frag} {mg : Str → Option Value} {base : Heap} {f CB CD pT : Addr} {fd2 dN dT : FuncData}
abbrev nsChest : List Str := ["steps", "used", "name", "deed", "tool"]
theorem scChest : FnScope nsChest ["steps"] (defScope sChest) := ⟨rfl, rfl, rfl, by decide +kernel, rfl, by decide +kernel, by decide +kernel⟩
theorem ok_chest (F : FnP K "chest_of" sChest f fd2) (KN : Fk P w K mg base (L2.CX P w) 7 "need_drawing" dN ["steps"] (spNeedDr NOW CB)) (KT : Fk P w K mg base (L2.CX P w) 4 "tool_of" dT ["deed"] (spOfDeed NOW CD rTool)) (T : Txt K mg)
    (gT : mg "TOOLS" = some (.ref pT)) (hT : ∀ H, SqT K H pT (TOOLS.map V.str)) : FnOk P w K mg base CX0 8 f fd2 ["steps"] (spChest NOW) := by
  refine F.ok scChest (fun vs H Q E h => ?_) (fun cdv A outer s H vs Q E hr h => ?_)
  · obtain ⟨x, d, sts, rfl, _⟩ := h
    rfl
  · obtain ⟨x, d, sts, rfl, hd, k⟩ := h
    have hu := hu_of hr
    have hr4 := hr.mono (show 4 ≤ 7 by decide)
    refine ⟨_, PSs.nox (pss_cons (ps_expr (pe_call KN.ok hr (by rfl) KN.g KN.kp KN.b .nil passL (pa_cons (pv 0) pa_nil)))
      (pss_cons (ps_set (i := 1) scChest.nd rfl (.inr rfl) (pe_dc (own := [("name", 2), ("deed", 3)]) (g := gTup K 2 (gCons (gName 2) (gCons (gName 3) gNil))) (tt := tYes) (by rfl) scChest.nd (pi_seqW (pv 0)) (blkOk_by (own := [("name", 2), ("deed", 3)]) (N := nsChest) (sc := defScope sChest) (by decide +kernel))
          (fun _ _ _ _ _ => pg_tup rfl (pgs_cons (pg_name (i := 2) scChest.nd rfl (.inl rfl)) (pgs_cons (pg_name (i := 3) scChest.nd rfl (.inl rfl)) pgs_nil))) (fun _ _ _ _ _ => pts_nil) (fun _ _ _ _ _ => pe_call KT.ok hr4 (by rfl) KT.g KT.kp KT.b .nil passL (pa_cons (pv 3) pa_nil)) (fun _ _ _ _ _ => pe_bl)))
      (pss_one (ps_ret (pe_tupleOf (by rfl) T.tuple (pe_lc (own := [("tool", 4)]) (g := gName 4) (by rfl) scChest.nd (pi_tup (pe_glob (v := .ref pT) (by rfl) gT rfl)) (blkOk_by (own := [("tool", 4)]) (N := nsChest) (sc := defScope sChest) (by decide +kernel))
          (fun _ _ _ _ _ => pg_name (i := 4) scChest.nd rfl (Or.inl rfl)) (fun _ _ _ _ _ => pts_one (pt_cmp (pc_din hu (pv 4) (pv 1)))) (fun _ _ _ _ _ => pv 4))))))), ?_⟩
    refine ⟨_, rfl, x, d, rfl, hd.i, .inl ⟨hd.v, fun H1 s1 => ?_⟩⟩
    obtain ⟨a, ws, rfl, hw, f2, l1000⟩ := (hd.same s1).at_
    refine ⟨_, rfl, a, ws, rfl, hw.imp (fun e => SqL.of e) (fun e => SqT.of e), fun J GG wk hGG => fun D nD => ?_⟩
    have len := f2.len
    rw [List.length_map] at len
    refine dc_it wk (fun i H => Same H1 H ∧ ∃ kvs, H D = some (.dK kvs) ∧ kvs.length ≤ i ∧ KeysIn kvs ((sts.take i).map fun s => toolS s.2.word)) ⟨same_upd nD, [], upd_same, Nat.le_refl _, fun z => rfl⟩ (fun i H _ q => hGG H fun o e => q.1 _ _ e) ?_ ?_
    · rintro i y G G' hi ⟨sG, kvs, eD, lk, ky⟩ ⟨rfl, hy⟩
      obtain ⟨e, he, hq0⟩ := f2.at_ hy
      rw [List.getElem?_map] at he
      cases ez : sts[i]? with
      | none => rw [ez] at he; cases he
      | some st =>
        rw [ez] at he
        cases he
        obtain ⟨b, p, rfl, _, hb, _, hp⟩ := dq_stepA (hq0.same sG)
        have ms := List.mem_of_getElem? ez
        refine ⟨b, _, rfl, SqT.of hb, rfl, _, _, rfl, _, _, rfl, rfl, ?_, yes_if ?_⟩
        · rfl
        obtain ⟨rd, vd⟩ := deed_rd hd ms
        refine ⟨_, rfl, _, _, rfl, ⟨Dq.of_deed (by simp) hp, vd, rd⟩, .inl ⟨st.2, rfl, hd.ok st ms, fun G2 s2 => ⟨kvs, Sum.inr (toolS st.2.word), rfl, s2 _ _ eD, ?_, ?_, ?_⟩⟩⟩
        · have : i < sts.length := (List.getElem?_eq_some_iff.mp ez).1
          exact Nat.lt_of_le_of_lt (show kvs.length ≤ 1000 by omega) (by decide)
        · exact fun b o hb => by
            have nb : b ≠ D := fun q => by rw [q, nD] at hb; cases hb
            rw [upd_ne nb]
            exact s2 _ _ (sG _ _ hb)
        · refine ⟨_, upd_same, Nat.le_trans (length_putK _ _ _) (by omega), ?_⟩
          rw [take_snoc ez, List.map_append]
          exact ky.put _ _
    · rintro G ⟨sG, kvs, eD, lk, ky⟩
      rw [len, List.take_length] at ky
      refine ⟨pT, rfl, ⟨_, hT G⟩, fun D2 nD2 => ?_⟩
      refine lc_filt (p := fun x => decide (strV x ∈ sts.map fun s => toolS s.2.word)) walk_tup nD2 (by decide) (fun H' _ => hT H') (by show 4 < 5; decide) (fun x H' hx sH R kR => ?_) fun H' sH eD2 => ?_
      · obtain ⟨z, hz, rfl⟩ := List.mem_map.mp hx
        refine ⟨_, rfl, _, rfl, D, _, rfl, DGet.k (k := Sum.inr z) (sH _ _ eD), _, rfl, ?_⟩
        rw [ky z]
        exact kR H' (Same.refl _)
      · refine .inl ⟨D2, _, rfl, SqL.of eD2, fun p np => ?_⟩
        have sA := (s1.trans sG).trans sH
        refine k p _ (sA.trans (same_upd np)) (sA.free np) ?_
        rw [upd_same, List.filter_map]
        rfl
end
end Own
set_option Elab.async false
set_option linter.all false
set_option maxRecDepth 100000
set_option maxHeartbeats 400000
namespace Own
open PySem PySem.Spec PyProof.Rows L2 LamX
/-! ### the law's own sequels -/
def spDNames : Sp := fun vs H Q _ => ∃ (p : Addr) (d : Deed), vs = [.ref p] ∧ H p = some (.tup d.vs) ∧ DeedOk d ∧ ∀ l H', Same H H' → H l = none → H' l = some (.lst (d.names.map V.str)) → Q (.ref l) H'
def StepLast (e : PyData) : Prop := ∀ a b, e = .tuple [a, b] → LastAll b
def spLGoes : Sp := fun vs H Q _ => ∃ (x : V) (nb : Addr) (d : PyData) (kn : List Str), vs = [x, .ref nb] ∧ Dq [] H x d ∧ wdb d = true ∧ (∀ ds, itemsOf d = some ds → ∀ e ∈ ds, StepLast e) ∧ H nb = some (.lst (kn.map V.str)) ∧ kn.length ≤ 1000 ∧ ∀ H', Same H H' → Q (.bl (drawV kn d)) H'
section
variable {P : Program} {w : World} {K : PySem.W.Frag} {mg : Str → Option Value} {base : Heap} {f : Addr} {fd2 dN dD dF dM : FuncData}
theorem scDNames : FnScope ["_law_deed_here"] ["_law_deed_here"] (defScope sDNames) := ⟨rfl, rfl, rfl, by decide +kernel, rfl, by decide +kernel, by decide +kernel⟩
theorem ok_dnames (F : FnP K "_law_deed_names" sDNames f fd2) (KF : Fk P w K mg base CX0 1 "_law_forms" dF [] spForms) (T : Txt K mg) : FnOk P w K mg base CX0 2 f fd2 ["_law_deed_here"] spDNames := by
  refine F.ok scDNames (fun vs H Q E h => ?_) (fun cdv A outer s H vs Q E hr h => ?_)
  · obtain ⟨p, d, rfl, _⟩ := h
    rfl
  · obtain ⟨a, dd, rfl, ha, okd, k⟩ := h
    have hu := hu_of hr
    refine ⟨_, PSs.nox (pss_one (ps_ret (pe_callTy call_list_of (by rfl) T.list (by decide +kernel) (pa_cons (pe_slice sl_tup (pv 0) (po_some pe_int) (po_some (pe_op op_add pe_int (pe_dget hu (pe_call0 KF.ok hr (by rfl) KF.g KF.kp KF.b .nil pass0) (pe_ix ix_tup (pv 0) pe_int (fun _ _ => rfl)) (fun _ _ => rfl))))) pa_nil)))), ?_⟩
    have s4 : SqT K H a dd.vs := SqT.of ha
    obtain ⟨m, kk, hm, nm, okN, nk, okW⟩ := id okd
    refine ⟨_, rfl, _, rfl, rfl, fun fo G3 t3 nfo hfo => ⟨_, rfl, a, _, _, _, rfl, rfl, seqT t3 s4, deed_head dd, fo, _, rfl, dget_k (.inr dd.word) hfo (fk_look _ hm), _, _, rfl, rfl, _, rfl, a, _, rfl, seqT t3 s4, deed_notwhole, fun p np => ?_⟩⟩
    rw [deed_names nm]
    have t4 := same_upd (o := .tup (dd.names.map V.str)) np
    have hp := upd_same (H := G3) (a := p) (o := .tup (dd.names.map V.str))
    refine ⟨p, _, rfl, .inr (SqT.of hp), fun l nl => ?_⟩
    have tA := t3.trans t4
    exact k l _ (tA.trans (same_upd nl)) (tA.free nl) upd_same
end
end Own
set_option Elab.async false
set_option linter.all false
set_option maxRecDepth 100000
set_option maxHeartbeats 400000
namespace Own
open PySem PySem.Spec PyProof.Rows L2 LamX
/-! ### drawn values: what they are made of -/
abbrev NOW : List Str := []
/-- all names that are drawn -/
def NMS : List Str := SHEET ++ (("fresh" :: "lay" :: "disc" :: "circles" :: "later" :: "b" :: "zzz" :: "gauge" :: "a7" :: "s1" :: "n" :: "zkz" :: "draw" :: "a" :: [] : List Str) ++ (LAB ++ (KK ++ SV)))
def ODD : List PyData := .str "later" :: .str "A" :: .str "" :: .str "toolongname" :: .int 1 :: .int 2 :: .int 3 :: .int 0 :: .bool true :: .none :: .str "o" :: .str "1" :: .str "a-b" :: .str "vv" :: []
def itemB (e : PyData) : Bool := gdb e && (decide (e.depth ≤ 10) && lastB e)
theorem odd_ok : ∀ e ∈ ODD, itemB e = true := by decide +kernel
theorem form_item : ∀ t ∈ FORM, itemB (.str t.1) = true := by decide +kernel
theorem nms_item : ∀ z ∈ NMS, itemB (.str z) = true ∧ NameOk z := by decide +kernel
theorem way_item : itemB (.int 1) = true ∧ itemB (.int 2) = true := by decide +kernel
theorem sheet_nms : ∀ z ∈ SHEET, z ∈ NMS := fun _ h => List.mem_append_left _ h
theorem law_nms : ∀ z ∈ LAB ++ (KK ++ SV), z ∈ NMS := fun _ h => List.mem_append_right _ (List.mem_append_right _ h)
theorem deed_items {d : Deed} (h : DeedOk d) (hn : ∀ z ∈ d.names, z ∈ NMS) : ∀ e ∈ d.pys, itemB e = true := by
  obtain ⟨m, k, hm, nm, okN, nk, okW⟩ := h
  intro e he
  unfold Deed.pys at he
  rcases List.mem_cons.mp he with rfl | he
  · exact form_item _ hm
  rcases List.mem_append.mp he with he | he
  · obtain ⟨z, hz, rfl⟩ := List.mem_map.mp he
    exact (nms_item z (hn z hz)).1
  · obtain ⟨z, hz, rfl⟩ := List.mem_map.mp he
    have := okW z hz
    have e : z = 1 ∨ z = 2 := by omega
    rcases e with rfl | rfl
    · exact way_item.1
    · exact way_item.2
theorem itemB_iff {e : PyData} (h : itemB e = true) : gdb e = true ∧ e.depth ≤ 10 ∧ lastB e = true := by
  unfold itemB at h
  rw [Bool.and_eq_true, Bool.and_eq_true, decide_eq_true_iff] at h
  exact h
theorem smls_all : ∀ {ds : List PyData}, (∀ d ∈ ds, sml d = true) → smls ds = true
  | [], _ => rfl
  | e :: ds, h => by
    show (sml e && smls ds) = true
    rw [h e List.mem_cons_self, smls_all fun d hd => h d (List.mem_cons_of_mem _ hd)]
    rfl
theorem gdb_sml {d : PyData} (h : gdb d = true) : sml d = true := by
  unfold gdb at h
  rw [Bool.and_eq_true, Bool.and_eq_true] at h
  exact h.2.2
theorem gdb_of_items {ds : List PyData} (l : ds.length ≤ 1000) (n : Nat) (hn : n ≤ 49) (h : ∀ e ∈ ds, gdb e = true ∧ e.depth ≤ n) : gdb (.tuple ds) = true ∧ gdb (.list ds) = true ∧ (PyData.tuple ds).depth ≤ n + 1 ∧ (PyData.list ds).depth ≤ n + 1 := by
  have a := lay_all fun e he => (gdb_lay (h e he).1).1
  have b := depth_all fun e he => (h e he).2
  have c := smls_all fun e he => gdb_sml (h e he).1
  have q : (PyData.canLayAll0 ds && (decide (PyData.depthAll ds + 1 ≤ 50) && (decide (ds.length ≤ 1000) && smls ds))) = true := by
    rw [a, c, decide_eq_true l, decide_eq_true (by omega : PyData.depthAll ds + 1 ≤ 50)]
    rfl
  exact ⟨q, q, (by show PyData.depthAll ds + 1 ≤ n + 1; omega), (by show PyData.depthAll ds + 1 ≤ n + 1; omega)⟩
/-- what a bent deed is -/
structure BentD (d : PyData) : Prop where
  g : gdb d = true
  dp : d.depth ≤ 11
  r : Ready NOW d
  l : LastAll d
theorem BentD.tuple {ds : List PyData} (l : ds.length ≤ 1000) (hd : ∀ w r, ds = .str w :: r → ∃ q, FORM.lookup w = some q) (h : ∀ e ∈ ds, itemB e = true) : BentD (.tuple ds) := by
  obtain ⟨g1, g2, g3, g4⟩ := gdb_of_items l 10 (by decide) fun e he => ⟨(itemB_iff (h e he)).1, (itemB_iff (h e he)).2.1⟩
  refine ⟨g1, g3, fun w r e => ?_, fun ds' e x hx => ?_⟩
  · injection e with e
    exact .inl (hd w r e)
  · injection e with e
    subst e
    exact (itemB_iff (h x hx)).2.2
theorem BentD.list {ds : List PyData} (l : ds.length ≤ 1000) (h : ∀ e ∈ ds, itemB e = true) : BentD (.list ds) := by
  obtain ⟨g1, g2, g3, g4⟩ := gdb_of_items l 10 (by decide) fun e he => ⟨(itemB_iff (h e he)).1, (itemB_iff (h e he)).2.1⟩
  exact ⟨g2, g4, (fun w r e => by cases e), (fun ds' e => by cases e)⟩
theorem pys_len {d : Deed} (h : DeedOk d) : d.pys.length ≤ 7 := by
  have h1 := form_small h
  have h2 := way_small h
  unfold Deed.pys
  rw [List.length_cons, List.length_append, List.length_map, List.length_map]
  omega
theorem deed_look {d : Deed} (h : DeedOk d) : ∃ q, FORM.lookup d.word = some q := by
  obtain ⟨m, k, hm, _⟩ := h
  exact ⟨_, form_look _ hm⟩
theorem BentD.deed {d : Deed} (h : DeedOk d) (hn : ∀ z ∈ d.names, z ∈ NMS) : BentD d.py := by
  refine BentD.tuple (Nat.le_trans (pys_len h) (by decide)) (fun w r e => ?_) (deed_items h hn)
  have : d.word = w := by
    unfold Deed.pys at e
    injection e with e _
    injection e
  rw [← this]
  exact deed_look h
/-! #### slices, put together -/
theorem tNoPart_in {σ : L2.St} {H : Hp} {Q : Option Int → Hp → Prop} (h : Q none H) : tNoPart σ H Q := h
theorem slA_read {K : PySem.W.Frag} {H : Hp} {Q : VK} {a : Addr} {xs : List V} {lo hi : Option Int} (ha : H a = some (.tup xs)) (k : ∀ r H', Same H H' → H' r = some (.tup (cutV xs lo hi)) → Q (.ref r) H') : rSlA K (.ref a) lo hi H Q := by
  refine ⟨a, xs, rfl, SqT.of ha, fun e => k a H (Same.refl _) ?_, fun _ p np => k p _ (same_upd np) upd_same⟩
  rw [ha]
  have : cutV xs lo hi = (xs.drop (HT.sIx xs.length 0 lo)).take (HT.sIx xs.length xs.length hi - HT.sIx xs.length 0 lo) := rfl
  rw [this, e.1, e.2, List.drop_zero, Nat.sub_zero, List.take_length]
theorem Dq.tup_of {N : List Addr} {H : Hp} {r : Addr} {xs : List V} {ds : List PyData} (n : r ∉ N) (h : H r = some (.tup xs)) (f : F2 (Dq N H) xs ds) : Dq N H (.ref r) (.tuple ds) := .tup n h (DqAll.of f)
theorem Deed.f2 {N : List Addr} {H : Hp} (d : Deed) : F2 (Dq N H) d.vs d.pys := DqAll.f2 (.cons (.str _) (dq_str_of _ (dq_int_of _)))
theorem deed_max {d : Deed} (h : DeedOk d) : 1 ≤ d.vs.length ∧ d.vs.length ≤ 7 := by
  rw [deed_len]
  have h1 := form_small h
  have h2 := way_small h
  omega
structure StepG (e : PyData) : Prop where
  v : vdb e = true
  r : StepRd NOW e
  l : StepLast e
structure DrawD (d : PyData) : Prop where
  w : wdb d = true
  r : ∀ ds, itemsOf d = some ds → ∀ e ∈ ds, StepRd NOW e
  l : ∀ ds, itemsOf d = some ds → ∀ e ∈ ds, StepLast e
theorem StepG.pair {x b : PyData} (hx : gdb x = true) (dx : x.depth ≤ 11) (h : BentD b) : StepG (.tuple [x, b]) := by
  obtain ⟨g, _⟩ := gdb_of_items (ds := [x, b]) (by show 2 ≤ 1000; decide) 11 (by decide) fun e he => by
    simp only [List.mem_cons, List.not_mem_nil, or_false] at he
    rcases he with rfl | rfl
    · exact ⟨hx, dx⟩
    · exact ⟨h.g, h.dp⟩
  refine ⟨vdb_of g, fun a c e => ?_, fun a c e => ?_⟩
  · injection e with e
    injection e with _ e
    injection e with e
    rw [← e]
    exact h.r
  · injection e with e
    injection e with _ e
    injection e with e
    rw [← e]
    exact h.l
theorem StepG.lst2 {x b : PyData} (hx : gdb x = true) (dx : x.depth ≤ 11) (h : BentD b) : StepG (.list [x, b]) := by
  obtain ⟨_, g, _⟩ := gdb_of_items (ds := [x, b]) (by show 2 ≤ 1000; decide) 11 (by decide) fun e he => by
    simp only [List.mem_cons, List.not_mem_nil, or_false] at he
    rcases he with rfl | rfl
    · exact ⟨hx, dx⟩
    · exact ⟨h.g, h.dp⟩
  exact ⟨vdb_of g, (fun a c e => by cases e), (fun a c e => by cases e)⟩
theorem StepG.three {x b : PyData} (hx : gdb x = true) (dx : x.depth ≤ 11) (h : BentD b) : StepG (.tuple [x, b, b]) := by
  obtain ⟨g, _⟩ := gdb_of_items (ds := [x, b, b]) (by show 3 ≤ 1000; decide) 11 (by decide) fun e he => by
    simp only [List.mem_cons, List.not_mem_nil, or_false] at he
    rcases he with rfl | rfl | rfl
    · exact ⟨hx, dx⟩
    · exact ⟨h.g, h.dp⟩
    · exact ⟨h.g, h.dp⟩
  refine ⟨vdb_of g, fun a c e => ?_, fun a c e => ?_⟩
  · injection e with e
    injection e with _ e
    injection e with _ e
    cases e
  · injection e with e
    injection e with _ e
    injection e with _ e
    cases e
theorem nms_g {z : Str} (h : z ∈ NMS) : gdb (.str z) = true ∧ (PyData.str z).depth ≤ 11 := ⟨(itemB_iff (nms_item z h).1).1, by show 0 ≤ 11; decide⟩
theorem DrawD.list {es : List PyData} (l : es.length ≤ 1000) (h : ∀ e ∈ es, StepG e) : DrawD (.list es) := by
  refine ⟨?_, fun ds e x hx => ?_, fun ds e x hx => ?_⟩
  · show (decide (es.length ≤ 1000) && es.all vdb) = true
    rw [decide_eq_true l, List.all_eq_true.mpr fun e he => (h e he).v]
    rfl
  · injection e with e
    subst e
    exact (h x hx).r
  · injection e with e
    subst e
    exact (h x hx).l
theorem DrawD.tuple {es : List PyData} (l : es.length ≤ 1000) (h : ∀ e ∈ es, StepG e) : DrawD (.tuple es) := by
  refine ⟨?_, fun ds e x hx => ?_, fun ds e x hx => ?_⟩
  · show (decide (es.length ≤ 1000) && es.all vdb) = true
    rw [decide_eq_true l, List.all_eq_true.mpr fun e he => (h e he).v]
    rfl
  · injection e with e
    subst e
    exact (h x hx).r
  · injection e with e
    subst e
    exact (h x hx).l
theorem tail_eqD {K : PySem.W.Frag} {N : List Addr} {σ : L2.St} {H : Hp} {D : Addr} {ys : List V} {es : List PyData} {Q : VK} (hD : H D = some (.lst ys)) (hf : F2 (Dq N H) ys es) (g : ∀ e ∈ es, gdb e = true) (k : ∀ H', Same H H' → Q (.bl ys.isEmpty) H') : tLst tNil σ H fun y H2 => rEqD K (.ref D) y H2 Q := by
  refine ⟨(by show 0 ≤ sizeLine; decide), fun q nq => ?_⟩
  have s := same_upd (o := .lst []) nq
  obtain ⟨a, b, c⟩ := dp_some (K := K) (hf.mono fun _ _ z => z.same s) g
  refine ⟨.list es, .list [], .lst (SqL.of (s _ _ hD)) a, .lst (SqL.of upd_same) .nil, ?_, rfl, ?_⟩
  · show (PyData.canLayAll0 es && decide (PyData.depthAll es + 1 ≤ 64)) = true
    rw [b, decide_eq_true (by omega)]
    rfl
  · rw [eqv_nilL]
    have e : es.isEmpty = ys.isEmpty := by
      have := hf.len
      cases ys <;> cases es <;> first | rfl | cases this
    rw [e]
    exact k _ s
/-! #### drawn steps -/
structure StepsOk (ds : List (Str × Deed)) : Prop where
  len : ds.length ≤ 8
  goes : goesB SHEET (ds.map stepPy) = true
  name : ∀ s ∈ ds, s.1 ∈ NMS
  deed : ∀ s ∈ ds, DeedOk s.2 ∧ ∀ z ∈ s.2.names, z ∈ NMS
theorem StepsOk.g {ds : List (Str × Deed)} (h : StepsOk ds) : ∀ e ∈ ds.map stepPy, StepG e := fun e he => by
  obtain ⟨s, hs, rfl⟩ := List.mem_map.mp he
  obtain ⟨g1, g2⟩ := nms_g (h.name s hs)
  exact StepG.pair g1 g2 (BentD.deed (h.deed s hs).1 (h.deed s hs).2)
theorem StepsOk.gdb {ds : List (Str × Deed)} (h : StepsOk ds) : ∀ e ∈ ds.map stepPy, gdb e = true := fun e he => by
  obtain ⟨s, hs, rfl⟩ := List.mem_map.mp he
  exact vdb_gdb ((StepG.pair (nms_g (h.name s hs)).1 (nms_g (h.name s hs)).2 (BentD.deed (h.deed s hs).1 (h.deed s hs).2)).v) rfl
/-- the list of all words, in some order -/
structure WordsL (ys : List Str) : Prop where
  pos : 0 < ys.length
  most : ys.length ≤ 20
  mem : ∀ y ∈ ys, ∃ m k, (y, m, k) ∈ FORM
end Own
set_option Elab.async false
set_option linter.all false
set_option maxRecDepth 100000
set_option maxHeartbeats 400000
namespace Own
open PySem PySem.Spec PyProof.Rows L2 LamX
/-! ### drawings that look back -/
def spChain : Sp := fun vs H Q _ => ∃ (a lw lc : Addr) (t : Nat) (j : Nat) (pw : Addr) (ys : List Str) (sh : Int), vs = [.ref a, .int j, .ref pw, .int sh] ∧ StA H a lw lc t ∧ t < 2 ^ 37 ∧ j ≤ 8 ∧ H pw = some (.lst (ys.map V.str)) ∧ pw ∉ [a, lw] ∧ WordsL ys ∧
  ∀ (l : Addr) (ws : List V) (ds : List (Str × Deed)) H', StepsOk ds → ds.length = j → F2 (Dq [a, lw, l] H') ws (ds.map stepPy) → l ∉ [a, lw] → l ≠ lc → H l = none → H' l = some (.lst ws) → StA H' a lw lc (t + 400) → Kp [a, lw] H H' → Q (.ref l) H'
section
variable {P : Program} {w : World} {K : PySem.W.Frag} {mg : Str → Option Value} {base : Heap} {f : Addr} {fd2 dD dP dN dE : FuncData}
abbrev nsChain : List Str := ["_law_state", "_law_many", "_law_words", "_law_share", "_law_known", "_law_found", "_law_turn", "_law_near", "_law_deed_here", "_law_name_here"]
theorem scChain : FnScope nsChain ["_law_state", "_law_many", "_law_words", "_law_share"] (defScope sChain) := ⟨rfl, rfl, rfl, by decide +kernel, rfl, by decide +kernel, by decide +kernel⟩
theorem asg_gen {te : TE} {tg : TG} {σ : L2.St} {H : Hp} {D : Ends} (C : V → Hp → Prop) (h : ∀ Q : VK, (∀ x H, C x H → Q x H) → te σ H Q) (k : ∀ x H, C x H → tg x σ H D.nx) : tAsg te tg D σ H := h _ k
theorem gname_seq {n : Nat} {v : V} {σ : L2.St} {H : Hp} {a b : TS} {D : Ends} {r : VK} {c e : L2.St → Hp → Prop} (h : tSeq a b D (σ.set n (some v)) H) : gName n v σ H (Ends.nx { nx := tSeq a b D, rt := r, bk := c, ct := e }) := h
theorem ok_chain (F : FnP K "_law_chained_steps" sChain f fd2) (KD : Fk P w K mg base CX0 2 "_law_draw" dD ["_law_state", "_law_room"] spDraw) (KP : Fk P w K mg base CX0 3 "_law_pick" dP ["_law_state", "_law_some"] (spPick K))
    (KN : Fk P w K mg base CX0 4 "_law_name" dN ["_law_state", "_law_barred"] spLName) (KE : Fk P w K mg base CX0 4 "_law_deed" dE ["_law_state", "_law_word", "_law_names"] spLDeed) (T : Txt K mg) :
    FnOk P w K mg base CX0 5 f fd2 ["_law_state", "_law_many", "_law_words", "_law_share"] spChain := by
  refine F.ok scChain (fun vs H Q E h => ?_) (fun cdv A outer s H vs Q E hr h => ?_)
  · obtain ⟨a, lw, lc, t, j, pw, ys, sh, rfl, _⟩ := h
    rfl
  · obtain ⟨a, lw, lc, t, j, pw, ys, sh, rfl, S, ht, j8, hpw, npw, W, k⟩ := h
    have hr2 := hr.mono (show 2 ≤ 4 by decide)
    have hr3 := hr.mono (show 3 ≤ 4 by decide)
    refine ⟨_, PSs.nox (pss_cons (ps_par (i := 4) (j := 5) (by rfl) scChain.nd rfl rfl (by decide) rfl rfl (pa_cons (pe_lst (pa_cons pe_str (pa_cons pe_str (pa_cons pe_str (pa_cons pe_str (pa_cons pe_str pa_nil)))))) (pa_cons (pe_lst pa_nil) pa_nil)) (by rfl))
      (pss_cons (ps_for PassesOwn.never rfl (pi_range1 (by rfl) T.range (pa_cons (pv 1) pa_nil)) (pg_name (i := 6) scChain.nd rfl (Or.inl rfl))
        (pss_cons (ps_set (i := 7) scChain.nd rfl (.inl rfl) (pe_ifExp (pt_cmpR op_lt (pe_call KD.ok hr2 (by rfl) KD.g KD.kp KD.b .nil pass0 (pa_cons (pv 0) (pa_cons pe_int pa_nil))) (pv 3) (nomark _)) (pe_slice sl_list (pv 4) (po_some (pe_callB (call_max2 rfl) (by rfl) T.max (by decide +kernel) (pa_cons pe_int (pa_cons (pe_op op_sub (pe_callB call_len_seq (by rfl) T.len PySem.boot_len (pa_cons (pv 4) pa_nil)) pe_int) pa_nil)))) po_none) (pv 4)))
        (pss_cons (ps_set (i := 8) scChain.nd rfl (.inl rfl) (pe_call KE.ok hr (by rfl) KE.g KE.kp KE.b .nil pass0 (pa_cons (pv 0) (pa_cons (pe_call KP.ok hr3 (by rfl) KP.g KP.kp KP.b .nil pass0 (pa_cons (pv 0) (pa_cons (pv 2) pa_nil))) (pa_cons (pe_ifExp (pt_cmpR op_gt (pe_callB call_len_seq (by rfl) T.len PySem.boot_len (pa_cons (pv 7) pa_nil)) pe_int (nomark _)) (pv 7) (pe_op op_cat (pe_op op_cat (pv 4) (pv 7)) (pv 7))) pa_nil)))))
        (pss_cons (ps_set (i := 9) scChain.nd rfl (.inl rfl) (pe_call KN.ok hr (by rfl) KN.g KN.kp KN.b .nil pass0 (pa_cons (pv 0) (pa_cons (pv 4) pa_nil))))
        (pss_cons (ps_expr (pe_bm PySem.F.plainAttrs_list PySem.F.slot_list_append PySem.F.type_list_append mt_append (pv 5) (pa_cons (pe_tup (pa_cons (pv 9) (pa_cons (pv 8) pa_nil))) pa_nil)))
        (pss_one (ps_expr (pe_bm PySem.F.plainAttrs_list PySem.F.slot_list_append PySem.F.type_list_append mt_append (pv 4) (pa_cons (pv 9) pa_nil)))))))))
      (pss_one (ps_ret (pv 5))))), ?_⟩
    refine ⟨(by show 5 ≤ sizeLine; decide), fun l2 n2 => ⟨(by show 0 ≤ sizeLine; decide), fun l1 n1 => ⟨_, _, rfl, ?_⟩⟩⟩
    have s2 := same_upd (o := .lst (SHEET.map V.str)) n2
    have g2 := upd_same (H := H) (a := l2) (o := .lst (SHEET.map V.str))
    have ee : L2.upd H l2 (.lst [V.str "o", .str "u", .str "uu", .str "v", .str "vv"]) = L2.upd H l2 (.lst (SHEET.map V.str)) := rfl
    rw [ee] at n1
    rw [ee]
    have s1 := same_upd (o := .lst []) n1
    have g1 := upd_same (H := L2.upd H l2 (.lst (SHEET.map V.str))) (a := l1) (o := .lst [])
    have n1H := s2.free n1
    obtain ⟨o2, o2c⟩ := S.new n2
    obtain ⟨o1, o1c⟩ := S.new n1H
    have n12 : l1 ≠ l2 := (ne_of_none g2 n1).symm
    have g2' := s1 _ _ g2
    generalize L2.upd (L2.upd H l2 (.lst (SHEET.map V.str))) l1 (.lst []) = H0 at s1 g1 g2'
    have sA := s2.trans s1
    have S0 := S.same sA
    have K01 : Kp [a, lw] H H0 := Kp.of sA
    have npl : pw ≠ l1 := fun z => by rw [z, n1H] at hpw; cases hpw
    have npl2 : pw ≠ l2 := fun z => by rw [z, n2] at hpw; cases hpw
    refine ⟨_, rfl, j, rfl, by omega, by omega, ?_⟩
    refine for_range (lo := 0) (n := j) (fun i σ G => ∃ (v6 v7 v8 v9 : Option V) (ws : List V) (ds : List (Str × Deed)), σ = [some (.ref a), some (.int j), some (.ref pw), some (.int sh), some (.ref l2), some (.ref l1), v6, v7, v8, v9] ∧ ds.length = i ∧ G l1 = some (.lst ws) ∧ G l2 = some (.lst ((SHEET ++ ds.map (·.1)).map V.str)) ∧
        F2 (Dq [a, lw, l1, l2] G) ws (ds.map stepPy) ∧ goesB SHEET (ds.map stepPy) = true ∧ (∀ s ∈ ds, s.1 ∈ NMS) ∧ (∀ s ∈ ds, DeedOk s.2 ∧ ∀ z ∈ s.2.names, z ∈ NMS) ∧ StA G a lw lc (t + 50 * i) ∧ Kp [a, lw] H G)
      ⟨none, none, none, none, [], [], rfl, rfl, g1, g2', .nil, rfl, (fun _ h => by cases h), (fun _ h => by cases h), S0, K01⟩ ?_ ?_
    · rintro i σ G hi ⟨v6, v7, v8, v9, ws, ds, rfl, ld, gl1, gl2, f2, dB, okN, okD, SG, KG⟩
      have lk : (SHEET ++ ds.map (·.1)).length = 5 + i := by
        rw [List.length_append, List.length_map, ld]
        rfl
      have inN : ∀ n ∈ SHEET ++ ds.map (·.1), n ∈ NMS := fun n hn => by
        rcases List.mem_append.mp hn with hn | hn
        · exact sheet_nms n hn
        · obtain ⟨s, hs, rfl⟩ := List.mem_map.mp hn
          exact okN s hs
      have okK : ∀ n ∈ SHEET ++ ds.map (·.1), NameOk n := fun n hn => (nms_item n (inN n hn)).2
      have gpw := KG _ _ hpw npw
      have npwl : pw ≠ lw := fun z => npw (by simp [z])
      have l20 := W.most
      refine asg_gen (fun x G1 => ∃ (nr : Addr) (ms : List Str), x = .ref nr ∧ G1 nr = some (.lst (ms.map V.str)) ∧ nr ∉ [a, lw] ∧ (∀ z ∈ ms, z ∈ SHEET ++ ds.map (·.1)) ∧ ms.length ≤ 13 ∧ StA G1 a lw lc (t + 50 * i + 1) ∧ Kp [a, lw] G G1) (fun Q0 q0 => ?_) ?_
      · refine ⟨_, rfl, a, lw, lc, _, _, rfl, SG, by omega, by decide, by decide, fun z G1 z0 z1 S1 K1 => ⟨_, rfl, _, _, rfl, rfl, _, rfl, ?_⟩⟩
        have h12 := K1 _ _ gl2 o2
        refine ite2 (fun _ => ?_) fun _ => ?_
        · refine ⟨_, rfl, _, rfl, l2, _, rfl, .inl (SqL.of h12), _, _, rfl, rfl, _, _, rfl, _, rfl, ?_⟩
          refine ⟨l2, _, rfl, SqL.of h12, fun p np => ?_⟩
          have hc : cutV ((SHEET ++ ds.map (·.1)).map V.str) (some (if ((((SHEET ++ ds.map (·.1)).map V.str).length : Nat) : Int) - 3 > 0 then ((((SHEET ++ ds.map (·.1)).map V.str).length : Nat) : Int) - 3 else 0)) none = ((SHEET ++ ds.map (·.1)).drop (5 + i - 3)).map V.str := by
            rw [List.length_map, lk, if_pos (by omega), show (((5 + i : Nat) : Int) - 3) = ((5 + i - 3 : Nat) : Int) by omega]
            show ((List.map V.str _).drop (HT.sIx _ 0 (some ((5 + i - 3 : Nat) : Int)))).take _ = _
            rw [HT.sIx_nat, List.length_map, lk, Nat.min_eq_left (by omega), List.map_drop]
            refine List.take_of_length_le ?_
            rw [List.length_drop, List.length_map, lk]
            show _ ≤ HT.sIx (5 + i) (5 + i) none - _
            rw [HT.sIx_none]
            exact Nat.le_refl _
          rw [hc]
          obtain ⟨np1, np2⟩ := S1.new np
          refine q0 _ _ ⟨p, _, rfl, upd_same, np1, fun z hz => List.mem_of_mem_drop hz, ?_, S1.same (same_upd np), K1.trans (Kp.of (same_upd np))⟩
          rw [List.length_drop, lk]
          omega
        · exact ⟨_, rfl, q0 _ _ ⟨l2, _, rfl, h12, o2, fun _ h => h, by omega, S1, K1⟩⟩
      rintro x G1 ⟨nr, ms, rfl, gnr, onr, hms, l13, S1, K1⟩
      refine gname_seq ?_
      refine asg_gen (fun x G2 => ∃ (p : Addr) (d : Deed), x = .ref p ∧ DeedOk d ∧ (∀ z ∈ d.names, z ∈ SHEET ++ ds.map (·.1)) ∧ G2 p = some (.tup d.vs) ∧ StA G2 a lw lc (t + 50 * i + 42) ∧ Kp [a, lw] G G2) (fun Q0 q0 => ?_) ?_
      · have h12 := K1 _ _ gl2 o2
        refine ⟨_, rfl, _, rfl, _, rfl, a, lw, lc, _, pw, _, rfl, S1, by omega, K1 _ _ gpw npw, npwl, by rw [List.length_map]; exact W.pos, by rw [List.length_map]; omega, fun j2 x G2 hx S2 K2 => ?_⟩
        obtain ⟨wd, hwd, rfl⟩ := List.mem_map.mp (List.mem_of_getElem? hx)
        obtain ⟨m, kk, hm⟩ := W.mem wd hwd
        have g2n := K2 _ _ gnr onr
        have g2l := K2 _ _ h12 o2
        have deed : ∀ (n : Addr) (kn : List Str) (G3 : Hp), StA G3 a lw lc (t + 50 * i + 1 + 1) → Kp [a, lw] G G3 → G3 n = some (.lst (kn.map V.str)) → n ∉ [a, lw] → 0 < kn.length → kn.length ≤ 20 → (∀ z ∈ kn, z ∈ SHEET ++ ds.map (·.1)) → spLDeed [.ref a, .str wd, .ref n] G3 Q0 E0 := fun n kn G3 S3 K3 gn on l0 l20' hk => by
          refine ⟨a, lw, lc, _, wd, m, kk, n, kn, rfl, S3, by omega, hm, gn, on, l0, l20', fun z hz => okK z (hk z hz), fun p d G4 dw okd dn S4 K4 np hp => ?_⟩
          exact q0 _ _ ⟨p, d, rfl, okd, fun z hz => hk z (dn z hz), hp, S4.more (by omega), K3.trans K4⟩
        refine ⟨_, rfl, nr, _, rfl, .inl (SqL.of g2n), _, _, rfl, rfl, _, rfl, ?_⟩
        rw [List.length_map]
        refine ite2 (fun c => ?_) fun c => ?_
        · have c4 : 4 < ms.length := by
            have := of_decide_eq_true c
            omega
          exact ⟨_, rfl, deed nr ms G2 S2 (K1.trans K2) g2n onr (by omega) (by omega) hms⟩
        · have c4 : ms.length ≤ 4 := by
            have q : ¬ ((ms.length : Nat) : Int) > (4 : Int) := fun q => c (decide_eq_true q)
            omega
          refine ⟨_, rfl, _, rfl, l2, nr, _, _, rfl, rfl, g2l, g2n, by rw [List.length_map, List.length_map, lk]; exact Nat.le_trans (show 5 + i + ms.length ≤ 100 by omega) (by decide), fun u1 nu1 => ?_⟩
          have u2 := same_upd (o := .lst ((SHEET ++ ds.map (·.1)).map V.str ++ ms.map V.str)) nu1
          have hu1 := upd_same (H := G2) (a := u1) (o := .lst ((SHEET ++ ds.map (·.1)).map V.str ++ ms.map V.str))
          have S3 := S2.same u2
          have g3n := u2 _ _ g2n
          have K3 := K2.trans (Kp.of u2)
          generalize L2.upd G2 u1 (.lst ((SHEET ++ ds.map (·.1)).map V.str ++ ms.map V.str)) = G3 at hu1 S3 g3n K3
          refine ⟨_, rfl, u1, nr, _, _, rfl, rfl, hu1, g3n, by rw [List.length_append, List.length_map, List.length_map, lk]; exact Nat.le_trans (show 5 + i + ms.length + ms.length ≤ 100 by omega) (by decide), fun u4 nu4 => ?_⟩
          have u5 := same_upd (o := .lst ((SHEET ++ ds.map (·.1)).map V.str ++ ms.map V.str ++ ms.map V.str)) nu4
          have e4 : (SHEET ++ ds.map (·.1)).map V.str ++ ms.map V.str ++ ms.map V.str = ((SHEET ++ ds.map (·.1)) ++ ms ++ ms).map V.str := by simp only [List.map_append]
          refine deed u4 ((SHEET ++ ds.map (·.1)) ++ ms ++ ms) _ (S3.same u5) ((K1.trans K3).trans (Kp.of u5)) (by rw [upd_same, e4]) (S3.new nu4).1 ?_ ?_ fun z hz => ?_
          · rw [List.length_append, List.length_append, lk]
            omega
          · rw [List.length_append, List.length_append, lk]
            omega
          · rcases List.mem_append.mp hz with hz | hz
            · rcases List.mem_append.mp hz with hz | hz
              · exact hz
              · exact hms z hz
            · exact hms z hz
      rintro x G2 ⟨p, d, rfl, okd, dn, hp, S2, K2⟩
      have h21 := K2 _ _ gl1 o1
      have h22 := K2 _ _ gl2 o2
      refine ⟨_, rfl, _, rfl, a, lw, lc, _, l2, _, rfl, S2, by omega, h22, o2, by omega, fun n G3 okn mn frn S4 K4 => ?_⟩
      have h31 := K4 _ _ h21 o1
      have h32 := K4 _ _ h22 o2
      have hp3 := S2.tupK K4 hp
      refine ⟨_, rfl, .inl ⟨rfl, _, .inl (.inl h31)⟩, _, rfl, _, rfl, (by show 2 ≤ sizeLine; decide), fun tt ntt => ?_⟩
      have s6 := same_upd (o := .tup [.str n, .ref p]) ntt
      have h41 := s6 _ _ h31
      have h42 := s6 _ _ h32
      have lw5 : ws.length = i := by rw [f2.len, List.length_map, ld]
      have htt := upd_same (H := G3) (a := tt) (o := .tup [V.str n, .ref p])
      have hp6 := s6 _ _ hp3
      have S6 := S4.same s6
      have kk6 : Kp [a, lw] G (L2.upd G3 tt (.tup [V.str n, .ref p])) := (K2.trans K4).trans (Kp.of s6)
      generalize L2.upd G3 tt (.tup [V.str n, .ref p]) = G5 at h41 h42 htt hp6 S6 kk6
      refine ⟨l1, _, _, rfl, rfl, h41, by rw [lw5]; exact Nat.lt_of_lt_of_le (show i < 10 by omega) (by decide), ?_⟩
      have h52 : (L2.upd G5 l1 (.lst (ws ++ [V.ref tt]))) l2 = some (.lst ((SHEET ++ ds.map (·.1)).map V.str)) := by
        rw [upd_ne n12.symm]
        exact h42
      refine ⟨_, rfl, .inl ⟨rfl, _, .inl (.inl h52)⟩, _, rfl, l2, _, _, rfl, rfl, h52, by rw [List.length_map, lk]; exact Nat.lt_of_lt_of_le (show 5 + i < 20 by omega) (by decide), ?_⟩
      have tl1 : tt ≠ l1 := ne_of htt h41 (by intro z; cases z)
      have tl2 : tt ≠ l2 := ne_of htt h42 (by intro z; cases z)
      have pl1 : p ≠ l1 := ne_of hp6 h41 (by intro z; cases z)
      have pl2 : p ≠ l2 := ne_of hp6 h42 (by intro z; cases z)
      have offA : ∀ {b : Addr} {xs : List V}, G5 b = some (.tup xs) → b ≠ l1 → b ≠ l2 → b ∉ [a, lw, l1, l2] := fun {b xs} hb q1 q2 => by
        have q := S6.off hb (fun _ z => by cases z) fun _ z => by cases z
        simp only [List.mem_cons, List.not_mem_nil, or_false, not_or] at q ⊢
        exact ⟨q.1, q.2, q1, q2⟩
      have kE : KpE [a, lw, l1, l2] G (L2.upd (L2.upd G5 l1 (.lst (ws ++ [V.ref tt]))) l2 (.lst ((SHEET ++ ds.map (·.1)).map V.str ++ [V.str n]))) := fun b o e nb _ => by
        simp only [List.mem_cons, List.not_mem_nil, or_false, not_or] at nb
        rw [upd_ne nb.2.2.2, upd_ne nb.2.2.1]
        exact kk6 b o e (by simp [nb.1, nb.2.1])
      have ttF : (L2.upd (L2.upd G5 l1 (.lst (ws ++ [V.ref tt]))) l2 (.lst ((SHEET ++ ds.map (·.1)).map V.str ++ [V.str n]))) tt = some (.tup [V.str n, .ref p]) := by
        rw [upd_ne tl2, upd_ne tl1]
        exact htt
      have pF : (L2.upd (L2.upd G5 l1 (.lst (ws ++ [V.ref tt]))) l2 (.lst ((SHEET ++ ds.map (·.1)).map V.str ++ [V.str n]))) p = some (.tup d.vs) := by
        rw [upd_ne pl2, upd_ne pl1]
        exact hp6
      refine ⟨_, _, _, _, ws ++ [V.ref tt], ds ++ [(n, d)], rfl, by rw [List.length_append, ld]; rfl, ?_, ?_, ?_, ?_, ?_, ?_, ?_, ?_⟩
      · rw [upd_ne n12, upd_same]
      · rw [upd_same]
        simp
      · have em : (ds ++ [(n, d)]).map stepPy = ds.map stepPy ++ [.tuple [.str n, d.py]] := List.map_append
        rw [em]
        refine (f2.mono fun _ _ q => Dq.keep kE _ _ q).snoc ?_
        exact .tup (offA htt tl1 tl2) ttF (.cons (.str n) (.cons (Dq.of_deed (offA hp6 pl1 pl2) pF) .nil))
      · refine goes_snoc ds SHEET n d dB ⟨okn, frn, deedB_of okd, fun z hz => ?_⟩
        rw [dnames_py okd] at hz
        exact dn z hz
      · intro y hy
        rcases List.mem_append.mp hy with hy | hy
        · exact okN y hy
        · rw [List.mem_singleton.mp hy]
          exact law_nms n mn
      · intro y hy
        rcases List.mem_append.mp hy with hy | hy
        · exact okD y hy
        · rw [List.mem_singleton.mp hy]
          exact ⟨okd, fun z hz => inN z (dn z hz)⟩
      · exact ((S6.put o1 o1c _).put o2 o2c _).more (by omega)
      · exact fun b o e nb => by
          rw [upd_ne (ne_of_none e n2), upd_ne (ne_of_none e n1H)]
          exact (KG.trans kk6) b o e nb
    · rintro σ G ⟨v6, v7, v8, v9, ws, ds, rfl, ld, gl1, gl2, f2, dB, okN, okD, SG, KG⟩
      refine ⟨_, rfl, k l1 ws ds G ⟨by omega, dB, okN, okD⟩ ld (f2.mono fun e d q => Dq.weak (fun b hb => ?_) _ _ q) o1 o1c n1H gl1 (SG.more (by omega)) KG⟩
      simp only [List.mem_cons, List.not_mem_nil, or_false] at hb ⊢
      rcases hb with h | h | h
      · exact .inl h
      · exact .inr (.inl h)
      · exact .inr (.inr (.inl h))
end
end Own
set_option Elab.async false
set_option linter.all false
set_option maxRecDepth 100000
set_option maxHeartbeats 1000000
set_option exponentiation.threshold 300
namespace Own
open PySem PySem.Spec PyProof.Rows L2 LamX
/-! ### the steps that can be laid -/
abbrev LaySt : Type := List (Str × Pt) × List (Str × Deed)
def inE (env : List (Str × Pt)) (d : Deed) : Bool := d.names.all fun z => (env.lookup z).isSome
def layStep (st : LaySt) (s : Str × Deed) : LaySt :=
  if inE st.1 s.2 = true then (match layP (ptsOf st.1 s.2.names) with
    | some x => (st.1 ++ [(s.1, x)], st.2 ++ [s])
    | none => st) else st
def layAll (sts : List (Str × Deed)) : LaySt := sts.foldl layStep (SHEET.zip SHP, [])
theorem layAll_take {sts : List (Str × Deed)} {i : Nat} {s : Str × Deed} (h : sts[i]? = some s) : layAll (sts.take (i + 1)) = layStep (layAll (sts.take i)) s := by
  unfold layAll
  rw [take_snoc h, List.foldl_append]
  rfl
theorem layStep_keys {st : LaySt} {s : Str × Deed} {z : Str} (h : z ∈ (layStep st s).1.map (·.1)) : z ∈ st.1.map (·.1) ∨ z = s.1 := by
  unfold layStep at h
  split at h
  · split at h
    · rw [List.map_append] at h
      rcases List.mem_append.mp h with h | h
      · exact .inl h
      · exact .inr (List.mem_singleton.mp h)
    · exact .inl h
  · exact .inl h
theorem layFold_keys : ∀ (sts : List (Str × Deed)) (st : LaySt) (z : Str), z ∈ (sts.foldl layStep st).1.map (·.1) → z ∈ st.1.map (·.1) ∨ z ∈ sts.map (·.1)
  | [], _, _, h => .inl h
  | s :: sts, st, z, h => by
    rcases layFold_keys sts (layStep st s) z h with h | h
    · rcases layStep_keys h with h | h
      · exact .inl h
      · exact .inr (h ▸ List.mem_cons_self)
    · exact .inr (List.mem_cons_of_mem _ h)
theorem layAll_keys {sts : List (Str × Deed)} {z : Str} (h : z ∈ (layAll sts).1.map (·.1)) : z ∈ SHEET ∨ z ∈ sts.map (·.1) := by
  rcases layFold_keys sts _ z h with h | h
  · exact .inl h
  · exact .inr h
theorem layStep_len (st : LaySt) (s : Str × Deed) : (layStep st s).1.length ≤ st.1.length + 1 ∧ (layStep st s).2.length ≤ st.2.length + 1 := by
  unfold layStep
  split
  · split
    · rw [List.length_append, List.length_append]
      exact ⟨Nat.le_refl _, Nat.le_refl _⟩
    · omega
  · omega
theorem look_key {env : List (Str × Pt)} {z : Str} {x : Pt} (h : env.lookup z = some x) : z ∈ env.map (·.1) := by
  induction env with
  | nil => cases h
  | cons e env ih =>
    by_cases q : z = e.1
    · rw [q]
      exact List.mem_cons_self
    · refine List.mem_cons_of_mem _ (ih ?_)
      have : (z == e.1) = false := by simpa using q
      obtain ⟨y, v⟩ := e
      simpa [List.lookup, this] using h
/-- the sums may be taken at every step -/
def LayOk (sts : List (Str × Deed)) : Prop := ∀ (i : Nat) (s : Str × Deed), sts[i]? = some s → inE (layAll (sts.take i)).1 s.2 = true → OkP (ptsOf (layAll (sts.take i)).1 s.2.names) ∧ ∀ x, layP (ptsOf (layAll (sts.take i)).1 s.2.names) = some x → DenOk x
/-- a list of tuples with these names -/
def NameT (H : Hp) (w : V) (s : Str × Deed) : Prop := ∃ t v, w = .ref t ∧ H t = some (.tup [.str s.1, v])
structure PlainD (sts : List (Str × Deed)) : Prop where
  len : sts.length ≤ 50
  word : ∀ s ∈ sts, Plain s.2
  name : ∀ s ∈ sts, NameOk s.1
  nd : (sts.map (·.1)).Nodup
  off : ∀ s ∈ sts, s.1 ∉ SHEET
def spLayable (NOW : List Str) : Sp := fun vs H Q _ => ∃ (x : V) (d : PyData) (sts : List (Str × Deed)), vs = [x] ∧ DrawOk NOW H x sts d ∧ PlainD sts ∧ LayOk sts ∧
  ∀ l ws H', Same H H' → H l = none → H' l = some (.lst ws) → F2 (NameT H') ws (layAll sts).2 → Q (.ref l) H'
section
variable {NOW : List Str} {P : Program} {w : World} {K : PySem.W.Frag} {mg : Str → Option Value} {base : Heap} {f CT CN fT fN pE CD CB : Addr} {fd2 dT dN fdS fdM fdD fdP : FuncData}
abbrev nsLayable : List Str := ["steps", "points", "found", "name", "deed", "other", "point"]
theorem scLayable : FnScope nsLayable ["steps"] (defScope sLayable) := ⟨rfl, rfl, rfl, by decide +kernel, rfl, by decide +kernel, by decide +kernel⟩
theorem NameT.off {H : Hp} {w : V} {s : Str × Deed} (h : NameT H w s) {b : Addr} {u : HO} (hb : H b = some u) (n : ∀ l, u ≠ .tup l) (o : HO) : NameT (L2.upd H b o) w s := by
  obtain ⟨t, v, e, h⟩ := h
  refine ⟨t, v, e, ?_⟩
  rw [upd_ne (ne_of h hb (n _).symm)]
  exact h
theorem NameT.same {H H' : Hp} {w : V} {s : Str × Deed} (h : NameT H w s) (e : Same H H') : NameT H' w s := by
  obtain ⟨t, v, q, h⟩ := h
  exact ⟨t, v, q, e _ _ h⟩
theorem PDict.off {CT CN : Addr} {H : Hp} {b : Addr} {kvs : List (Key × V)} {env : List (Str × Pt)} (h : PDict CT CN H b kvs env) {c : Addr} {l : List V} (hc : H c = some (.lst l)) (o : HO) : PDict CT CN (L2.upd H c o) b kvs env := by
  refine ⟨?_, h.len, h.rel.mono fun _ _ ⟨q1, q2, p, q3, q4⟩ => ⟨q1, q2, p, q3, q4.offG hc (fun _ z => by cases z) (fun _ _ _ z => by cases z) o⟩⟩
  rw [upd_ne (ne_of h.at_ hc (by intro z; cases z))]
  exact h.at_
theorem ok_layable (F : FnP K "layable" sLayable f fd2) (KD : Fk P w K mg base (L2.CX P w) 7 "need_drawing" fdD ["steps"] (spNeedDr NOW CB)) (KS : Fk P w K mg base CX0 5 "sheet" fdS [] (spSheetQ CT CN)) (KM : Fk P w K mg base (L2.CX P w) 4 "names_of" fdM ["deed"] (spOfDeed NOW CD rNames)) (KP : Fk P w K mg base CX0 9 "spot_or_none" fdP ["deed", "points"] (spSpotQ NOW CT CN)) (T : Txt K mg) :
    FnOk P w K mg base CX0 10 f fd2 ["steps"] (spLayable NOW) := by
  refine F.ok scLayable (fun vs H Q E h => ?_) (fun cdv A outer s H vs Q E hr h => ?_)
  · obtain ⟨x, d, sts, rfl, _⟩ := h
    rfl
  · obtain ⟨x, d, sts, rfl, hd, pd, lo, k⟩ := h
    have hu := hu_of hr
    have hr4 := hr.mono (show 4 ≤ 9 by decide)
    have hr5 := hr.mono (show 5 ≤ 9 by decide)
    have hr7 := hr.mono (show 7 ≤ 9 by decide)
    refine ⟨_, PSs.nox (pss_cons (ps_expr (pe_call KD.ok hr7 (by rfl) KD.g KD.kp KD.b .nil passL (pa_cons (pv 0) pa_nil)))
      (pss_cons (ps_asg (pe_tup (pa_cons (pe_call0 KS.ok hr5 (by rfl) KS.g KS.kp KS.b .nil pass0) (pa_cons (pe_lst pa_nil) pa_nil))) (pg_tup rfl (pgs_cons (pg_name (i := 1) scLayable.nd rfl (.inr rfl)) (pgs_cons (pg_name (i := 2) scLayable.nd rfl (.inl rfl)) pgs_nil))))
      (pss_cons (ps_for PassesOwn.never rfl (pi_seqW (pv 0)) (pg_tup rfl (pgs_cons (pg_name (i := 3) scLayable.nd rfl (.inl rfl)) (pgs_cons (pg_name (i := 4) scLayable.nd rfl (.inl rfl)) pgs_nil)))
        (pss_one (ps_if (pt_cmpR (op_eqD hr.units) (pe_lc (own := [("other", 5)]) (g := gName 5) (by rfl) scLayable.nd (pi_tup (pe_call KM.ok hr4 (by rfl) KM.g KM.kp KM.b .nil passL (pa_cons (pv 4) pa_nil))) (blkOk_by (own := [("other", 5)]) (N := nsLayable) (sc := defScope sLayable) (by decide +kernel))
              (fun _ _ _ _ _ => pg_name (i := 5) scLayable.nd rfl (Or.inl rfl)) (fun _ _ _ _ _ => pts_one (pt_cmp (pc_dnotin hu (pv 5) (pv 1)))) (fun _ _ _ _ _ => pv 5)) (pe_lst pa_nil) (nomark _))
          (pss_cons (ps_set (i := 6) scLayable.nd rfl (.inl rfl) (pe_call KP.ok hr (by rfl) KP.g KP.kp KP.b .nil pass0 (pa_cons (pv 4) (pa_cons (pv 1) pa_nil))))
          (pss_one (ps_if (pt_cmpR op_notN (pv 6) pe_non (nomark _)) (pss_cons (ps_dput hu (pv 1) (pv 3) (pv 6) rfl) (pss_one (ps_expr (pe_bm PySem.F.plainAttrs_list PySem.F.slot_list_append PySem.F.type_list_append mt_append (pv 2) (pa_cons (pe_tup (pa_cons (pv 3) (pa_cons (pv 4) pa_nil))) pa_nil))))) pss_nil))) pss_nil)))
      (pss_one (ps_ret (pv 2)))))), ?_⟩
    refine ⟨_, rfl, x, d, rfl, hd.i, .inl ⟨hd.v, fun H1 s1 => ?_⟩⟩
    refine ⟨rfl, fun pdA ws0 H2 s2 npd hpd f2p => ⟨(by show 0 ≤ sizeLine; decide), fun fl nfl => ⟨(by show 2 ≤ sizeLine; decide), fun tp ntp => ⟨tp, _, rfl, SqT.of upd_same, rfl, _, _, rfl, _, _, rfl, rfl, ?_⟩⟩⟩⟩
    have s3 := same_upd (o := .lst []) nfl
    have hfl := upd_same (H := H2) (a := fl) (o := .lst [])
    have s4 := same_upd (o := .tup [.ref pdA, .ref fl]) ntp
    have hfl4 := s4 _ _ hfl
    have hpd4 := s4 _ _ (s3 _ _ hpd)
    have f2p4 := f2p.mono fun _ _ ⟨p, e, q⟩ => (⟨p, e, (q.same s3).same s4⟩ : ∃ p', _ = V.ref p' ∧ PtQ CT CN _ p' _)
    have s14 := (s2.trans s3).trans s4
    have nflH : H1 fl = none := s2.free nfl
    generalize L2.upd (L2.upd H2 fl (.lst [])) tp (.tup [.ref pdA, .ref fl]) = H4 at hfl4 hpd4 f2p4 s14
    have fin1 : ∀ {G : Hp}, Kp [pdA, fl] H4 G → Same H1 G := fun kg b o e => kg _ _ (s14 _ _ e) (by
      have n1 : b ≠ pdA := ne_of_none e npd
      have n2 : b ≠ fl := ne_of_none e nflH
      simp [n1, n2])
    obtain ⟨a, xs, rfl, hw, f2, l1000⟩ := (hd.same s1).at_
    have len := f2.len
    rw [List.length_map] at len
    have l50 := pd.len
    have lens : ∀ i, (layAll (sts.take i)).1.length ≤ 5 + i ∧ (layAll (sts.take i)).2.length ≤ i := fun i => by
      induction i with
      | zero => exact ⟨Nat.le_refl 5, Nat.le_refl 0⟩
      | succ i ih =>
        cases e : sts[i]? with
        | none =>
          have : sts.take (i + 1) = sts.take i := by rw [List.take_add_one, e]; simp
          rw [this]
          omega
        | some s =>
          rw [layAll_take e]
          have := layStep_len (layAll (sts.take i)) s
          omega
    have start : PDict CT CN H4 pdA ((SHEET.map Sum.inr).zip ws0) (SHEET.zip SHP) := by
      refine ⟨hpd4, ?_, ?_⟩
      · rw [List.length_zip]
        exact Nat.le_trans (Nat.min_le_left _ _) (by decide)
      · have nm : ∀ z ∈ SHEET, NameOk z := by decide +kernel
        have go : ∀ {ns : List Str} {us : List V} {ps : List Pt}, (∀ z ∈ ns, NameOk z) → F2 (fun v pt => ∃ p, v = V.ref p ∧ PtQ CT CN H4 p pt) us ps → F2 (fun (kv : Key × V) (e : Str × Pt) => kv.1 = Sum.inr e.1 ∧ NameOk e.1 ∧ ∃ p, kv.2 = .ref p ∧ PtQ CT CN H4 p e.2) ((ns.map Sum.inr).zip us) (ns.zip ps) := fun {ns us ps} h f => by
          induction f generalizing ns with
          | nil => simp only [List.zip_nil_right]; exact .nil
          | cons q _ ih =>
            cases ns with
            | nil => exact .nil
            | cons z ns => exact .cons ⟨rfl, h z List.mem_cons_self, q⟩ (ih fun y hy => h y (List.mem_cons_of_mem _ hy))
        exact go nm f2p4
    refine ⟨_, rfl, a, xs, rfl, hw.imp (fun e => SqL.of (s14 _ _ e)) (fun e => SqT.of (s14 _ _ e)), fun J GG wk hGG => ?_⟩
    have hG : ∀ {G : Hp}, Kp [pdA, fl] H4 G → GG G := fun {G} kG => hGG G fun o e => kG _ _ e (by
      have e1 : H1 a = some o := by
        rcases hw with h | h <;> · have := s14 _ _ h; rw [e] at this; rw [h, ← this]
      have n1 : a ≠ pdA := ne_of_none e1 npd
      have n2 : a ≠ fl := ne_of_none e1 nflH
      simp [n1, n2])
    refine for_it wk (fun i σ G => ∃ v3 v4 v6 kvs wl, σ = [some (.ref a), some (.ref pdA), some (.ref fl), v3, v4, none, v6] ∧ Kp [pdA, fl] H4 G ∧ PDict CT CN G pdA kvs (layAll (sts.take i)).1 ∧ G fl = some (.lst wl) ∧ F2 (NameT G) wl (layAll (sts.take i)).2)
      ⟨none, none, none, _, [], rfl, Kp.refl _ _, start, hfl4, .nil⟩ (fun i σ G _ q => by obtain ⟨_, _, _, _, _, _, kG, _⟩ := q; exact hG kG) ?_ ?_
    · rintro i y σ G0 G hi ⟨v3, v4, v6, kvs, wl, rfl, kG, hpD, hwl, f2w⟩ ⟨rfl, hy⟩
      obtain ⟨e, he, hq0⟩ := f2.at_ hy
      rw [List.getElem?_map] at he
      cases ez : sts[i]? with
      | none => rw [ez] at he; cases he
      | some st =>
      rw [ez] at he
      cases he
      have sG := fin1 kG
      have ms := List.mem_of_getElem? ez
      have li : i < sts.length := (List.getElem?_eq_some_iff.mp ez).1
      obtain ⟨b, p, rfl, _, hb, _, hp⟩ := dq_stepA (hq0.same sG)
      obtain ⟨rd, vd⟩ := deed_rd hd ms
      have okd := hd.ok st ms
      refine ⟨b, _, rfl, SqT.of hb, rfl, _, _, rfl, _, _, rfl, rfl, ?_⟩
      refine ⟨_, rfl, .ref p, _, rfl, ⟨Dq.of_deed (by simp) hp, vd, rd⟩, .inl ⟨st.2, rfl, okd, fun q G1 t1 _ hq => ⟨q, rfl, ⟨_, SqT.of hq⟩, fun D nD => ?_⟩⟩⟩
      have hpD1 := hpD.same t1
      have l5 : (once st.2.names).length ≤ 5 := by
        have h1 : (once st.2.names).length ≤ 0 + st.2.names.length := once_len st.2.names []
        rcases plain_len okd (pd.word st ms) with ⟨⟨_, e⟩ | ⟨_, e⟩, _⟩ <;> omega
      refine lc_filt (p := fun x => !((layAll (sts.take i)).1.lookup (strV x)).isSome) (walk_tup (xs := (once st.2.names).map V.str)) nD (by rw [List.length_map]; exact Nat.lt_of_le_of_lt l5 (by decide)) (fun H' s' => SqT.of (s' _ _ hq)) (by show 5 < 7; decide) (fun x H' hx sH R kR => ?_) fun G2 t2 hD => ?_
      · obtain ⟨z, hz, rfl⟩ := List.mem_map.mp hx
        have hpH := hpD1.same sH
        refine ⟨_, rfl, _, rfl, pdA, _, rfl, DGet.k (k := Sum.inr z) hpH.at_, _, rfl, ?_⟩
        have e : (valV kvs (Sum.inr z)).isSome = ((layAll (sts.take i)).1.lookup z).isSome := by
          rcases pdict_look hpH.rel z with ⟨_, _, h1, h2, _⟩ | ⟨h1, h2⟩ <;> rw [h1, h2]
          all_goals rfl
        rw [e]
        exact kR H' (Same.refl _)
      have fkz : ((once st.2.names).map V.str).all fok = true := fok_names fun z hz => deed_nameok okd ((once_mem _ _).mp hz)
      refine tail_eq hD (all_filter fkz) fun G3 t3 => ⟨_, rfl, ?_⟩
      have e : (((once st.2.names).map V.str).filter fun x => !((layAll (sts.take i)).1.lookup (strV x)).isSome).isEmpty = inE (layAll (sts.take i)).1 st.2 := by
        unfold inE
        rw [Bool.eq_iff_iff, List.isEmpty_iff, List.filter_eq_nil_iff, List.all_eq_true]
        constructor
        · intro h z hz
          have := h (.str z) (List.mem_map.mpr ⟨z, (once_mem _ _).mpr hz, rfl⟩)
          simpa [strV] using this
        · intro h x hx
          obtain ⟨z, hz, rfl⟩ := List.mem_map.mp hx
          have := h z ((once_mem _ _).mp hz)
          simpa [strV] using this
      rw [e]
      have t13 := (t1.trans t2).trans t3
      have kG3 : Kp [pdA, fl] H4 G3 := kG.trans (Kp.of t13)
      cases hin : inE (layAll (sts.take i)).1 st.2 with
      | false =>
        refine iteF ?_
        refine ⟨_, _, _, kvs, wl, rfl, kG3, ?_, t13 _ _ hwl, ?_⟩
        · rw [layAll_take ez]
          unfold layStep
          rw [if_neg (by rw [hin]; exact Bool.false_ne_true)]
          exact hpD.same t13
        · rw [layAll_take ez]
          unfold layStep
          rw [if_neg (by rw [hin]; exact Bool.false_ne_true)]
          exact f2w.mono fun _ _ q => q.same t13
      | true =>
        refine iteT ?_
        obtain ⟨okp, den⟩ := lo i st ez hin
        have sG3 := sG.trans t13
        have all : ∀ z ∈ st.2.names, ((layAll (sts.take i)).1.lookup z).isSome = true := List.all_eq_true.mp hin
        refine ⟨_, rfl, _, rfl, p, pdA, st.2, kvs, _, rfl, ⟨Dq.of_deed (by simp) (t13 _ _ hp), vd, rd⟩, okd, pd.word st ms, hpD.same t13, all, okp, den, fun hn G4 t4 => ?_, fun pt hpt r G4 t4 hr4 => ?_⟩
        · have t14 := t13.trans t4
          refine ⟨_, rfl, rfl, _, rfl, ?_⟩
          refine iteF ?_
          have es : layStep (layAll (sts.take i)) st = layAll (sts.take i) := by
            unfold layStep
            rw [if_pos hin, hn]
          refine ⟨_, _, _, kvs, wl, rfl, kG.trans (Kp.of t14), ?_, t14 _ _ hwl, ?_⟩
          · rw [layAll_take ez, es]
            exact hpD.same t14
          · rw [layAll_take ez, es]
            exact f2w.mono fun _ _ q => q.same t14
        · have t14 := t13.trans t4
          have hp4 := hpD.same t14
          have hwl4 := t14 _ _ hwl
          have f2w4 := f2w.mono fun _ _ q => q.same t14
          have es : layStep (layAll (sts.take i)) st = ((layAll (sts.take i)).1 ++ [(st.1, pt)], (layAll (sts.take i)).2 ++ [st]) := by
            unfold layStep
            rw [if_pos hin, hpt]
          have fresh : valV kvs (Sum.inr st.1) = none := by
            rcases pdict_look hp4.rel st.1 with ⟨_, _, _, h, _⟩ | ⟨h, _⟩
            · exfalso
              rcases layAll_keys (look_key h) with h | h
              · exact pd.off st ms h
              · have nd := pd.nd
                rw [← List.take_append_drop i sts, List.map_append] at nd
                refine (List.nodup_append.mp nd).2.2 st.1 h st.1 ?_ rfl
                refine List.mem_map.mpr ⟨st, ?_, rfl⟩
                exact List.mem_of_getElem? (i := 0) (by rw [List.getElem?_drop]; simpa using ez)
            · exact h
          have lk := hp4.rel.len
          have lw := f2w.len
          have lz := lens i
          refine ⟨_, rfl, rfl, _, rfl, ?_⟩
          refine iteT ?_
          refine ⟨_, rfl, _, rfl, _, rfl, pdA, _, rfl, DPut.k (k := Sum.inr st.1) hp4.at_ (Nat.lt_of_lt_of_le (show kvs.length < 1000 by omega) (by decide)), ?_⟩
          rw [put_new fresh]
          have npf : fl ≠ pdA := ne_of hwl4 hp4.at_ (by intro z; cases z)
          have hwl5 : (L2.upd G4 pdA (.dK (kvs ++ [(Sum.inr st.1, V.ref r)]))) fl = some (.lst wl) := by
            rw [upd_ne npf]
            exact hwl4
          have hp5 : PDict CT CN (L2.upd G4 pdA (.dK (kvs ++ [(Sum.inr st.1, V.ref r)]))) pdA (kvs ++ [(Sum.inr st.1, V.ref r)]) ((layAll (sts.take i)).1 ++ [(st.1, pt)]) := by
            refine ⟨upd_same, by rw [List.length_append]; show kvs.length + 1 ≤ 1000; omega, ?_⟩
            exact (hp4.rel.mono fun _ _ ⟨q1, q2, p, q3, q4⟩ => ⟨q1, q2, p, q3, q4.off hp4.at_ _⟩).snoc ⟨rfl, pd.name st ms, r, rfl, hr4.off hp4.at_ _⟩
          have f2w5 := f2w4.mono fun _ _ q => q.off hp4.at_ (fun _ z => by cases z) (.dK (kvs ++ [(Sum.inr st.1, V.ref r)]))
          have k5 : Kp [pdA, fl] H4 (L2.upd G4 pdA (.dK (kvs ++ [(Sum.inr st.1, V.ref r)]))) := (kG.trans (Kp.of t14)).trans (Kp.upd (by simp))
          generalize L2.upd G4 pdA (.dK (kvs ++ [(Sum.inr st.1, V.ref r)])) = G5 at hwl5 hp5 f2w5 k5
          refine ⟨_, rfl, .inl ⟨rfl, _, .inl (.inl hwl5)⟩, _, rfl, _, rfl, (by show 2 ≤ sizeLine; decide), fun t nt => ?_⟩
          have t6 := same_upd (o := .tup [.str st.1, .ref p]) nt
          have ht6 := upd_same (H := G5) (a := t) (o := .tup [.str st.1, .ref p])
          have hwl6 := t6 _ _ hwl5
          have hp6 := hp5.same t6
          have f2w6 := f2w5.mono fun _ _ q => q.same t6
          have k6 := k5.trans (Kp.of t6)
          generalize L2.upd G5 t (.tup [.str st.1, .ref p]) = G6 at ht6 hwl6 hp6 f2w6 k6
          refine ⟨fl, _, _, rfl, rfl, hwl6, Nat.lt_of_lt_of_le (show wl.length < 1000 by omega) (by decide), ?_⟩
          have nt6 : NameT G6 (.ref t) st := ⟨t, .ref p, rfl, ht6⟩
          refine ⟨_, _, _, kvs ++ [(Sum.inr st.1, V.ref r)], wl ++ [V.ref t], rfl, k6.trans (Kp.upd (by simp)), ?_, upd_same, ?_⟩
          · rw [layAll_take ez, es]
            exact hp6.off hwl6 _
          · rw [layAll_take ez, es]
            exact (f2w6.mono fun _ _ q => q.off hwl6 (fun _ z => by cases z) _).snoc (nt6.off hwl6 (fun _ z => by cases z) _)
    · rintro σ G ⟨v3, v4, v6, kvs, wl, rfl, kG, hpD, hwl, f2w⟩
      rw [len, List.take_length] at f2w
      exact ⟨_, rfl, k fl wl G (s1.trans (fin1 kG)) (s1.free nflH) hwl f2w⟩
end
end Own
set_option Elab.async false
set_option linter.all false
set_option maxRecDepth 100000
set_option maxHeartbeats 1000000
set_option exponentiation.threshold 300
namespace Own
open PySem PySem.Spec PyProof.Rows L2 LamX
/-! ### how great the parts of points become -/
theorem bn_mul {n m a b : Nat} (h1 : n < 2 ^ a) (h2 : m < 2 ^ b) : n * m < 2 ^ (a + b) := by
  rw [Nat.pow_add]
  exact Nat.mul_lt_mul'' h1 h2
theorem bn_mono {n a b : Nat} (h : n < 2 ^ a) (l : a ≤ b) : n < 2 ^ b := Nat.lt_of_lt_of_le h (Nat.pow_le_pow_right (by decide) l)
theorem bz_mul {n m : Int} {a b c : Nat} (h1 : n.natAbs < 2 ^ a) (h2 : m.natAbs < 2 ^ b) (e : a + b ≤ c) : (n * m).natAbs < 2 ^ c := by
  rw [Int.natAbs_mul]
  exact bn_mono (bn_mul h1 h2) e
theorem bz_sub {n m : Int} {a c : Nat} (h1 : n.natAbs < 2 ^ a) (h2 : m.natAbs < 2 ^ a) (e : a + 1 ≤ c) : (n - m).natAbs < 2 ^ c := by
  have p : 2 ^ (a + 1) = 2 ^ a * 2 := Nat.pow_succ 2 a
  refine Nat.lt_of_lt_of_le ?_ (Nat.pow_le_pow_right (by decide) e)
  omega
theorem bz_add {n m : Int} {a c : Nat} (h1 : n.natAbs < 2 ^ a) (h2 : m.natAbs < 2 ^ a) (e : a + 1 ≤ c) : (n + m).natAbs < 2 ^ c := by
  have p : 2 ^ (a + 1) = 2 ^ a * 2 := Nat.pow_succ 2 a
  refine Nat.lt_of_lt_of_le ?_ (Nat.pow_le_pow_right (by decide) e)
  omega
/-- q is told by a fraction with such parts -/
def Fb (q : Rat) (a b : Nat) : Prop := q.num.natAbs < 2 ^ a ∧ q.den < 2 ^ b
theorem rat_cast {q : Rat} {D N : Int} (h : q * D = N) : q.num * D = N * (q.den : Int) := by
  have e : q = (q.num : Rat) / ((q.den : Nat) : Rat) := by rw [← Rat.mkRat_eq_div, Rat.mkRat_self]
  have hd : ((q.den : Nat) : Rat) ≠ 0 := by
    intro z
    have : ((q.den : Nat) : Rat) = ((0 : Nat) : Rat) := z
    exact q.den_nz (by exact_mod_cast this)
  have h2 : (q.num : Rat) * (D : Rat) = (N : Rat) * ((q.den : Nat) : Rat) := by grind
  have h3 : ((q.num * D : Int) : Rat) = ((N * (q.den : Int) : Int) : Rat) := by
    rw [Rat.intCast_mul, Rat.intCast_mul, Rat.intCast_natCast]
    exact h2
  exact Rat.intCast_inj.mp h3
theorem fb_of {q : Rat} {D N : Int} {a b : Nat} (h : q * D = N) (hD : D ≠ 0) (hN : N.natAbs < 2 ^ a) (hd : D.natAbs < 2 ^ b) : Fb q a b := by
  have e := rat_cast h
  have co : q.den ∣ D.natAbs := by
    have h1 : (q.den : Int) ∣ q.num * D := ⟨N, by rw [e, Int.mul_comm]⟩
    have h2 : q.den ∣ q.num.natAbs * D.natAbs := by
      have := Int.natAbs_dvd_natAbs.mpr h1
      rwa [Int.natAbs_mul, Int.natAbs_natCast] at this
    exact (Nat.Coprime.symm q.reduced).dvd_of_dvd_mul_left h2
  obtain ⟨k, hk⟩ := co
  have kp : 0 < k := Nat.pos_of_ne_zero fun z => by
    rw [z, Nat.mul_zero] at hk
    omega
  have e2 : q.num.natAbs * (q.den * k) = N.natAbs * q.den := by
    have := congrArg Int.natAbs e
    rw [Int.natAbs_mul, Int.natAbs_mul, Int.natAbs_natCast, hk] at this
    exact this
  have e3 : q.num.natAbs * k = N.natAbs := by
    have : q.den * (q.num.natAbs * k) = q.den * N.natAbs := by
      rw [Nat.mul_comm q.den N.natAbs, ← e2, ← Nat.mul_assoc, ← Nat.mul_assoc, Nat.mul_comm q.den]
    exact Nat.eq_of_mul_eq_mul_left q.den_pos this
  refine ⟨Nat.lt_of_le_of_lt ?_ hN, Nat.lt_of_le_of_lt ?_ hd⟩
  · rw [← e3]
    exact Nat.le_mul_of_pos_right _ kp
  · rw [hk]
    exact Nat.le_mul_of_pos_right _ kp
theorem sz_fb {q : Rat} {a b : Nat} (h : Fb q a b) (ha : a ≤ 100000) (hb : b ≤ 9000) : Sz q.num q.den := by
  refine ⟨?_, ?_⟩
  · by_cases h0 : q.num.natAbs = 0
    · rw [h0]; decide
    · exact Nat.lt_of_lt_of_le ((Nat.log2_lt h0).mpr h.1) ha
  · exact Nat.lt_of_lt_of_le ((Nat.log2_lt q.den_nz).mpr h.2) hb
theorem ok2_fb {x y : Rat} {a b c d : Nat} (hx : Fb x a b) (hy : Fb y c d) (ha : a ≤ 100000) (hc : c ≤ 100000) (hl : b + d ≤ 9000) : Ok2 x y := by
  refine ⟨sz_fb hx ha (by omega), sz_fb hy hc (by omega), ?_⟩
  exact Nat.lt_of_lt_of_le ((Nat.log2_lt (Nat.mul_ne_zero x.den_nz y.den_nz)).mpr (bn_mul hx.2 hy.2)) hl
theorem okD_fb {x y : Rat} {a b c d : Nat} (hx : Fb x a b) (hy : Fb y c d) (y0 : y ≠ 0) (ha : a ≤ 100000) (hc : c ≤ 9000) (hd : d ≤ 9000) (hl : b + c ≤ 9000) : OkD x y := by
  have n0 : y.num.natAbs ≠ 0 := by
    have : y.num ≠ 0 := fun z => y0 (Rat.num_eq_zero.mp z)
    omega
  refine ⟨sz_fb hx ha (by omega), sz_fb hy (by omega) hd, y0, ?_, ?_, ?_⟩
  · exact Nat.lt_of_lt_of_le ((Nat.log2_lt (Nat.mul_ne_zero x.den_nz n0)).mpr (bn_mul hx.2 hy.1)) hl
  · exact Nat.lt_of_lt_of_le ((Nat.log2_lt n0).mpr hy.1) hc
  · exact Nat.lt_of_lt_of_le ((Nat.log2_lt y.den_nz).mpr hy.2) hd
/-- x is (X, Y) over Z, all of them of so many bits -/
structure Hom (h : Nat) (x : Pt) (X Y Z : Int) : Prop where
  z : Z ≠ 0
  bx : X.natAbs < 2 ^ h
  by_ : Y.natAbs < 2 ^ h
  bz : Z.natAbs < 2 ^ h
  ex : x.1 * Z = X
  ey : x.2 * Z = Y
def Hb (h : Nat) (x : Pt) : Prop := ∃ X Y Z, Hom h x X Y Z
theorem cast_ne {z : Int} (h : z ≠ 0) : (z : Rat) ≠ 0 := fun e => h (Rat.intCast_inj.mp e)
theorem Hom.mono {h k : Nat} {x : Pt} {X Y Z : Int} (q : Hom h x X Y Z) (l : h ≤ k) : Hom k x X Y Z := ⟨q.z, bn_mono q.bx l, bn_mono q.by_ l, bn_mono q.bz l, q.ex, q.ey⟩
theorem Hom.fb {h : Nat} {x : Pt} {X Y Z : Int} (q : Hom h x X Y Z) : Fb x.1 h h ∧ Fb x.2 h h := ⟨fb_of q.ex q.z q.bx q.bz, fb_of q.ey q.z q.by_ q.bz⟩
/-- a way: its parts over one whole -/
structure Way (h : Nat) (w : Pt) (M1 M2 V : Int) : Prop where
  v : V ≠ 0
  b1 : M1.natAbs < 2 ^ (2 * h + 1)
  b2 : M2.natAbs < 2 ^ (2 * h + 1)
  bv : V.natAbs < 2 ^ (2 * h)
  e1 : w.1 * V = M1
  e2 : w.2 * V = M2
theorem Way.fb {h : Nat} {w : Pt} {M1 M2 V : Int} (q : Way h w M1 M2 V) : Fb w.1 (2 * h + 1) (2 * h) ∧ Fb w.2 (2 * h + 1) (2 * h) := ⟨fb_of q.e1 q.v q.b1 q.bv, fb_of q.e2 q.v q.b2 q.bv⟩
theorem way_of {h : Nat} {a b : Pt} {aX aY aZ bX bY bZ : Int} (qa : Hom h a aX aY aZ) (qb : Hom h b bX bY bZ) : Way h (wayQ a b) (bX * aZ - aX * bZ) (bY * aZ - aY * bZ) (aZ * bZ) := by
  refine ⟨Int.mul_ne_zero qa.z qb.z, ?_, ?_, ?_, ?_, ?_⟩
  · exact bz_sub (bz_mul qb.bx qa.bz (Nat.le_refl _)) (bz_mul qa.bx qb.bz (Nat.le_refl _)) (by omega)
  · exact bz_sub (bz_mul qb.by_ qa.bz (Nat.le_refl _)) (bz_mul qa.by_ qb.bz (Nat.le_refl _)) (by omega)
  · exact bz_mul qa.bz qb.bz (by omega)
  · show (b.1 - a.1) * _ = _
    rw [Rat.intCast_sub, Rat.intCast_mul, Rat.intCast_mul, Rat.intCast_mul, ← qa.ex, ← qb.ex]
    grind
  · show (b.2 - a.2) * _ = _
    rw [Rat.intCast_sub, Rat.intCast_mul, Rat.intCast_mul, Rat.intCast_mul, ← qa.ey, ← qb.ey]
    grind
theorem quart_of {h : Nat} {w : Pt} {M1 M2 V : Int} (q : Way h w M1 M2 V) : Way h (quartQ w) (-M2) M1 V := by
  refine ⟨q.v, by rw [Int.natAbs_neg]; exact q.b2, q.b1, q.bv, ?_, q.e1⟩
  show (0 - w.2) * _ = _
  rw [Rat.intCast_neg, ← q.e2]
  grind
theorem cross_of {h : Nat} {w l : Pt} {M1 M2 V L1 L2 U : Int} (q : Way h w M1 M2 V) (r : Way h l L1 L2 U) : crossQ w l * ((V * U : Int) : Rat) = ((M1 * L2 - M2 * L1 : Int) : Rat) ∧ (M1 * L2 - M2 * L1).natAbs < 2 ^ (4 * h + 3) ∧ (V * U).natAbs < 2 ^ (4 * h) ∧ V * U ≠ 0 := by
  refine ⟨?_, ?_, ?_, Int.mul_ne_zero q.v r.v⟩
  · rw [Rat.intCast_sub, Rat.intCast_mul, Rat.intCast_mul, Rat.intCast_mul, ← q.e1, ← q.e2, ← r.e1, ← r.e2]
    unfold crossQ
    grind
  · exact bz_sub (a := 4 * h + 2) (bz_mul q.b1 r.b2 (by omega)) (bz_mul q.b2 r.b1 (by omega)) (by omega)
  · exact bz_mul q.bv r.bv (by omega)
theorem cross_ok {h : Nat} {w l : Pt} {M1 M2 V L1 L2 U : Int} (q : Way h w M1 M2 V) (r : Way h l L1 L2 U) (hh : h ≤ 1030) : CrossOk w l := by
  have m1 : Fb (w.1 * l.2) (4 * h + 2) (4 * h) := by
    refine fb_of (D := V * U) (N := M1 * L2) ?_ (Int.mul_ne_zero q.v r.v) (bz_mul q.b1 r.b2 (by omega)) (bz_mul q.bv r.bv (by omega))
    rw [Rat.intCast_mul, Rat.intCast_mul, ← q.e1, ← r.e2]
    grind
  have m2 : Fb (w.2 * l.1) (4 * h + 2) (4 * h) := by
    refine fb_of (D := V * U) (N := M2 * L1) ?_ (Int.mul_ne_zero q.v r.v) (bz_mul q.b2 r.b1 (by omega)) (bz_mul q.bv r.bv (by omega))
    rw [Rat.intCast_mul, Rat.intCast_mul, ← q.e2, ← r.e1]
    grind
  exact ⟨ok2_fb q.fb.1 r.fb.2 (by omega) (by omega) (by omega), ok2_fb q.fb.2 r.fb.1 (by omega) (by omega) (by omega), ok2_fb m1 m2 (by omega) (by omega) (by omega)⟩
theorem way_ok {h : Nat} {a b : Pt} {aX aY aZ bX bY bZ : Int} (qa : Hom h a aX aY aZ) (qb : Hom h b bX bY bZ) (hh : h ≤ 1030) : WayOk a b :=
  ⟨ok2_fb qb.fb.1 qa.fb.1 (by omega) (by omega) (by omega), ok2_fb qb.fb.2 qa.fb.2 (by omega) (by omega) (by omega)⟩
theorem met_of {h : Nat} {s w c d : Pt} {Xs Ys Zs M1 M2 V cX cY cZ dX dY dZ : Int} (hh : h ≤ 1030) (qs : Hom h s Xs Ys Zs) (qw : Way h w M1 M2 V) (qc : Hom h c cX cY cZ) (qd : Hom h d dX dY dZ) :
    MetOk s w c d ∧ ∀ x, metQ s w c d = some x → Hb (5 * h + 5) x := by
  have ql := way_of qc qd
  have qg := way_of qs qc
  obtain ⟨c1, c2, c3, c4⟩ := cross_of qw ql
  obtain ⟨g1, g2, g3, g4⟩ := cross_of qg ql
  -- the share
  have key : crossQ w (wayQ c d) ≠ 0 → M1 * (dY * cZ - cY * dZ) - M2 * (dX * cZ - cX * dZ) ≠ 0 := fun ne z => by
    rw [z] at c1
    have h0 : ((V * (cZ * dZ) : Int) : Rat) ≠ 0 := cast_ne c4
    have : crossQ w (wayQ c d) * ((V * (cZ * dZ) : Int) : Rat) = 0 := c1
    rcases Rat.mul_eq_zero.mp this with e | e
    · exact ne e
    · exact h0 e
  have eJ : crossQ (wayQ s c) (wayQ c d) * ((Zs * (cZ * dZ) : Int) : Rat) = ((Zs * (cX * dY - cY * dX) - (Xs * (dY * cZ - cY * dZ) - Ys * (dX * cZ - cX * dZ)) : Int) : Rat) := by
    push_cast
    rw [← qs.ex, ← qs.ey, ← qc.ex, ← qc.ey, ← qd.ex, ← qd.ey]
    unfold crossQ wayQ
    dsimp only
    grind
  have bE : (cX * dY - cY * dX).natAbs < 2 ^ (2 * h + 1) := bz_sub (a := 2 * h) (bz_mul qc.bx qd.by_ (by omega)) (bz_mul qc.by_ qd.bx (by omega)) (by omega)
  have bJ : (Zs * (cX * dY - cY * dX) - (Xs * (dY * cZ - cY * dZ) - Ys * (dX * cZ - cX * dZ))).natAbs < 2 ^ (3 * h + 3) := by
    refine bz_sub (a := 3 * h + 2) (bz_mul qs.bz bE (by omega)) (bz_sub (a := 3 * h + 1) (bz_mul qs.bx ql.b2 (by omega)) (bz_mul qs.by_ ql.b1 (by omega)) (by omega)) (by omega)
  generalize hJ : Zs * (cX * dY - cY * dX) - (Xs * (dY * cZ - cY * dZ) - Ys * (dX * cZ - cX * dZ)) = J at eJ bJ
  generalize hN : M1 * (dY * cZ - cY * dZ) - M2 * (dX * cZ - cX * dZ) = N at c1 c2 key
  have share : crossQ w (wayQ c d) ≠ 0 → shareQ s w c d * ((N * Zs : Int) : Rat) = ((J * V : Int) : Rat) := fun ne => by
    have e : shareQ s w c d * crossQ w (wayQ c d) = crossQ (wayQ s c) (wayQ c d) := by
      unfold shareQ
      grind
    have u0 : ((cZ * dZ : Int) : Rat) ≠ 0 := cast_ne ql.v
    have c1' : crossQ w (wayQ c d) * ((V : Rat) * ((cZ * dZ : Int) : Rat)) = (N : Rat) := by rw [← Rat.intCast_mul]; exact c1
    have eJ' : crossQ (wayQ s c) (wayQ c d) * ((Zs : Rat) * ((cZ * dZ : Int) : Rat)) = (J : Rat) := by rw [← Rat.intCast_mul]; exact eJ
    rw [Rat.intCast_mul, Rat.intCast_mul, ← c1', ← eJ', ← e]
    grind
  have bN : (N * Zs).natAbs < 2 ^ (5 * h + 3) := bz_mul c2 qs.bz (by omega)
  have bX : (Xs * N + J * M1).natAbs < 2 ^ (5 * h + 5) := bz_add (a := 5 * h + 4) (bz_mul qs.bx c2 (by omega)) (bz_mul bJ qw.b1 (by omega)) (by omega)
  have bY : (Ys * N + J * M2).natAbs < 2 ^ (5 * h + 5) := bz_add (a := 5 * h + 4) (bz_mul qs.by_ c2 (by omega)) (bz_mul bJ qw.b2 (by omega)) (by omega)
  refine ⟨⟨way_ok qc qd hh, cross_ok qw ql hh, fun ne => ?_⟩, fun x hx => ?_⟩
  · have N0 := key ne
    have nz : N * Zs ≠ 0 := Int.mul_ne_zero N0 qs.z
    have es := share ne
    have fs : Fb (shareQ s w c d) (5 * h + 3) (5 * h + 3) := fb_of es nz (bz_mul bJ qw.bv (by omega)) bN
    have m1 : Fb (shareQ s w c d * w.1) (5 * h + 4) (5 * h + 3) := by
      refine fb_of (D := N * Zs) (N := J * M1) ?_ nz (bz_mul bJ qw.b1 (by omega)) bN
      rw [Rat.intCast_mul J M1, ← qw.e1]
      rw [Rat.intCast_mul J V] at es
      grind
    have m2 : Fb (shareQ s w c d * w.2) (5 * h + 4) (5 * h + 3) := by
      refine fb_of (D := N * Zs) (N := J * M2) ?_ nz (bz_mul bJ qw.b2 (by omega)) bN
      rw [Rat.intCast_mul J M2, ← qw.e2]
      rw [Rat.intCast_mul J V] at es
      grind
    have fc : Fb (crossQ w (wayQ c d)) (4 * h + 3) (4 * h) := fb_of c1 c4 c2 c3
    have fg : Fb (crossQ (wayQ s c) (wayQ c d)) (4 * h + 3) (4 * h) := fb_of g1 g4 g2 g3
    exact ⟨way_ok qs qc hh, cross_ok qg ql hh, okD_fb fg fc ne (by omega) (by omega) (by omega) (by omega), ok2_fb fs qw.fb.1 (by omega) (by omega) (by omega), ok2_fb fs qw.fb.2 (by omega) (by omega) (by omega), ok2_fb qs.fb.1 m1 (by omega) (by omega) (by omega), ok2_fb qs.fb.2 m2 (by omega) (by omega) (by omega)⟩
  · unfold metQ at hx
    by_cases ne : crossQ w (wayQ c d) = 0
    · rw [if_pos ne] at hx
      cases hx
    rw [if_neg ne] at hx
    cases hx
    have N0 := key ne
    have es := share ne
    rw [Rat.intCast_mul, Rat.intCast_mul] at es
    refine ⟨Xs * N + J * M1, Ys * N + J * M2, N * Zs, Int.mul_ne_zero N0 qs.z, bX, bY, bn_mono bN (by omega), ?_, ?_⟩
    · show (s.1 + shareQ s w c d * w.1) * _ = _
      rw [Rat.intCast_add, Rat.intCast_mul, Rat.intCast_mul, Rat.intCast_mul, ← qs.ex, ← qw.e1]
      grind
    · show (s.2 + shareQ s w c d * w.2) * _ = _
      rw [Rat.intCast_add, Rat.intCast_mul, Rat.intCast_mul, Rat.intCast_mul, ← qs.ey, ← qw.e2]
      grind
/-- what may be summed, and how great it becomes -/
theorem lay_hb {h : Nat} (hh : h ≤ 1030) : ∀ {pts : List Pt}, (∀ x ∈ pts, Hb h x) → OkP pts ∧ ∀ x, layP pts = some x → Hb (5 * h + 5) x
  | [a, b, c, d], H => by
    obtain ⟨_, _, _, qa⟩ := H a (by simp)
    obtain ⟨_, _, _, qb⟩ := H b (by simp)
    obtain ⟨_, _, _, qc⟩ := H c (by simp)
    obtain ⟨_, _, _, qd⟩ := H d (by simp)
    obtain ⟨m1, m2⟩ := met_of hh qa (way_of qa qb) qc qd
    refine ⟨fun _ _ => ⟨way_ok qa qb hh, m1⟩, fun x hx => m2 x ?_⟩
    have hx : meetQ a b c d = some x := hx
    unfold meetQ at hx
    split at hx
    · cases hx
    · exact hx
  | [p, a, b, c, d], H => by
    obtain ⟨_, _, _, qp⟩ := H p (by simp)
    obtain ⟨_, _, _, qa⟩ := H a (by simp)
    obtain ⟨_, _, _, qb⟩ := H b (by simp)
    obtain ⟨_, _, _, qc⟩ := H c (by simp)
    obtain ⟨_, _, _, qd⟩ := H d (by simp)
    have qw := way_of qa qb
    obtain ⟨m1, m2⟩ := met_of hh qp (quart_of qw) qc qd
    have z0 : Fb (0 : Rat) 1 1 := ⟨by decide, by decide⟩
    refine ⟨fun _ _ => ⟨way_ok qa qb hh, ok2_fb z0 qw.fb.2 (by omega) (by omega) (by omega), m1⟩, fun x hx => m2 x ?_⟩
    have hx : upQ p a b c d = some x := hx
    unfold upQ at hx
    split at hx
    · cases hx
    · exact hx
  | [], _ => ⟨trivial, fun _ h => by cases h⟩
  | [_], _ => ⟨trivial, fun _ h => by cases h⟩
  | [_, _], _ => ⟨trivial, fun _ h => by cases h⟩
  | [_, _, _], _ => ⟨trivial, fun _ h => by cases h⟩
  | _ :: _ :: _ :: _ :: _ :: _ :: _, _ => ⟨trivial, fun _ h => by cases h⟩
theorem hb_den {h : Nat} {x : Pt} (q : Hb h x) (hh : h ≤ 9000) : DenOk x := by
  obtain ⟨_, _, _, q⟩ := q
  exact ⟨(sz_fb q.fb.1 (by omega) hh).2, (sz_fb q.fb.2 (by omega) hh).2⟩
end Own
set_option Elab.async false
set_option linter.all false
set_option maxRecDepth 100000
set_option maxHeartbeats 1000000
set_option exponentiation.threshold 300
namespace Own
open PySem PySem.Spec PyProof.Rows L2 LamX
/-! ### drawings of five steps; names exchanged -/
def hb7 (x : Pt) : Bool := decide ((x.1.num * (x.2.den : Int)).natAbs < 128) && (decide ((x.2.num * (x.1.den : Int)).natAbs < 128) && decide (((x.1.den : Int) * (x.2.den : Int)).natAbs < 128))
theorem first4 : (SHP.all fun a => SHP.all fun b => SHP.all fun c => SHP.all fun d => match meetQ a b c d with | some x => hb7 x | none => true) = true := by decide +kernel
theorem first5 : (SHP.all fun p => SHP.all fun a => SHP.all fun b => SHP.all fun c => SHP.all fun d => match upQ p a b c d with | some x => hb7 x | none => true) = true := by decide +kernel
theorem hb7_of {x : Pt} (h : hb7 x = true) : Hb 7 x := by
  unfold hb7 at h
  rw [Bool.and_eq_true, Bool.and_eq_true, decide_eq_true_iff, decide_eq_true_iff, decide_eq_true_iff] at h
  obtain ⟨h1, h2, h3⟩ := h
  have e : ∀ q : Rat, q * ((q.den : Nat) : Rat) = (q.num : Rat) := fun q => by
    have e : q = (q.num : Rat) / ((q.den : Nat) : Rat) := by rw [← Rat.mkRat_eq_div, Rat.mkRat_self]
    have hd : ((q.den : Nat) : Rat) ≠ 0 := by
      intro z
      have : ((q.den : Nat) : Rat) = ((0 : Nat) : Rat) := z
      exact q.den_nz (by exact_mod_cast this)
    grind
  refine ⟨_, _, _, ?_, h1, h2, h3, ?_, ?_⟩
  · have := x.1.den_nz
    have := x.2.den_nz
    exact Int.mul_ne_zero (by omega) (by omega)
  · rw [Rat.intCast_mul, Rat.intCast_mul, Rat.intCast_natCast, Rat.intCast_natCast, ← e x.1]
    grind
  · rw [Rat.intCast_mul, Rat.intCast_mul, Rat.intCast_natCast, Rat.intCast_natCast, ← e x.2]
    grind
theorem lay_first : ∀ {pts : List Pt}, (∀ x ∈ pts, x ∈ SHP) → ∀ x, layP pts = some x → Hb 7 x
  | [a, b, c, d], H, x, hx => by
    have h := List.all_eq_true.mp (List.all_eq_true.mp (List.all_eq_true.mp (List.all_eq_true.mp first4 a (H a (by simp))) b (H b (by simp))) c (H c (by simp))) d (H d (by simp))
    have hx : meetQ a b c d = some x := hx
    rw [hx] at h
    exact hb7_of h
  | [p, a, b, c, d], H, x, hx => by
    have h := List.all_eq_true.mp (List.all_eq_true.mp (List.all_eq_true.mp (List.all_eq_true.mp (List.all_eq_true.mp first5 p (H p (by simp))) a (H a (by simp))) b (H b (by simp))) c (H c (by simp))) d (H d (by simp))
    have hx : upQ p a b c d = some x := hx
    rw [hx] at h
    exact hb7_of h
  | [], _, _, h => by cases h
  | [_], _, _, h => by cases h
  | [_, _], _, _, h => by cases h
  | [_, _, _], _, _, h => by cases h
  | _ :: _ :: _ :: _ :: _ :: _ :: _, _, _, h => by cases h
theorem sheet_hb : ∀ x ∈ SHP, Hb 2 x := by
  intro x hx
  have g : ∀ (X Y : Int), X.natAbs < 2 ^ 2 → Y.natAbs < 2 ^ 2 → Hb 2 ((X : Rat), (Y : Rat)) := fun X Y h1 h2 => ⟨X, Y, 1, by decide, h1, h2, by decide, by show (X : Rat) * ((1 : Int) : Rat) = X; grind, by show (Y : Rat) * ((1 : Int) : Rat) = Y; grind⟩
  unfold SHP at hx
  simp only [List.mem_cons, List.not_mem_nil, or_false] at hx
  rcases hx with rfl | rfl | rfl | rfl | rfl
  · exact g 0 0 (by decide) (by decide)
  · exact g 1 0 (by decide) (by decide)
  · exact g 2 0 (by decide) (by decide)
  · exact g 0 1 (by decide) (by decide)
  · exact g 0 2 (by decide) (by decide)
def hs : Nat → Nat
  | 0 => 2
  | 1 => 7
  | n + 2 => 5 * hs (n + 1) + 5
theorem pts_mem {env : List (Str × Pt)} {ns : List Str} (h : ∀ z ∈ ns, (env.lookup z).isSome = true) {x : Pt} (hx : x ∈ ptsOf env ns) : ∃ e ∈ env, e.2 = x := by
  obtain ⟨z, hz, rfl⟩ := List.mem_map.mp hx
  have := h z hz
  cases e : env.lookup z with
  | none => rw [e] at this; cases this
  | some y =>
    rw [Option.getD_some]
    have gen : ∀ env : List (Str × Pt), env.lookup z = some y → ∃ e ∈ env, e.2 = y := fun env q => by
      induction env with
      | nil => cases q
      | cons u env ih =>
        obtain ⟨k, v⟩ := u
        by_cases c : z = k
        · subst c
          simp [List.lookup] at q
          exact ⟨_, List.mem_cons_self, q⟩
        · have c' : (z == k) = false := by simpa using c
          simp only [List.lookup, c'] at q
          obtain ⟨w, hw, ew⟩ := ih q
          exact ⟨w, List.mem_cons_of_mem _ hw, ew⟩
    exact gen env e
theorem lay_env {sts : List (Str × Deed)} : ∀ i, i ≤ 4 → (∀ e ∈ (layAll (sts.take i)).1, Hb (hs i) e.2) ∧ (i = 0 → ∀ e ∈ (layAll (sts.take i)).1, e.2 ∈ SHP) := fun i => by
  induction i with
  | zero =>
    intro _
    have q : ∀ e ∈ (layAll (sts.take 0)).1, e.2 ∈ SHP := fun e he => (List.of_mem_zip (a := e.1) (b := e.2) he).2
    exact ⟨fun e he => sheet_hb _ (q e he), fun _ => q⟩
  | succ i ih =>
    intro hi
    obtain ⟨h1, h2⟩ := ih (by omega)
    refine ⟨fun e he => ?_, fun z => by omega⟩
    have up : hs i ≤ hs (i + 1) := by
      have : i = 0 ∨ i = 1 ∨ i = 2 ∨ i = 3 := by omega
      rcases this with rfl | rfl | rfl | rfl <;> decide
    have lift : ∀ {x : Pt}, Hb (hs i) x → Hb (hs (i + 1)) x := fun ⟨X, Y, Z, q⟩ => ⟨X, Y, Z, q.mono up⟩
    cases ez : sts[i]? with
    | none =>
      have : sts.take (i + 1) = sts.take i := by rw [List.take_add_one, ez]; simp
      rw [this] at he
      exact lift (h1 e he)
    | some s =>
      rw [layAll_take ez] at he
      unfold layStep at he
      split at he
      · rename_i hin
        split at he
        · rename_i x hx
          rcases List.mem_append.mp he with he | he
          · exact lift (h1 e he)
          · rw [List.mem_singleton.mp he]
            have all : ∀ z ∈ s.2.names, ((layAll (sts.take i)).1.lookup z).isSome = true := List.all_eq_true.mp hin
            cases i with
            | zero => exact lay_first (fun y hy => by obtain ⟨e, he, rfl⟩ := pts_mem all hy; exact h2 rfl e he) x hx
            | succ i =>
              have l : hs (i + 1) ≤ 1030 := by
                have : i = 0 ∨ i = 1 ∨ i = 2 := by omega
                rcases this with rfl | rfl | rfl <;> decide
              exact (lay_hb l fun y hy => by obtain ⟨e, he, rfl⟩ := pts_mem all hy; exact h1 e he).2 x hx
        · exact lift (h1 e he)
      · exact lift (h1 e he)
theorem lay_ok {sts : List (Str × Deed)} (h : sts.length ≤ 5) : LayOk sts := fun i s ez hin => by
  have li : i < sts.length := (List.getElem?_eq_some_iff.mp ez).1
  have h1 := (lay_env (sts := sts) i (by omega)).1
  have all : ∀ z ∈ s.2.names, ((layAll (sts.take i)).1.lookup z).isSome = true := List.all_eq_true.mp hin
  have l : hs i ≤ 1030 := by
    have : i = 0 ∨ i = 1 ∨ i = 2 ∨ i = 3 ∨ i = 4 := by omega
    rcases this with rfl | rfl | rfl | rfl | rfl <;> decide
  obtain ⟨q1, q2⟩ := lay_hb l fun y hy => by obtain ⟨e, he, rfl⟩ := pts_mem all hy; exact h1 e he
  exact ⟨q1, fun x hx => hb_den (q2 x hx) (by omega)⟩
/-! #### names exchanged -/
def renD (f : Str → Str) (d : Deed) : Deed := ⟨d.word, d.names.map f, d.way⟩
def renS (f : Str → Str) (s : Str × Deed) : Str × Deed := (f s.1, renD f s.2)
def renE (f : Str → Str) (env : List (Str × Pt)) : List (Str × Pt) := env.map fun e => (f e.1, e.2)
theorem ren_look {f : Str → Str} {z : Str} : ∀ {env : List (Str × Pt)}, (∀ k ∈ env.map (·.1), f k = f z → k = z) → (renE f env).lookup (f z) = env.lookup z
  | [], _ => rfl
  | (k, v) :: env, h => by
    show List.lookup (f z) ((f k, v) :: renE f env) = _
    by_cases e : z = k
    · subst e
      simp [List.lookup]
    · have e1 : (z == k) = false := by simpa using e
      have e2 : (f z == f k) = false := by
        rw [beq_eq_false_iff_ne]
        exact fun q => e (h k List.mem_cons_self q.symm).symm
      simp only [List.lookup, e1, e2]
      exact ren_look fun y hy => h y (List.mem_cons_of_mem _ hy)
theorem ren_step {f : Str → Str} {st : LaySt} {s : Str × Deed} (h : ∀ z ∈ s.2.names, ∀ k ∈ st.1.map (·.1), f k = f z → k = z) : layStep (renE f st.1, st.2.map (renS f)) (renS f s) = (renE f (layStep st s).1, (layStep st s).2.map (renS f)) := by
  have e1 : inE (renE f st.1) (renS f s).2 = inE st.1 s.2 := by
    unfold inE
    show (s.2.names.map f).all _ = _
    rw [List.all_map, Bool.eq_iff_iff, List.all_eq_true, List.all_eq_true]
    constructor
    · intro q z hz
      have := q z hz
      show ((st.1).lookup z).isSome = true
      rw [← ren_look (h z hz)]
      exact this
    · intro q z hz
      show ((renE f st.1).lookup (f z)).isSome = true
      rw [ren_look (h z hz)]
      exact q z hz
  have e2 : ptsOf (renE f st.1) (renS f s).2.names = ptsOf st.1 s.2.names := by
    unfold ptsOf
    show (s.2.names.map f).map _ = _
    rw [List.map_map]
    refine List.map_congr_left fun z hz => ?_
    show ((renE f st.1).lookup (f z)).getD (0, 0) = _
    rw [ren_look (h z hz)]
  unfold layStep
  dsimp only
  rw [e1, e2]
  by_cases c : inE st.1 s.2 = true
  · rw [if_pos c, if_pos c]
    cases layP (ptsOf st.1 s.2.names) with
    | none => rfl
    | some x =>
      dsimp only
      unfold renE
      rw [List.map_append, List.map_append]
      rfl
  · rw [if_neg c, if_neg c]
theorem ren_fold {f : Str → Str} {S : Str → Prop} (inj : ∀ x y, S x → S y → f x = f y → x = y) : ∀ (sts : List (Str × Deed)) (st : LaySt), (∀ k ∈ st.1.map (·.1), S k) → (∀ s ∈ sts, S s.1 ∧ ∀ z ∈ s.2.names, S z) →
    (sts.map (renS f)).foldl layStep (renE f st.1, st.2.map (renS f)) = (renE f (sts.foldl layStep st).1, (sts.foldl layStep st).2.map (renS f))
  | [], _, _, _ => rfl
  | s :: sts, st, hk, hs => by
    obtain ⟨s1, s2⟩ := hs s List.mem_cons_self
    rw [List.map_cons, List.foldl_cons, List.foldl_cons, ren_step (fun z hz k hk' => inj k z (hk k hk') (s2 z hz))]
    exact ren_fold inj sts (layStep st s) (fun k h => by
      rcases layStep_keys h with h | rfl
      · exact hk k h
      · exact s1) fun t ht => hs t (List.mem_cons_of_mem _ ht)
/-- the same steps can be laid -/
theorem ren_lay {f : Str → Str} {S : Str → Prop} (inj : ∀ x y, S x → S y → f x = f y → x = y) (sh : ∀ z ∈ SHEET, S z ∧ f z = z) {sts : List (Str × Deed)} (hs : ∀ s ∈ sts, S s.1 ∧ ∀ z ∈ s.2.names, S z) : (layAll (sts.map (renS f))).2 = (layAll sts).2.map (renS f) := by
  have e : renE f (SHEET.zip SHP) = SHEET.zip SHP := by
    unfold renE
    refine (List.map_congr_left fun e he => ?_).trans (List.map_id' _)
    have := (sh e.1 (List.of_mem_zip (a := e.1) (b := e.2) he).1).2
    rw [this]
  have q := ren_fold inj sts (SHEET.zip SHP, []) (fun k hk => (sh k hk).1) hs
  unfold layAll
  have e2 : ((renE f (SHEET.zip SHP), ([] : List (Str × Deed)).map (renS f)) : LaySt) = (SHEET.zip SHP, []) := by rw [e]; rfl
  rw [e2] at q
  rw [q]
end Own
set_option Elab.async false
set_option linter.all false
set_option maxRecDepth 100000
set_option maxHeartbeats 1000000
set_option exponentiation.threshold 300
namespace Own
open PySem PySem.Spec PyProof.Rows L2 LamX
/-! ### for k in d, d a dict just made -/
def iKeysF (td : TE) : TI := fun σ H R => td σ H fun x H1 => ∃ d kvs, x = .ref d ∧ H1 d = some (.dK kvs) ∧ ∀ od, R (Itk d od kvs) (L2.upd H1 d (.frz od (.dK kvs)))
theorem pi_keysF {X : Cx} {tg e : Expr} {td : TE} (he : PE X e td) : PI X tg e (iKeysF td) := by
  refine ⟨fun pins s σ H R I h => ?_⟩
  refine thn (he.run pins s σ H _ I h) fun u s1 ⟨x, H1, I1, rx, d, kvs, ex, hd, q⟩ => ?_
  subst ex
  obtain rfl : u = Value.ref d := rx
  obtain ⟨od, I2⟩ := I1.lock hd trivial
  obtain ⟨hs, hgd, hx, es, ep, vs, hdt, hsz, kv, hm⟩ := I2.frzK upd_same
  refine iter_keys hs hgd hx hdt (pi_one (tk := s1.toks) I2 _ (turn_keys _ hdt) ⟨_, Heap.get?_push_size _ rfl, rfl, ?_⟩ (q od))
  rw [hsz] <;> rfl
/-! ### names exchanged: what is due -/
structure TabQ (H : Hp) (b : Addr) (kvs : List (Key × V)) (ds : List PyData) : Prop where
  at_ : H b = some (.dK kvs)
  len : kvs.length ≤ 1000
  rel : F2 (fun (kv : Key × V) d => Dq [b] H kv.2 d ∧ vdb d = true ∧ vdb (kD kv.1) = true) kvs ds
def tabQB (kvs : List (Key × V)) (ds : List PyData) : Bool := (kvs.zip ds).all fun q => nameB (kD q.1.1) && nameB q.2
def tbK (tb : List (Str × Str)) : List (Key × V) := tb.map fun e => (Sum.inr e.1, V.str e.2)
theorem tbK_look (z : Str) : ∀ tb : List (Str × Str), valV (tbK tb) (Sum.inr z) = (tb.lookup z).map V.str
  | [] => rfl
  | (y, v) :: tb => by
    show ((List.find? _ ((Sum.inr y, V.str v) :: tbK tb)).map _) = _
    by_cases e : y = z
    · subst e
      rw [List.find?_cons_of_pos (by simp)]
      simp [List.lookup]
    · rw [List.find?_cons_of_neg (by simpa using e)]
      have : (z == y) = false := by simpa using fun q => e q.symm
      simp only [List.lookup, this]
      exact tbK_look z tb
def turnF (sts : List (Str × Deed)) (tb : List (Str × Str)) (z : Str) : Str := if z ∈ sts.map (·.1) then (tb.lookup z).getD z else z
def exch (f : Str → Str) : List Str → List (Str × Deed) → Sum Str (List (Str × Deed))
  | _, [] => .inr []
  | tk, s :: r => if f s.1 ∈ tk then .inl (f s.1) else match exch f (tk ++ [f s.1]) r with
    | .inl z => .inl z
    | .inr l => .inr (renS f s :: l)
theorem exch_hit {f : Str → Str} {tk : List Str} {s : Str × Deed} {r : List (Str × Deed)} (h : f s.1 ∈ tk) : exch f tk (s :: r) = .inl (f s.1) := if_pos h
theorem exch_go {f : Str → Str} {tk : List Str} {s : Str × Deed} {r : List (Str × Deed)} (h : f s.1 ∉ tk) : exch f tk (s :: r) = match exch f (tk ++ [f s.1]) r with | .inl z => .inl z | .inr l => .inr (renS f s :: l) := if_neg h
theorem put_all {Pr : Key × V → Prop} {kvs : List (Key × V)} {k : Key} {v : V} (h : ∀ e ∈ kvs, Pr e) (hk : Pr (k, v)) : ∀ e ∈ putK kvs k v, Pr e := by
  unfold putK
  split
  · intro e he
    obtain ⟨kv, hm, rfl⟩ := List.mem_map.mp he
    by_cases c : kv.1 = k
    · rw [if_pos c, c]
      exact hk
    · rw [if_neg c]
      exact h kv hm
  · intro e he
    rcases List.mem_append.mp he with he | he
    · exact h e he
    · rw [List.mem_singleton.mp he]
      exact hk
theorem onV_ren {kvs : List (Key × V)} {f : Str → Str} {d : Deed} (h : ∀ z ∈ d.names, (valV kvs (Sum.inr z)).getD (.str z) = .str (f z)) : onV kvs d = (renD f d).vs := by
  unfold onV Deed.vs renD
  dsimp only
  rw [List.map_map, List.map_congr_left h]
  rfl
abbrev tCl : SupX.Txt := ⟨"Clash", "name", "name", "see the value"⟩
def spRenamed (NOW : List Str) (CW CT CC : Addr) : Sp := fun vs H Q E => ∃ (x y : V) (d : PyData), vs = [x, y] ∧ DrawIn NOW H x d ∧ ((drawV SHEET d = false ∧ ∀ H', Same H H' → E (.ref CW) none H') ∨ ∃ sts, DrawOk NOW H x sts d ∧ (∀ s ∈ sts, NameOk s.1) ∧ sts.length ≤ 100 ∧
  ((((∃ d', Dq [] H y d' ∧ isD d' = false) ∨ ∃ b kvs ds, y = .ref b ∧ TabQ H b kvs ds ∧ tabQB kvs ds = false) ∧ ∀ H', Same H H' → E (.ref CT) none H') ∨
    ∃ b tb, y = .ref b ∧ H b = some (.dK (tbK tb)) ∧ tb.length ≤ 1000 ∧ (∀ e ∈ tb, NameOk e.1 ∧ NameOk e.2) ∧
      (∀ z, exch (turnF sts tb) SHEET sts = .inl z → ∀ o H', Same H H' → H' o = some (.xd [("name", .str z)]) → E (.ref CC) (some o) H') ∧
      ∀ rs, exch (turnF sts tb) SHEET sts = .inr rs → ∀ l ws H', Same H H' → H l = none → H' l = some (.lst ws) → F2 (Dq [] H') ws (rs.map stepPy) → Q (.ref l) H'))
section
variable {NOW : List Str} {P : Program} {w : World} {K : PySem.W.Frag} {mg : Str → Option Value} {base : Heap} {f CT CN CD CW CB CC fI : Addr} {fd2 fdS fdD fdN fdO : FuncData}
abbrev nsRenamed : List Str := ["steps", "table", "name", "fresh", "turn", "deed", "taken", "found"]
theorem scRenamed : FnScope nsRenamed ["steps", "table"] (defScope sRenamed) := ⟨rfl, rfl, rfl, by decide +kernel, rfl, by decide +kernel, by decide +kernel⟩
theorem ok_renamed (F : FnP K "renamed" sRenamed f fd2) (KD : Fk P w K mg base (L2.CX P w) 7 "need_drawing" fdD ["steps"] (spNeedDr NOW CW)) (KN : Fk P w K mg base CX0 1 "is_name" fdN ["value"] spName) (KS : Fk P w K mg base CX0 5 "sheet" fdS [] (spSheetQ CT CN)) (KO : Fk P w K mg base (L2.CX P w) 4 "on_names" fdO ["deed", "table"] (spOnNames NOW CD CB)) (T : Txt K mg)
    (B : ExcT K mg "BadTable" CB) (S : SupX.Has P K mg tCl CC fI) : FnOk P w K mg base (L2.CX P w) 8 f fd2 ["steps", "table"] (spRenamed NOW CW CB CC) := by
  refine F.ok scRenamed (fun vs H Q E h => ?_) (fun cdv A outer s H vs Q E hr h => ?_)
  · obtain ⟨x, y, d, rfl, _⟩ := h
    rfl
  · obtain ⟨x, y, d, rfl, hx, k⟩ := h
    have hu := hu_of hr
    have hr1 := hr.mono (show 1 ≤ 7 by decide)
    have hr4 := hr.mono (show 4 ≤ 7 by decide)
    have hr5 := hr.mono (show 5 ≤ 7 by decide)
    refine ⟨_, pss_cons (ps_expr (pe_call KD.ok hr (by rfl) KD.g KD.kp KD.b .nil (passes_call (takes_of rfl rfl rfl rfl) fun _ _ _ _ h => h) (pa_cons (pv 0) pa_nil)))
      (pss_cons (ps_if (pt_not (pt_val (pe_callB call_isi (by rfl) T.isi boot_isinstance (pa_cons (pv 1) (pa_cons (pe_bltn (v := .ty "dict") (by rfl) T.dict (by decide +kernel) rfl) pa_nil))))) (pss_one (ps_raise rfl (takes_of rfl rfl rfl rfl) (pmk_own PySem.F.excBase_ValueError B.x B.g B.k (raises_own B.b B.t) rfl))) pss_nil)
      (pss_cons (ps_lock (ps_for (passes_of rfl) rfl (pi_items (pv 1)) (pg_tup rfl (pgs_cons (pg_name (i := 2) scRenamed.nd rfl (.inl rfl)) (pgs_cons (pg_name (i := 3) scRenamed.nd rfl (.inl rfl)) pgs_nil)))
        (pss_one (ps_if (PW.pt (pw_or (pt_not (pt_val (pe_call KN.ok hr1 (by rfl) KN.g KN.kp KN.b .nil pass0 (pa_cons (pv 2) pa_nil)))) (pw_or1 (pt_not (pt_val (pe_call KN.ok hr1 (by rfl) KN.g KN.kp KN.b .nil pass0 (pa_cons (pv 3) pa_nil)))))))
          (pss_one (ps_raise rfl (takes_unlock (takes_of rfl rfl rfl rfl)) (pmk_own PySem.F.excBase_ValueError B.x B.g B.k (raises_own B.b B.t) rfl))) pss_nil))))
      (pss_cons (ps_setDc (n := 4) (own := [("name", 2), ("deed", 5)]) (gg := gTup K 2 (gCons (gName 2) (gCons (gName 5) gNil))) (by rfl) scRenamed.nd rfl rfl (sw_trueD rfl rfl rfl (by decide +kernel)) (pi_seqW (pv 0)) (blkOk_by (own := [("name", 2), ("deed", 5)]) (N := nsRenamed) (sc := defScope sRenamed) (by decide +kernel))
          (fun _ _ _ _ _ => pg_tup rfl (pgs_cons (pg_name (i := 2) scRenamed.nd rfl (.inl rfl)) (pgs_cons (pg_name (i := 5) scRenamed.nd rfl (.inl rfl)) pgs_nil))) (fun _ _ _ _ _ => pts_one (pt_cmp (pc_din hu (pv 2) (pv 1)))) (fun _ _ _ _ _ => pv 2) (fun _ _ _ _ _ => pe_dget hu (pv 1) (pv 2) (fun _ _ => rfl)))
      (pss_cons (ps_par (i := 6) (j := 7) (by rfl) scRenamed.nd rfl rfl (by decide) rfl rfl (pa_cons (pe_dc (own := [("name", 2)]) (g := gName 2) (tt := tYes) (by rfl) scRenamed.nd (pi_keysF (pe_call0 KS.ok hr5 (by rfl) KS.g KS.kp KS.b .nil pass0)) (blkOk_by (own := [("name", 2)]) (N := nsRenamed) (sc := defScope sRenamed) (by decide +kernel))
          (fun _ _ _ _ _ => pg_name (i := 2) scRenamed.nd rfl (Or.inl rfl)) (fun _ _ _ _ _ => pts_nil) (fun _ _ _ _ _ => pv 2) (fun _ _ _ _ _ => pe_bl)) (pa_cons (pe_lst pa_nil) pa_nil)) (by rfl))
      (pss_cons (ps_for (passes_of rfl) rfl (pi_seqW (pv 0)) (pg_tup rfl (pgs_cons (pg_name (i := 2) scRenamed.nd rfl (.inl rfl)) (pgs_cons (pg_name (i := 5) scRenamed.nd rfl (.inl rfl)) pgs_nil)))
        (pss_cons (ps_set (i := 3) scRenamed.nd rfl (.inl rfl) (pe_dget2 hu (pv 4) (pv 2) (pv 2) ⟨rfl, rfl, rfl, rfl⟩))
        (pss_cons (ps_if (pt_cmp (pc_din hu (pv 3) (pv 6))) (pss_one (ps_raise rfl (takes_of rfl rfl rfl rfl) (pmk_sup (t := tCl) (C := CC) S hr (pa_cons (pv 3) pa_nil) (by rfl) (by decide +kernel)))) pss_nil)
        (pss_cons (ps_dput hu (pv 6) (pv 3) pe_bl rfl)
        (pss_one (ps_expr (pe_bm PySem.F.plainAttrs_list PySem.F.slot_list_append PySem.F.type_list_append mt_append (pv 7) (pa_cons (pe_tup (pa_cons (pv 3) (pa_cons (pe_call KO.ok hr4 (by rfl) KO.g KO.kp KO.b .nil (passes_call (takes_of rfl rfl rfl rfl) fun _ _ _ _ h => h) (pa_cons (pv 5) (pa_cons (pv 4) pa_nil))) pa_nil))) pa_nil))))))))
      (pss_one (ps_ret (pv 7)))))))), ?_⟩
    rcases k with ⟨eD, k⟩ | ⟨sts, hd, nmS, l100, k⟩
    · exact ⟨_, rfl, x, d, rfl, hx, .inr ⟨eD, k⟩⟩
    refine ⟨_, rfl, x, d, rfl, hx, .inl ⟨hd.v, fun H1 s1 => ?_⟩⟩
    obtain ⟨a, xs, rfl, hw, f2, l1000⟩ := (hd.same s1).at_
    have two : (∃ d', Dq [] H1 y d' ∧ isD d' = false ∧ E (.ref CB) none H1) ∨ ∃ b kvs ds, y = .ref b ∧ TabQ H1 b kvs ds ∧ (tabQB kvs ds = false → ∀ H', Same H H' → E (.ref CB) none H') ∧ (tabQB kvs ds = true → ∃ tb, kvs = tbK tb ∧ (∀ e ∈ tb, NameOk e.1 ∧ NameOk e.2) ∧
      (∀ z, exch (turnF sts tb) SHEET sts = .inl z → ∀ o H', Same H H' → H' o = some (.xd [("name", .str z)]) → E (.ref CC) (some o) H') ∧
      ∀ rs, exch (turnF sts tb) SHEET sts = .inr rs → ∀ l ws H', Same H H' → H l = none → H' l = some (.lst ws) → F2 (Dq [] H') ws (rs.map stepPy) → Q (.ref l) H') := by
      rcases k with ⟨bad, k⟩ | ⟨b, tb, rfl, hb, lt, nm, k1, k2⟩
      · rcases bad with ⟨d', q, e⟩ | ⟨b, kvs, ds, rfl, tq, e⟩
        · exact .inl ⟨d', q.same s1, e, k H1 s1⟩
        · exact .inr ⟨b, kvs, ds, rfl, ⟨s1 _ _ tq.at_, tq.len, tq.rel.mono fun _ _ ⟨q1, q2, q3⟩ => ⟨q1.same s1, q2, q3⟩⟩, (fun _ => k), (fun z => by rw [e] at z; cases z)⟩
      · refine .inr ⟨b, tbK tb, tb.map fun e => .str e.2, rfl, ⟨s1 _ _ hb, by unfold tbK; rw [List.length_map]; exact lt, ?_⟩, (fun z => ?_), fun _ => ⟨tb, rfl, nm, k1, k2⟩⟩
        · clear k1 k2 hb lt
          induction tb with
          | nil => exact .nil
          | cons e tb ih => exact .cons ⟨.str _, vdb_name (nm e List.mem_cons_self).2, vdb_name (nm e List.mem_cons_self).1⟩ (ih fun e he => nm e (List.mem_cons_of_mem _ he))
        · exfalso
          have : tabQB (tbK tb) (tb.map fun e => .str e.2) = true := by
            clear k1 k2 hb lt z
            unfold tabQB tbK
            rw [List.zip_map', List.all_map, List.all_eq_true]
            intro e he
            show (decide (NameOk e.1) && decide (NameOk e.2)) = true
            rw [decide_eq_true (nm e he).1, decide_eq_true (nm e he).2]
            rfl
          rw [this] at z
          cases z
    clear k
    rcases two with ⟨d', q, e, k⟩ | ⟨b, kvs, ds, rfl, tq, kR, kG⟩
    · refine ⟨_, rfl, y, .ty "dict", .type (tyOf d'), .type "dict", false, rfl, .ty _, q.ty, kit_ty (e ▸ kit_dict d'), _, rfl, ?_⟩
      exact iteT k
    have hb1 := tq.at_
    refine ⟨_, rfl, .ref b, .ty "dict", .type "dict", .type "dict", true, rfl, .ty _, .base (.dK hb1), kit_ty (by decide +kernel), _, rfl, ?_⟩
    refine iteF ?_
    have hb0 : H b = some (.dK kvs) ∨ H b = none := by
      cases e : H b with
      | none => exact .inr rfl
      | some o =>
        have := s1 _ _ e
        rw [hb1] at this
        exact .inl this.symm
    refine ⟨b, .dK kvs, hb1, trivial, fun od => ?_⟩
    have hbL := upd_same (H := H1) (a := b) (o := .frz od (.dK kvs))
    have relL : F2 (fun (kv : Key × V) d => Dq [b] (L2.upd H1 b (.frz od (.dK kvs))) kv.2 d ∧ vdb d = true ∧ vdb (kD kv.1) = true) kvs ds := tq.rel.mono fun _ _ ⟨q1, q2, q3⟩ => ⟨Dq.keep (KpE.of fun c o e n => by
      rw [upd_ne (by intro z; exact n (by simp [z]))]
      exact e) _ _ q1, q2, q3⟩
    generalize hHL : L2.upd H1 b (.frz od (.dK kvs)) = HL at hbL relL
    have back : ∀ {G : Hp}, Same HL G → Same H1 (L2.upd G b (.dK kvs)) := fun {G} sG c o e => by
      by_cases hc : c = b
      · subst hc
        rw [upd_same, ← hb1, e]
      · rw [upd_ne hc]
        refine sG _ _ ?_
        rw [← hHL, upd_ne hc]
        exact e
    have len := relL.len
    refine ⟨_, rfl, b, od, kvs, rfl, hbL, ?_⟩
    refine for_it walk_items (fun i σ G => ∃ v2 v3, σ = [some (.ref a), some (.ref b), v2, v3, none, none, none, none] ∧ Same HL G ∧ tabQB (kvs.take i) (ds.take i) = true) ⟨none, none, rfl, Same.refl _, rfl⟩ (fun i σ G _ q => by obtain ⟨_, _, _, sG, _⟩ := q; exact sG _ _ hbL) ?_ ?_
    · rintro i t σ G G' hi ⟨v2, v3, rfl, sG, al⟩ ⟨TT, u, v, rfl, nT, rfl, hu', hv'⟩
      obtain ⟨kv, hkv⟩ : ∃ kv, kvs[i]? = some kv := ⟨_, List.getElem?_eq_getElem hi⟩
      obtain ⟨dv, hdv, q1, q2, q3⟩ := relL.at_ hkv
      dsimp only at hu' hv'
      rw [hkv] at hu' hv'
      cases hu'
      cases hv'
      have sT := same_upd (o := .tup [kV kv.1, kv.2]) nT
      refine ⟨TT, _, rfl, SqT.of upd_same, rfl, _, _, rfl, _, _, rfl, rfl, ?_⟩
      have one : tabQB (kvs.take (i + 1)) (ds.take (i + 1)) = (nameB (kD kv.1) && nameB dv) := by
        rw [take_snoc hkv, take_snoc hdv]
        unfold tabQB
        rw [List.zip_append (by rw [List.length_take, List.length_take, len]), List.all_append]
        have : ((kvs.take i).zip (ds.take i)).all (fun q => nameB (kD q.1.1) && nameB q.2) = true := al
        rw [this, Bool.true_and]
        simp
      have all_ : tabQB kvs ds = true → tabQB (kvs.take (i + 1)) (ds.take (i + 1)) = true := fun z => by
        have e : kvs.zip ds = (kvs.take (i + 1)).zip (ds.take (i + 1)) ++ (kvs.drop (i + 1)).zip (ds.drop (i + 1)) := by rw [← List.zip_append (by rw [List.length_take, List.length_take, len]), List.take_append_drop, List.take_append_drop]
        unfold tabQB at z ⊢
        rw [e, List.all_append, Bool.and_eq_true] at z
        exact z.1
      have bad : ∀ {G2 : Hp}, Same HL G2 → (nameB (kD kv.1) && nameB dv) = false → ∃ d od u, G2 d = some (.frz od u) ∧ (∀ o' u', H d ≠ some (.frz o' u')) ∧ E (.ref CB) none (L2.upd G2 d u) := fun {G2} s2 eb => by
        refine ⟨b, od, .dK kvs, s2 _ _ hbL, fun o' u' e => ?_, kR ?_ _ (s1.trans (back s2))⟩
        · rcases hb0 with z | z <;> rw [z] at e <;> cases e
        · cases e : tabQB kvs ds with
          | false => rfl
          | true =>
            have := all_ e
            rw [one, eb] at this
            cases this
      refine ⟨_, rfl, kV kv.1, kD kv.1, rfl, Dq.key _, q3, fun G1 t1 => ⟨_, rfl, ?_⟩⟩
      have sG1 := (sG.trans sT).trans t1
      cases en : nameB (kD kv.1) with
      | false =>
        refine iteT ?_
        exact bad sG1 (by rw [en]; rfl)
      | true =>
      refine iteF ?_
      refine ⟨_, rfl, kv.2, dv, rfl, (q1.same sG1).none_N, q2, fun G2 t2 => ⟨_, rfl, ?_⟩⟩
      have sG2 := sG1.trans t2
      cases en2 : nameB dv with
      | false =>
        refine iteT ?_
        exact bad sG2 (by rw [en2, Bool.and_false])
      | true =>
      refine iteF ?_
      refine ⟨_, _, rfl, sG2, ?_⟩
      rw [one, en, en2]
      rfl
    rintro σ G ⟨v2, v3, rfl, sG, al⟩
    rw [List.take_length, len, List.take_length] at al
    refine ⟨sG _ _ hbL, ?_⟩
    have sB := back sG
    have hb2 := upd_same (H := G) (a := b) (o := .dK kvs)
    generalize L2.upd G b (.dK kvs) = G0 at sB hb2
    obtain ⟨tb, rfl, nm, kC, kQ⟩ := kG al
    clear kG kR
    -- turn
    have hw0 : G0 a = some (.lst xs) ∨ G0 a = some (.tup xs) := hw.imp (sB _ _) (sB _ _)
    have f0 := f2.mono fun _ _ q => Dq.same q sB
    have stp : ∀ {i : Nat} {y : V} {G1 : Hp}, Same G0 G1 → xs[i]? = some y → ∃ st q p, sts[i]? = some st ∧ y = .ref q ∧ G1 q = some (.tup [.str st.1, .ref p]) ∧ G1 p = some (.tup st.2.vs) := fun {i y G1} sg hy => by
      obtain ⟨e, he, hq0⟩ := f0.at_ hy
      rw [List.getElem?_map] at he
      cases ez : sts[i]? with
      | none => rw [ez] at he; cases he
      | some st =>
        rw [ez] at he
        cases he
        obtain ⟨q, p, rfl, _, hb, _, hp⟩ := dq_stepA (hq0.same sg)
        exact ⟨st, q, p, rfl, rfl, hb, hp⟩
    have lxs := f2.len
    rw [List.length_map] at lxs
    refine ⟨_, rfl, a, xs, rfl, hw0.imp SqL.of SqT.of, fun J GG wk hGG => fun D nD => ?_⟩
    have hGs : ∀ {G' : Hp}, Same G0 G' → GG G' := fun {G'} s' => hGG G' fun o e => s' _ _ e
    refine dc_it wk (fun i G' => Same G0 G' ∧ ∃ kvT, G' D = some (.dK kvT) ∧ kvT.length ≤ i ∧ (∀ e ∈ kvT, ∃ z v, e = (Sum.inr z, V.str v) ∧ NameOk z ∧ NameOk v) ∧ ∀ z, valV kvT (Sum.inr z) = if z ∈ (sts.take i).map (·.1) then (tb.lookup z).map V.str else none)
      ⟨same_upd nD, [], upd_same, Nat.le_refl _, (fun e he => by cases he), fun z => rfl⟩ (fun i G' _ q => hGs q.1) ?_ ?_
    · rintro i y G1 G1' hi ⟨sG1, kvT, hT, lT, alT, lk⟩ ⟨rfl, hy⟩
      obtain ⟨st, q, p, ez, rfl, hq, hp⟩ := stp sG1 hy
      have hb3 := sG1 _ _ hb2
      refine ⟨q, _, rfl, SqT.of hq, rfl, _, _, rfl, _, _, rfl, rfl, rfl, _, rfl, _, rfl, b, _, rfl, DGet.k (k := Sum.inr st.1) hb3, _, rfl, ?_⟩
      have ez' : (sts.take (i + 1)).map (·.1) = (sts.take i).map (·.1) ++ [st.1] := by rw [take_snoc ez, List.map_append]; rfl
      rw [tbK_look]
      cases el : tb.lookup st.1 with
      | none =>
        refine iteF ?_
        refine ⟨sG1, kvT, hT, by omega, alT, fun z => ?_⟩
        rw [ez', lk]
        by_cases c : z = st.1
        · subst c
          rw [el]
          simp
        · simp [c]
      | some v =>
        refine iteT ?_
        refine ⟨_, rfl, _, rfl, _, rfl, b, .str v, rfl, ?_, kvT, Sum.inr st.1, rfl, hT, Nat.lt_of_le_of_lt (show kvT.length ≤ 1000 by omega) (by decide), ?_⟩
        · have := DGet.k (k := Sum.inr st.1) hb3
          rw [tbK_look, el] at this
          exact this
        have nmv : NameOk v := by
          have gen : ∀ tb : List (Str × Str), (∀ e ∈ tb, NameOk e.1 ∧ NameOk e.2) → tb.lookup st.1 = some v → NameOk v := fun tb => by
            induction tb with
            | nil => intro _ h; cases h
            | cons e tb ih =>
              intro h1 h2
              obtain ⟨y, w'⟩ := e
              by_cases c : st.1 = y
              · subst c
                simp [List.lookup] at h2
                subst h2
                exact (h1 _ List.mem_cons_self).2
              · have c' : (st.1 == y) = false := by simpa using c
                simp only [List.lookup, c'] at h2
                exact ih (fun e he => h1 e (List.mem_cons_of_mem _ he)) h2
          exact gen tb nm el
        refine ⟨fun c o e => ?_, putK kvT (Sum.inr st.1) (.str v), upd_same, ?_, ?_, fun z => ?_⟩
        · rw [upd_ne (ne_of_none e nD)]
          exact sG1 _ _ e
        · have := length_putK kvT (Sum.inr st.1) (V.str v)
          omega
        · exact put_all alT ⟨st.1, v, rfl, nmS st (List.mem_of_getElem? ez), nmv⟩
        · rw [valV_put, ez', lk]
          by_cases c : z = st.1
          · subst c
            rw [if_pos rfl, el]
            simp
          · rw [if_neg (fun q => c (by injection q))]
            simp [c]
    rintro G1 ⟨sG1, kvT, hT, lT, alT, lk⟩
    rw [lxs, List.take_length] at lk
    rw [lxs] at lT
    refine ⟨rfl, fun ps ws G2 s2 nps hps f2p => ⟨ps, _, rfl, hps, fun od2 => fun DK nDK => ?_⟩⟩
    have hpsL := upd_same (H := G2) (a := ps) (o := .frz od2 (.dK ((SHEET.map Sum.inr).zip ws)))
    have s2L : Same G1 (L2.upd G2 ps (.frz od2 (.dK ((SHEET.map Sum.inr).zip ws)))) := fun c o e => by
      rw [upd_ne (ne_of_none e nps)]
      exact s2 _ _ e
    have lw5 : ws.length = 5 := by
      have := f2p.len
      rw [this]
      decide
    have ksh : ((SHEET.map (Sum.inr : Str → Key)).zip ws).map (·.1) = SHEET.map Sum.inr := List.map_fst_zip (by rw [List.length_map, lw5]; decide)
    have nds : SHEET.Nodup := by decide +kernel
    generalize L2.upd G2 ps (.frz od2 (.dK ((SHEET.map Sum.inr).zip ws))) = GL at hpsL s2L nDK
    generalize hkz : (SHEET.map (Sum.inr : Str → Key)).zip ws = kz at hpsL ksh
    have lkz : kz.length = SHEET.length := by
      have := congrArg List.length ksh
      rw [List.length_map, List.length_map] at this
      exact this
    refine dc_it walk_keys (fun i G' => Same GL G' ∧ ∃ kvK, G' DK = some (.dK kvK) ∧ KeysAre kvK (SHEET.take i)) ⟨same_upd nDK, [], upd_same, rfl⟩ (fun i G' _ q => q.1 _ _ hpsL) ?_ ?_
    · rintro i y G3 G3' hi ⟨sG3, kvK, hK, ky⟩ ⟨rfl, k0, v0, hk0, rfl⟩
      have ek : (kz.map (·.1))[i]? = some k0 := by rw [List.getElem?_map, hk0]; rfl
      rw [ksh, List.getElem?_map] at ek
      cases ez : SHEET[i]? with
      | none => rw [ez] at ek; cases ek
      | some z =>
      rw [ez] at ek
      cases ek
      have lt := ky.len
      have le5 : (SHEET.take i).length ≤ 5 := by
        rw [List.length_take]
        exact Nat.le_trans (Nat.min_le_right _ _) (by decide)
      refine ⟨rfl, yes_if ?_⟩
      refine ⟨_, rfl, kvK, Sum.inr z, rfl, hK, Nat.lt_of_le_of_lt (show kvK.length ≤ 5 by omega) (by decide), ?_⟩
      refine ⟨fun c o e => ?_, _, upd_same, ?_⟩
      · rw [upd_ne (ne_of_none e nDK)]
        exact sG3 _ _ e
      · rw [take_snoc ez]
        refine ky.put fun hz => ?_
        have nd2 := nds
        rw [← List.take_append_drop i SHEET] at nd2
        refine (List.nodup_append.mp nd2).2.2 z hz z ?_ rfl
        exact List.mem_of_getElem? (i := 0) (by rw [List.getElem?_drop]; simpa using ez)
    rintro G3 ⟨sG3, kvK, hK, ky⟩
    rw [lkz, List.take_length] at ky
    refine ⟨(by show 0 ≤ sizeLine; decide), fun FL nFL => ⟨_, _, rfl, ?_⟩⟩
    have s4 := same_upd (o := .lst []) nFL
    have hFL := upd_same (H := G3) (a := FL) (o := .lst [])
    have hK4 := s4 _ _ hK
    have s1L : Same G0 GL := sG1.trans s2L
    have s04 := (s1L.trans sG3).trans s4
    have hT4 := s4 _ _ (sG3 _ _ (s2L _ _ hT))
    have nDKL : GL DK = none := nDK
    generalize L2.upd G3 FL (.lst []) = G4 at s4 hFL hK4 s04 hT4
    have nFL0 : G0 FL = none := (s1L.trans sG3).free nFL
    have nDK0 : G0 DK = none := s1L.free nDK
    have nDKT : D ≠ DK := fun e => by
      have := s2L _ _ hT
      rw [e, nDK] at this
      cases this
    have nFLT : D ≠ FL := fun e => by
      have := sG3 _ _ (s2L _ _ hT)
      rw [e, nFL] at this
      cases this
    have fin1 : ∀ {G : Hp}, Kp [DK, FL] G4 G → Same G0 G := fun kg c o e => kg _ _ (s04 _ _ e) (by
      have n1 : c ≠ DK := ne_of_none e nDK0
      have n2 : c ≠ FL := ne_of_none e nFL0
      simp [n1, n2])
    refine ⟨_, rfl, a, xs, rfl, (hw0.imp (s04 _ _) (s04 _ _)).imp SqL.of SqT.of, fun J2 GG2 wk2 hGG2 => ?_⟩
    have f4 : ∀ (z : Str) (s : Str × Deed), s ∈ sts → (z = s.1 ∨ z ∈ s.2.names) → (valV kvT (Sum.inr z)).getD (.str z) = .str (turnF sts tb z) := fun z s hs hz => by
      rw [lk]
      unfold turnF
      by_cases c : z ∈ sts.map (·.1)
      · rw [if_pos c, if_pos c]
        cases tb.lookup z <;> rfl
      · rw [if_neg c, if_neg c]
        rfl
    have tin : ∀ {G : Hp}, G D = some (.dK kvT) → TabIn G (.ref D) kvT := fun e => ⟨D, rfl, e, by omega, List.all_eq_true.mpr fun e he => by
      obtain ⟨z, v, rfl, nz, nv⟩ := alT e he
      show (vdb (.str z) && (fok (.str v) && vdb (.str v))) = true
      rw [vdb_name nz, fok_name nv, vdb_name nv]
      rfl⟩
    have ten : kvT.all entB = true := List.all_eq_true.mpr fun e he => by
      obtain ⟨z, v, rfl, nz, nv⟩ := alT e he
      show (decide (NameOk z) && decide (NameOk v)) = true
      rw [decide_eq_true nz, decide_eq_true nv]
      rfl
    refine for_it wk2 (fun i σ G => ∃ v2 v3 v5 kvK wl, σ = [some (.ref a), some (.ref b), v2, v3, some (.ref D), v5, some (.ref DK), some (.ref FL)] ∧ Kp [DK, FL] G4 G ∧ G DK = some (.dK kvK) ∧ KeysIn kvK (SHEET ++ ((sts.take i).map fun s => turnF sts tb s.1)) ∧ kvK.length ≤ 5 + i ∧ G FL = some (.lst wl) ∧ wl.length = i ∧
        F2 (Dq [DK, FL] G) wl (((sts.take i).map (renS (turnF sts tb))).map stepPy) ∧ exch (turnF sts tb) SHEET sts = match exch (turnF sts tb) (SHEET ++ ((sts.take i).map fun s => turnF sts tb s.1)) (sts.drop i) with | .inl z => .inl z | .inr l => .inr ((sts.take i).map (renS (turnF sts tb)) ++ l))
      ⟨v2, v3, none, kvK, [], rfl, Kp.refl _ _, hK4, ?_, ?_, hFL, rfl, .nil, ?_⟩ (fun i σ G _ q => ?_) ?_ ?_
    · simpa using ky.in_
    · have := ky.len
      have e5 : SHEET.length = 5 := rfl
      omega
    · rw [List.take_zero, List.map_nil, List.append_nil, List.drop_zero]
      cases exch (turnF sts tb) SHEET sts with
      | inl z => rfl
      | inr l => rfl
    · obtain ⟨_, _, _, _, _, _, kG, _⟩ := q
      exact hGG2 G fun o e => kG _ _ e (by
        have e1 : G0 a = some o := by
          rcases hw0 with h | h <;> · have := s04 _ _ h; rw [e] at this; rw [h, ← this]
        have n1 : a ≠ DK := ne_of_none e1 nDK0
        have n2 : a ≠ FL := ne_of_none e1 nFL0
        simp [n1, n2])
    · rintro i y σ G G' hi ⟨v2, v3, v5, kvK, wl, rfl, kG, hK, ky, lK, hFL, lW, f2w, eq⟩ ⟨rfl, hy⟩
      have sG := fin1 kG
      obtain ⟨st, q, p, ez, rfl, hq, hp⟩ := stp sG hy
      have ms := List.mem_of_getElem? ez
      have hTG : G' D = some (.dK kvT) := kG _ _ hT4 (by simp [nDKT, nFLT])
      obtain ⟨rd, vd⟩ := deed_rd hd ms
      have okd := hd.ok st ms
      have li : i < sts.length := by rw [← lxs]; exact hi
      refine ⟨q, _, rfl, SqT.of hq, rfl, _, _, rfl, _, _, rfl, rfl, ?_⟩
      refine ⟨_, rfl, D, rfl, .inl ⟨_, .inl hTG⟩, _, rfl, _, rfl, _, DGet.k (k := Sum.inr st.1) hTG, ?_⟩
      rw [f4 st.1 st ms (.inl rfl)]
      refine ⟨_, rfl, _, rfl, DK, _, rfl, DGet.k (k := Sum.inr (turnF sts tb st.1)) hK, _, rfl, ?_⟩
      rw [ky]
      have eD : sts.drop i = st :: sts.drop (i + 1) := drop_at ez
      rw [eD] at eq
      by_cases c : turnF sts tb st.1 ∈ SHEET ++ ((sts.take i).map fun s => turnF sts tb s.1)
      · rw [decide_eq_true c]
        refine iteT ?_
        refine ⟨_, rfl, _, rfl, fun o no => ?_⟩
        have e2 : exch (turnF sts tb) SHEET sts = .inl (turnF sts tb st.1) := by
          rw [eq, exch_hit c]
        exact kC _ e2 o _ (((s1.trans sB).trans sG).trans (same_upd no)) upd_same
      rw [decide_eq_false c]
      refine iteF ?_
      refine ⟨_, rfl, _, rfl, DK, _, rfl, DPut.k (k := Sum.inr (turnF sts tb st.1)) hK (Nat.lt_of_le_of_lt (show kvK.length ≤ 1000 by omega) (by decide)), ?_⟩
      have nFK : FL ≠ DK := ne_of hFL hK (by intro z; cases z)
      have hFL5 : (L2.upd G' DK (.dK (putK kvK (Sum.inr (turnF sts tb st.1)) (.bl true)))) FL = some (.lst wl) := by
        rw [upd_ne nFK]
        exact hFL
      have hK5 := upd_same (H := G') (a := DK) (o := .dK (putK kvK (Sum.inr (turnF sts tb st.1)) (.bl true)))
      have k5 : Kp [DK, FL] G4 (L2.upd G' DK (.dK (putK kvK (Sum.inr (turnF sts tb st.1)) (.bl true)))) := kG.trans (Kp.upd (by simp))
      have kU : Kp [DK, FL] G' (L2.upd G' DK (.dK (putK kvK (Sum.inr (turnF sts tb st.1)) (.bl true)))) := Kp.upd (by simp)
      have f25 := f2w.mono fun _ _ q => Dq.keep (KpE.of kU) _ _ q
      have hp5 := kU _ _ hp (by
        have n1 : p ≠ DK := ne_of hp hK (by intro z; cases z)
        have n2 : p ≠ FL := ne_of hp hFL (by intro z; cases z)
        simp [n1, n2])
      have hT5 := kU _ _ hTG (by simp [nDKT, nFLT])
      have sG5 := fin1 k5
      generalize L2.upd G' DK (.dK (putK kvK (Sum.inr (turnF sts tb st.1)) (.bl true))) = G5 at hFL5 hK5 k5 kU f25 hp5 hT5 sG5
      refine ⟨_, rfl, .inl ⟨rfl, _, .inl (.inl hFL5)⟩, _, rfl, ?_⟩
      refine ⟨_, rfl, _, rfl, .ref p, .ref D, _, rfl, ⟨Dq.of_deed (by simp) hp5, vd, rd⟩, .inr ⟨st.2, rfl, okd, .inr ⟨kvT, tin hT5, ten, fun r G6 s6 hr6 => ?_⟩⟩⟩
      rw [onV_ren (f := turnF sts tb) fun z hz => f4 z st ms (.inr hz)] at hr6
      refine ⟨(by show 2 ≤ sizeLine; decide), fun t nt => ?_⟩
      have s7 := same_upd (o := .tup [.str (turnF sts tb st.1), .ref r]) nt
      have ht7 := upd_same (H := G6) (a := t) (o := .tup [.str (turnF sts tb st.1), .ref r])
      have hr7 := s7 _ _ hr6
      have s57 := s6.trans s7
      have hFL7 := s57 _ _ hFL5
      have hK7 := s57 _ _ hK5
      have f27 := f25.mono fun _ _ q => q.same s57
      have k7 := k5.trans (Kp.of s57)
      generalize L2.upd G6 t (.tup [.str (turnF sts tb st.1), .ref r]) = G7 at s7 ht7 hr7 s57 hFL7 hK7 f27 k7
      refine ⟨FL, _, _, rfl, rfl, hFL7, Nat.lt_of_le_of_lt (show wl.length ≤ 1000 by omega) (by decide), ?_⟩
      have new : Dq [DK, FL] G7 (.ref t) (stepPy (renS (turnF sts tb) st)) := by
        have n1 : t ≠ DK := ne_of ht7 hK7 (by intro z; cases z)
        have n2 : t ≠ FL := ne_of ht7 hFL7 (by intro z; cases z)
        have n3 : r ≠ DK := ne_of hr7 hK7 (by intro z; cases z)
        have n4 : r ≠ FL := ne_of hr7 hFL7 (by intro z; cases z)
        exact .tup (by simp [n1, n2]) ht7 (.cons (.str _) (.cons (Dq.of_deed (by simp [n3, n4]) hr7) .nil))
      have kF : Kp [DK, FL] G7 (L2.upd G7 FL (.lst (wl ++ [.ref t]))) := Kp.upd (by simp)
      have tk1 : sts.take (i + 1) = sts.take i ++ [st] := take_snoc ez
      refine ⟨_, _, _, putK kvK (Sum.inr (turnF sts tb st.1)) (.bl true), wl ++ [.ref t], rfl, k7.trans kF, ?_, ?_, ?_, upd_same, ?_, ?_, ?_⟩
      · rw [upd_ne nFK.symm]
        exact hK7
      · rw [tk1, List.map_append, ← List.append_assoc]
        exact ky.put _ _
      · have := length_putK kvK (Sum.inr (turnF sts tb st.1)) (V.bl true)
        omega
      · rw [List.length_append]
        show wl.length + 1 = i + 1
        omega
      · rw [tk1, List.map_append, List.map_append]
        exact (f27.snoc new).mono fun _ _ q => Dq.keep (KpE.of kF) _ _ q
      · rw [eq, exch_go c, tk1, List.map_append, List.map_append, ← List.append_assoc]
        show _ = (match exch (turnF sts tb) (SHEET ++ ((sts.take i).map fun s => turnF sts tb s.1) ++ [turnF sts tb st.1]) (sts.drop (i + 1)) with | .inl z => _ | .inr l => _)
        cases exch (turnF sts tb) (SHEET ++ ((sts.take i).map fun s => turnF sts tb s.1) ++ [turnF sts tb st.1]) (sts.drop (i + 1)) with
        | inl z => rfl
        | inr l => simp
    · rintro σ G ⟨v2, v3, v5, kvK, wl, rfl, kG, hK, ky, lK, hFL, lW, f2w, eq⟩
      rw [lxs, List.take_length] at f2w eq
      rw [List.drop_length] at eq
      have e2 : exch (turnF sts tb) SHEET sts = .inr (sts.map (renS (turnF sts tb))) := by
        rw [eq]
        show Sum.inr (_ ++ []) = _
        rw [List.append_nil]
      exact ⟨_, rfl, kQ _ e2 FL wl G ((s1.trans sB).trans (fin1 kG)) ((s1.trans sB).free nFL0) hFL (f2w.mono fun _ _ q => q.none_N)⟩
end
end Own
set_option Elab.async false
set_option linter.all false
set_option maxRecDepth 100000
set_option maxHeartbeats 400000
namespace Own
open PySem PySem.Spec PyProof.Rows L2 LamX
/-! ### drawings against drawings -/
instance : DecidableEq Deed := fun a b => decidable_of_iff (a.word = b.word ∧ a.names = b.names ∧ a.way = b.way) ⟨fun h => by
  cases a
  cases b
  obtain ⟨h1, h2, h3⟩ := h
  dsimp only at h1 h2 h3
  rw [h1, h2, h3], fun h => by rw [h]; exact ⟨rfl, rfl, rfl⟩⟩
mutual
/-- whole numbers, texts, and tuples and lists of such -/
def sD : PyData → Bool
  | .int _ => true
  | .str _ => true
  | .list ds => sDs ds
  | .tuple ds => sDs ds
  | _ => false
def sDs : List PyData → Bool
  | [] => true
  | d :: ds => sD d && sDs ds
end
mutual
theorem eqv_iff : ∀ d e : PyData, sD d = true → sD e = true → (PyData.eqv d e = true ↔ d = e)
  | .int i, e, _, h => by
    cases e with
    | int j => simp [PyData.eqv]
    | none => cases h
    | bool b => cases h
    | str z => simp [PyData.eqv]
    | list ds => simp [PyData.eqv]
    | tuple ds => simp [PyData.eqv]
    | dict ds => cases h
  | .str i, e, _, h => by
    cases e with
    | int j => simp [PyData.eqv]
    | none => cases h
    | bool b => cases h
    | str z => simp [PyData.eqv]
    | list ds => simp [PyData.eqv]
    | tuple ds => simp [PyData.eqv]
    | dict ds => cases h
  | .list ds, e, h1, h => by
    cases e with
    | int j => simp [PyData.eqv]
    | none => cases h
    | bool b => cases h
    | str z => simp [PyData.eqv]
    | list es =>
      rw [PyData.eqv, eqvs_iff ds es h1 h, PyData.list.injEq]
    | tuple es => simp [PyData.eqv]
    | dict ds => cases h
  | .tuple ds, e, h1, h => by
    cases e with
    | int j => simp [PyData.eqv]
    | none => cases h
    | bool b => cases h
    | str z => simp [PyData.eqv]
    | list es => simp [PyData.eqv]
    | tuple es =>
      rw [PyData.eqv, eqvs_iff ds es h1 h, PyData.tuple.injEq]
    | dict ds => cases h
  | .none, _, h, _ => by cases h
  | .bool _, _, h, _ => by cases h
  | .dict _, _, h, _ => by cases h
theorem eqvs_iff : ∀ ds es : List PyData, sDs ds = true → sDs es = true → (PyData.eqvAll ds es = true ↔ ds = es)
  | [], [], _, _ => by simp [PyData.eqvAll]
  | [], _ :: _, _, _ => by simp [PyData.eqvAll]
  | _ :: _, [], _, _ => by simp [PyData.eqvAll]
  | d :: ds, e :: es, h1, h2 => by
    have h1' : (sD d && sDs ds) = true := h1
    have h2' : (sD e && sDs es) = true := h2
    rw [Bool.and_eq_true] at h1' h2'
    rw [PyData.eqvAll, Bool.and_eq_true, eqv_iff d e h1'.1 h2'.1, eqvs_iff ds es h1'.2 h2'.2, List.cons.injEq]
end
theorem sDs_app : ∀ ds es : List PyData, sDs ds = true → sDs es = true → sDs (ds ++ es) = true
  | [], _, _, h => h
  | d :: ds, es, h1, h2 => by
    have h1' : (sD d && sDs ds) = true := h1
    rw [Bool.and_eq_true] at h1'
    show (sD d && sDs (ds ++ es)) = true
    rw [h1'.1, sDs_app ds es h1'.2 h2]
    rfl
theorem sDs_all {α : Type} {f : α → PyData} (h : ∀ a, sD (f a) = true) : ∀ l : List α, sDs (l.map f) = true
  | [] => rfl
  | a :: l => by
    show (sD (f a) && sDs (l.map f)) = true
    rw [h a, sDs_all h l]
    rfl
theorem deed_sd (d : Deed) : sD d.py = true := sDs_app (.str d.word :: d.names.map PyData.str) (d.way.map PyData.int) (by
  show (true && sDs (d.names.map PyData.str)) = true
  rw [sDs_all (fun _ => rfl)]
  rfl) (sDs_all (fun _ => rfl) _)
theorem step_sd (s : Str × Deed) : sD (stepPy s) = true := by
  show (true && (sD s.2.py && true)) = true
  rw [deed_sd]
  rfl
theorem si_inj : ∀ (a b : List Str) (c d : List Int), a.map PyData.str ++ c.map PyData.int = b.map PyData.str ++ d.map PyData.int → a = b ∧ c = d
  | [], [], c, d, h => by
    refine ⟨rfl, ?_⟩
    have h : c.map PyData.int = d.map PyData.int := h
    exact (List.map_inj_right fun x y e => by injection e).mp h
  | [], y :: b, [], d, h => by cases h
  | [], y :: b, x :: c, d, h => by
    injection h with h _
    cases h
  | x :: a, [], c, [], h => by cases h
  | x :: a, [], c, y :: d, h => by
    injection h with h _
    cases h
  | x :: a, y :: b, c, d, h => by
    injection h with h1 h2
    injection h1 with h1
    obtain ⟨e1, e2⟩ := si_inj a b c d h2
    exact ⟨by rw [h1, e1], e2⟩
theorem py_inj {a b : Deed} (h : a.py = b.py) : a = b := by
  injection h with h
  injection h with h1 h2
  injection h1 with h1
  obtain ⟨e1, e2⟩ := si_inj _ _ _ _ h2
  cases a
  cases b
  dsimp only at h1 e1 e2
  rw [h1, e1, e2]
theorem step_inj {a b : Str × Deed} (h : stepPy a = stepPy b) : a = b := by
  injection h with h
  injection h with h1 h2
  injection h1 with h1
  injection h2 with h2
  exact Prod.ext h1 (py_inj h2)
theorem eqv_steps (xs ys : List (Str × Deed)) : PyData.eqv (.list (xs.map stepPy)) (.list (ys.map stepPy)) = decide (xs = ys) := by
  rw [Bool.eq_iff_iff, decide_eq_true_iff, eqv_iff (.list (xs.map stepPy)) (.list (ys.map stepPy)) (sDs_all step_sd xs) (sDs_all step_sd ys), PyData.list.injEq]
  exact List.map_inj_right fun x y e => step_inj e
theorem eqv_deeds (x y : Deed) : PyData.eqv x.py y.py = decide (x = y) := by
  rw [Bool.eq_iff_iff, decide_eq_true_iff, eqv_iff _ _ (deed_sd x) (deed_sd y)]
  exact ⟨py_inj, fun e => by rw [e]⟩
/-! #### shapes -/
theorem gdb_name {z : Str} (h : NameOk z) : gdb (.str z) = true := by
  have f := fok_name h
  have l8 := h.1
  show (_ && (decide ((0 : Nat) ≤ 50) && decide (z.length ≤ 1000))) = true
  rw [decide_eq_true (by omega : z.length ≤ 1000), Bool.and_true, Bool.and_eq_true]
  exact ⟨f, rfl⟩
theorem gdb_deed {d : Deed} (h : DeedOk d) : gdb d.py = true ∧ d.py.depth ≤ 1 := by
  obtain ⟨g1, _, g3, _⟩ := gdb_of_items (ds := d.pys) (Nat.le_trans (pys_len h) (by decide)) 0 (by decide) fun e he => by
    obtain ⟨m, k, hm, nm, okN, nk, okW⟩ := h
    unfold Deed.pys at he
    rcases List.mem_cons.mp he with rfl | he
    · have fw := itemB_iff (form_item _ hm)
      exact ⟨fw.1, Nat.le_refl 0⟩
    rcases List.mem_append.mp he with he | he
    · obtain ⟨z, hz, rfl⟩ := List.mem_map.mp he
      exact ⟨gdb_name (okN z hz), Nat.le_refl 0⟩
    · obtain ⟨z, hz, rfl⟩ := List.mem_map.mp he
      obtain ⟨h1, h2⟩ := okW z hz
      have e : z = 1 ∨ z = 2 := by omega
      rcases e with rfl | rfl
      · exact ⟨by decide +kernel, Nat.le_refl 0⟩
      · exact ⟨by decide +kernel, Nat.le_refl 0⟩
  exact ⟨g1, g3⟩
theorem gdb_step {s : Str × Deed} (h1 : NameOk s.1) (h2 : DeedOk s.2) : gdb (stepPy s) = true ∧ (stepPy s).depth ≤ 2 := by
  obtain ⟨g1, _, g3, _⟩ := gdb_of_items (ds := [.str s.1, s.2.py]) (by show 2 ≤ 1000; decide) 1 (by decide) fun e he => by
    simp only [List.mem_cons, List.not_mem_nil, or_false] at he
    rcases he with rfl | rfl
    · exact ⟨gdb_name h1, Nat.zero_le 1⟩
    · exact gdb_deed h2
  exact ⟨g1, g3⟩
theorem shaped_steps {xs : List (Str × Deed)} (h : ∀ s ∈ xs, NameOk s.1 ∧ DeedOk s.2) (l : xs.length ≤ 1000) : SeqAt.shaped (.list (xs.map stepPy)) = true ∧ PyData.canLayAll0 (xs.map stepPy) = true := by
  obtain ⟨_, g2, _, g4⟩ := gdb_of_items (ds := xs.map stepPy) (by rw [List.length_map]; exact l) 2 (by decide) fun e he => by
    obtain ⟨s, hs, rfl⟩ := List.mem_map.mp he
    exact gdb_step (h s hs).1 (h s hs).2
  have g := (gdb_lay g2).1
  refine ⟨?_, g⟩
  show (PyData.canLayAll0 (xs.map stepPy) && decide ((PyData.list (xs.map stepPy)).depth ≤ 64)) = true
  rw [show PyData.canLayAll0 (xs.map stepPy) = true from g, decide_eq_true (by omega)]
  rfl
theorem eq_steps {K : PySem.W.Frag} {N M : List Addr} {H : Hp} {a b : Addr} {us vs : List V} {xs ys : List (Str × Deed)} {Q : VK} (ha : H a = some (.lst us)) (hb : H b = some (.lst vs)) (f1 : F2 (Dq N H) us (xs.map stepPy)) (f2 : F2 (Dq M H) vs (ys.map stepPy)) (h1 : ∀ s ∈ xs, NameOk s.1 ∧ DeedOk s.2) (h2 : ∀ s ∈ ys, NameOk s.1 ∧ DeedOk s.2) (l1 : xs.length ≤ 1000) (l2 : ys.length ≤ 1000)
    (q : Q (.bl (decide (xs = ys))) H) : rEqD K (.ref a) (.ref b) H Q := by
  obtain ⟨s1, c1⟩ := shaped_steps h1 l1
  obtain ⟨s2, c2⟩ := shaped_steps h2 l2
  exact ⟨_, _, .lst (SqL.of ha) (DqAll.dp _ _ (DqAll.of f1) c1), .lst (SqL.of hb) (DqAll.dp _ _ (DqAll.of f2) c2), s1, s2, by rw [eqv_steps]; exact q⟩
theorem ne_steps {K : PySem.W.Frag} {N M : List Addr} {H : Hp} {a b : Addr} {us vs : List V} {xs ys : List (Str × Deed)} {Q : VK} (ha : H a = some (.lst us)) (hb : H b = some (.lst vs)) (f1 : F2 (Dq N H) us (xs.map stepPy)) (f2 : F2 (Dq M H) vs (ys.map stepPy)) (h1 : ∀ s ∈ xs, NameOk s.1 ∧ DeedOk s.2) (h2 : ∀ s ∈ ys, NameOk s.1 ∧ DeedOk s.2) (l1 : xs.length ≤ 1000) (l2 : ys.length ≤ 1000)
    (q : Q (.bl (!decide (xs = ys))) H) : rNeD K (.ref a) (.ref b) H Q := by
  obtain ⟨s1, c1⟩ := shaped_steps h1 l1
  obtain ⟨s2, c2⟩ := shaped_steps h2 l2
  exact ⟨_, _, .lst (SqL.of ha) (DqAll.dp _ _ (DqAll.of f1) c1), .lst (SqL.of hb) (DqAll.dp _ _ (DqAll.of f2) c2), s1, s2, by rw [eqv_steps]; exact q⟩
theorem ne_deeds {K : PySem.W.Frag} {N M : List Addr} {H : Hp} {u v : V} {x y : Deed} {Q : VK} (hu : Dq N H u x.py) (hv : Dq M H v y.py) (h1 : DeedOk x) (h2 : DeedOk y) (q : Q (.bl (!decide (x = y))) H) : rNeD K u v H Q := by
  have sh : ∀ {d : Deed}, DeedOk d → SeqAt.shaped d.py = true ∧ d.py.canLay0 = true := fun {d} h => by
    obtain ⟨g1, g2⟩ := gdb_deed h
    have g := (gdb_lay g1).1
    refine ⟨?_, g⟩
    show (d.py.canLay0 && decide (d.py.depth ≤ 64)) = true
    rw [g, decide_eq_true (by omega)]
    rfl
  obtain ⟨s1, c1⟩ := sh h1
  obtain ⟨s2, c2⟩ := sh h2
  exact ⟨_, _, Dq.dp _ _ hu c1, Dq.dp _ _ hv c2, s1, s2, by rw [eqv_deeds]; exact q⟩
/-! #### like: what is due -/
def tbOf (one other : List (Str × Deed)) : List (Str × Str) := (one.map (·.1)).zip (other.map (·.1))
def meanF (tb : List (Str × Str)) (z : Str) : Str := (tb.lookup z).getD z
def madeL (one other : List (Str × Deed)) : List (Str × Deed) := (one.zip other).map fun q => (q.2.1, renD (meanF (tbOf one other)) q.1.2)
def likeB (one other : List (Str × Deed)) : Bool := decide (one.length = other.length) && decide (madeL one other = other)
theorem renD_ok {f : Str → Str} {d : Deed} (h : DeedOk d) (hf : ∀ z, NameOk z → NameOk (f z)) : DeedOk (renD f d) := by
  obtain ⟨m, k, hm, nm, okN, nk, okW⟩ := h
  refine ⟨m, k, hm, by unfold renD; rw [List.length_map]; exact nm, fun z hz => ?_, nk, okW⟩
  obtain ⟨y, hy, rfl⟩ := List.mem_map.mp hz
  exact hf y (okN y hy)
theorem look_mem2 {tb : List (Str × Str)} {z v : Str} : tb.lookup z = some v → (z, v) ∈ tb := fun h => look_mem h
theorem meanF_ok {tb : List (Str × Str)} (h : ∀ e ∈ tb, NameOk e.2) {z : Str} (hz : NameOk z) : NameOk (meanF tb z) := by
  unfold meanF
  cases e : tb.lookup z with
  | none => exact hz
  | some v => exact h _ (look_mem e)
end Own
set_option Elab.async false
set_option linter.all false
set_option maxRecDepth 100000
set_option maxHeartbeats 1000000
namespace Own
open PySem PySem.Spec PyProof.Rows L2 LamX
theorem tb_len (one other : List (Str × Deed)) (h : one.length = other.length) : (tbOf one other).length = one.length := by
  unfold tbOf
  rw [List.length_zip, List.length_map, List.length_map, h, Nat.min_self]
theorem tb_at {one other : List (Str × Deed)} {i : Nat} {s t : Str × Deed} (h1 : one[i]? = some s) (h2 : other[i]? = some t) : (tbOf one other)[i]? = some (s.1, t.1) := by
  unfold tbOf
  rw [List.getElem?_zip_eq_some]
  exact ⟨by rw [List.getElem?_map, h1]; rfl, by rw [List.getElem?_map, h2]; rfl⟩
theorem tb_keys {one other : List (Str × Deed)} (h : one.length = other.length) : (tbOf one other).map (·.1) = one.map (·.1) := List.map_fst_zip (by rw [List.length_map, List.length_map, h]; exact Nat.le_refl _)
theorem tb_vals {one other : List (Str × Deed)} (h : one.length = other.length) : (tbOf one other).map (·.2) = other.map (·.1) := List.map_snd_zip (by rw [List.length_map, List.length_map, h]; exact Nat.le_refl _)
theorem look_at : ∀ {tb : List (Str × Str)} {i : Nat} {y v : Str}, (tb.map (·.1)).Nodup → tb[i]? = some (y, v) → tb.lookup y = some v
  | [], i, y, v, _, h => by simp at h
  | (a, b) :: tb, 0, y, v, _, h => by
    simp at h
    obtain ⟨rfl, rfl⟩ := h
    simp [List.lookup]
  | (a, b) :: tb, i + 1, y, v, nd, h => by
    have h' : tb[i]? = some (y, v) := by simpa using h
    have ne : y ≠ a := by
      rintro rfl
      rw [List.map_cons, List.nodup_cons] at nd
      exact nd.1 (List.mem_map.mpr ⟨_, List.mem_of_getElem? h', rfl⟩)
    have : (y == a) = false := by simpa using ne
    simp only [List.lookup, this]
    rw [List.map_cons, List.nodup_cons] at nd
    exact look_at nd.2 h'
theorem look_none {tb : List (Str × Str)} {z : Str} (h : z ∉ tb.map (·.1)) : tb.lookup z = none := by
  cases e : tb.lookup z with
  | none => rfl
  | some v => exact absurd (List.mem_map.mpr ⟨_, look_mem e, rfl⟩) h
theorem tbK_new {tb : List (Str × Str)} {z v : Str} (h : z ∉ tb.map (·.1)) : putK (tbK tb) (Sum.inr z) (.str v) = tbK (tb ++ [(z, v)]) := by
  rw [putK_new _ (by rw [tbK_look, look_none h]; rfl)]
  unfold tbK
  rw [List.map_append]
  rfl
/-- a drawing whose steps are known -/
structure LikeOk (sts : List (Str × Deed)) : Prop where
  nm : ∀ s ∈ sts, NameOk s.1 ∧ DeedOk s.2
  nd : (sts.map (·.1)).Nodup
  len : sts.length ≤ 100
def spLike (NOW : List Str) (CW : Addr) : Sp := fun vs H Q E => ∃ (x y : V) (d : PyData), vs = [x, y] ∧ DrawIn NOW H x d ∧ ((drawV SHEET d = false ∧ ∀ H', Same H H' → E (.ref CW) none H') ∨ ∃ sts d', DrawOk NOW H x sts d ∧ DrawIn NOW H y d' ∧ ((drawV SHEET d' = false ∧ ∀ H', Same H H' → E (.ref CW) none H') ∨
  ∃ sts', DrawOk NOW H y sts' d' ∧ LikeOk sts ∧ LikeOk sts' ∧ (likeB sts sts' = false → ∀ H', Same H H' → Q .non H') ∧ (likeB sts sts' = true → ∀ D H', Same H H' → H D = none → H' D = some (.dK (tbK (tbOf sts sts'))) → Q (.ref D) H')))
section
variable {NOW : List Str} {P : Program} {w : World} {K : PySem.W.Frag} {mg : Str → Option Value} {base : Heap} {f CD CW CB : Addr} {fd2 fdD fdO : FuncData}
abbrev nsLike : List Str := ["one", "other", "turn", "step", "last", "made", "name", "deed"]
theorem scLike : FnScope nsLike ["one", "other"] (defScope sLike) := ⟨rfl, rfl, rfl, by decide +kernel, rfl, by decide +kernel, by decide +kernel⟩
theorem ok_like (F : FnP K "like" sLike f fd2) (KD : Fk P w K mg base (L2.CX P w) 7 "need_drawing" fdD ["steps"] (spNeedDr NOW CW)) (KO : Fk P w K mg base (L2.CX P w) 4 "on_names" fdO ["deed", "table"] (spOnNames NOW CD CB)) (T : Txt K mg) (N : TxtN mg) :
    FnOk P w K mg base (L2.CX P w) 8 f fd2 ["one", "other"] (spLike NOW CW) := by
  refine F.ok scLike (fun vs H Q E h => ?_) (fun cdv A outer s H vs Q E hr h => ?_)
  · obtain ⟨x, y, d, rfl, _⟩ := h
    rfl
  · obtain ⟨x, y, d, rfl, hx, k⟩ := h
    have hu := hu_of hr
    have hr4 := hr.mono (show 4 ≤ 7 by decide)
    refine ⟨_, pss_cons (ps_expr (pe_call KD.ok hr (by rfl) KD.g KD.kp KD.b .nil (passes_call (takes_of rfl rfl rfl rfl) fun _ _ _ _ h => h) (pa_cons (pv 0) pa_nil)))
      (pss_cons (ps_expr (pe_call KD.ok hr (by rfl) KD.g KD.kp KD.b .nil (passes_call (takes_of rfl rfl rfl rfl) fun _ _ _ _ h => h) (pa_cons (pv 1) pa_nil)))
      (PSs.nox (pss_cons (ps_if (pt_cmpR op_ne (pe_callB call_len_seq (by rfl) T.len PySem.boot_len (pa_cons (pv 0) pa_nil)) (pe_callB call_len_seq (by rfl) T.len PySem.boot_len (pa_cons (pv 1) pa_nil)) (nomark _)) (pss_one (ps_ret pe_non)) pss_nil)
      (pss_cons (ps_set (i := 2) scLike.nd rfl (.inr rfl) (pe_dc (own := [("step", 3), ("last", 4)]) (g := gTup K 2 (gCons (gName 3) (gCons (gName 4) gNil))) (tt := tYes) (by rfl) scLike.nd (pi_zip (by rfl) N.zip (pa_cons (pe_callTy call_list_of (by rfl) T.list (by decide +kernel) (pa_cons (pv 0) pa_nil)) (pa_cons (pe_callTy call_list_of (by rfl) T.list (by decide +kernel) (pa_cons (pv 1) pa_nil)) pa_nil))) (blkOk_by (own := [("step", 3), ("last", 4)]) (N := nsLike) (sc := defScope sLike) (by decide +kernel))
          (fun _ _ _ _ _ => pg_tup rfl (pgs_cons (pg_name (i := 3) scLike.nd rfl (.inl rfl)) (pgs_cons (pg_name (i := 4) scLike.nd rfl (.inl rfl)) pgs_nil))) (fun _ _ _ _ _ => pts_nil) (fun _ _ _ _ _ => pe_ix (ix_tupK (K := K) rfl) (pv 3) pe_int (fun _ _ => rfl)) (fun _ _ _ _ _ => pe_ix (ix_tupK (K := K) rfl) (pv 4) pe_int (fun _ _ => rfl))))
      (pss_cons (ps_setLc (i := 5) (own := [("name", 6), ("deed", 7)]) (g := gTup K 2 (gCons (gName 6) (gCons (gName 7) gNil))) (tt := tYes) (by rfl) scLike.nd rfl rfl (sw_true rfl rfl rfl (by decide +kernel)) (pi_seqW (pv 0)) (blkOk_by (own := [("name", 6), ("deed", 7)]) (N := nsLike) (sc := defScope sLike) (by decide +kernel))
          (fun _ _ _ _ _ => pg_tup rfl (pgs_cons (pg_name (i := 6) scLike.nd rfl (.inl rfl)) (pgs_cons (pg_name (i := 7) scLike.nd rfl (.inl rfl)) pgs_nil))) (fun _ _ _ _ _ => pts_nil) (fun _ _ _ _ _ => pe_tup (pa_cons (pe_dget hu (pv 2) (pv 6) (fun _ _ => rfl)) (pa_cons (pe_call KO.ok hr4 (by rfl) KO.g KO.kp KO.b .nil passL (pa_cons (pv 7) (pa_cons (pv 2) pa_nil))) pa_nil))))
      (pss_one (ps_ret (pe_ifExp (pt_cmpR (op_eqD hr.units) (pv 5) (pe_callTy call_list_of (by rfl) T.list (by decide +kernel) (pa_cons (pv 1) pa_nil)) (nomark _)) (pv 2) pe_non)))))))), ?_⟩
    rcases k with ⟨eD, k⟩ | ⟨sts, d', hd, hy, k⟩
    · exact ⟨_, rfl, x, d, rfl, hx, .inr ⟨eD, k⟩⟩
    refine ⟨_, rfl, x, d, rfl, hx, .inl ⟨hd.v, fun H1 s1 => ?_⟩⟩
    rcases k with ⟨eD, k⟩ | ⟨sts', hd', ok1, ok2, kN, kY⟩
    · exact ⟨_, rfl, y, d', rfl, hy.same s1, .inr ⟨eD, fun H' s' => k H' (s1.trans s')⟩⟩
    refine ⟨_, rfl, y, d', rfl, hy.same s1, .inl ⟨hd'.v, fun H2 s2 => ?_⟩⟩
    have s12 := s1.trans s2
    obtain ⟨a, xs, rfl, hw, f2, l1000⟩ := (hd.same s12).at_
    obtain ⟨a', xs', rfl, hw', f2', l1000'⟩ := (hd'.same s12).at_
    have lxs := f2.len
    have lxs' := f2'.len
    rw [List.length_map] at lxs lxs'
    have sq : ∀ {b : Addr} {us : List V} {G : Hp}, Same H2 G → (H2 b = some (.lst us) ∨ H2 b = some (.tup us)) → (SqL K G b us ∨ SqT K G b us) := fun sg h => h.imp (fun e => SqL.of (sg _ _ e)) (fun e => SqT.of (sg _ _ e))
    refine ⟨_, rfl, a, xs, rfl, sq (Same.refl _) hw, _, rfl, a', xs', rfl, sq (Same.refl _) hw', rfl, _, rfl, ?_⟩
    have el : (!decide (V.int (xs.length : Int) = V.int (xs'.length : Int))) = !decide (sts.length = sts'.length) := by
      rw [lxs, lxs']
      congr 1
      rw [decide_eq_decide]
      constructor
      · intro h
        injection h with h
        omega
      · intro h
        rw [h]
    rw [el]
    by_cases hl : ¬ sts.length = sts'.length
    · rw [decide_eq_false hl]
      refine iteT ?_
      refine kN ?_ _ s12
      unfold likeB
      rw [decide_eq_false hl]
      rfl
    have hl : sts.length = sts'.length := Classical.not_not.mp hl
    rw [decide_eq_true hl]
    refine iteF ?_
    refine ⟨_, rfl, a, xs, rfl, sq (Same.refl _) hw, fun l1 n1 => ?_⟩
    have s3 := same_upd (o := .lst xs) n1
    have hl1 := upd_same (H := H2) (a := l1) (o := .lst xs)
    generalize L2.upd H2 l1 (.lst xs) = H3 at s3 hl1
    refine ⟨_, rfl, a', xs', rfl, sq s3 hw', fun l2 n2 => ?_⟩
    have s4 := same_upd (o := .lst xs') n2
    have hl2 := upd_same (H := H3) (a := l2) (o := .lst xs')
    have hl1' := s4 _ _ hl1
    generalize L2.upd H3 l2 (.lst xs') = H4 at s4 hl1' hl2
    have s24 := s3.trans s4
    have f4 := f2.mono fun _ _ q => Dq.same q s24
    have f4' := f2'.mono fun _ _ q => Dq.same q s24
    have stp : ∀ {zs : List V} {ds : List (Str × Deed)} (f : F2 (Dq [] H4) zs (ds.map stepPy)) {i : Nat} {y : V} {G1 : Hp}, Same H4 G1 → zs[i]? = some y → ∃ st q p, ds[i]? = some st ∧ y = .ref q ∧ G1 q = some (.tup [.str st.1, .ref p]) ∧ G1 p = some (.tup st.2.vs) := fun {zs ds} f {i y G1} sg hy => by
      obtain ⟨e, he, hq0⟩ := f.at_ hy
      rw [List.getElem?_map] at he
      cases ez : ds[i]? with
      | none => rw [ez] at he; cases he
      | some st =>
        rw [ez] at he
        cases he
        obtain ⟨q, p, rfl, _, hb, _, hp⟩ := dq_stepA (hq0.same sg)
        exact ⟨st, q, p, rfl, rfl, hb, hp⟩
    refine ⟨l1, l2, xs, xs', rfl, SqL.of hl1', SqL.of hl2, fun D nD => ?_⟩
    have l100 := ok1.len
    have lt := tb_len sts sts' hl
    have kt := tb_keys hl
    refine dc_it (walk_zip (xs := xs) (ys := xs') (n := sts.length) (by omega)) (fun i G' => Same H4 G' ∧ G' D = some (.dK (tbK ((tbOf sts sts').take i)))) ⟨same_upd nD, upd_same⟩ (fun i G' _ q => ⟨SqL.of (q.1 _ _ hl1'), SqL.of (q.1 _ _ hl2)⟩) ?_ ?_
    · rintro i v G G' hi ⟨sG, hD⟩ ⟨T0, u1, u2, rfl, nT, rfl, h1, h2⟩
      obtain ⟨st, q, p, ez, rfl, hq, hp⟩ := stp f4 sG h1
      obtain ⟨st', q', p', ez', rfl, hq', hp'⟩ := stp f4' sG h2
      have sT := same_upd (o := .tup [.ref q, .ref q']) nT
      have htb := tb_at ez ez'
      refine ⟨T0, _, rfl, SqT.of upd_same, rfl, _, _, rfl, _, _, rfl, rfl, rfl, yes_if ?_⟩
      refine ⟨_, rfl, q, _, _, _, rfl, rfl, SqT.of (sT _ _ hq), at_nat (k := 0) rfl, ?_⟩
      refine ⟨_, rfl, q', _, _, _, rfl, rfl, SqT.of (sT _ _ hq'), at_nat (k := 0) rfl, ?_⟩
      refine ⟨_, Sum.inr st.1, rfl, sT _ _ hD, ?_, ?_, ?_⟩
      · unfold tbK
        rw [List.length_map, List.length_take]
        exact Nat.lt_of_le_of_lt (show min i (tbOf sts sts').length ≤ 1000 by omega) (by decide)
      · intro c o e
        rw [upd_ne (ne_of_none e nD)]
        exact sT _ _ (sG _ _ e)
      · rw [upd_same, take_snoc htb, tbK_new]
        intro hz
        have nd := ok1.nd
        rw [← kt, ← List.take_append_drop i (tbOf sts sts'), List.map_append] at nd
        refine (List.nodup_append.mp nd).2.2 st.1 hz st.1 ?_ rfl
        refine List.mem_map.mpr ⟨(st.1, st'.1), ?_, rfl⟩
        exact List.mem_of_getElem? (i := 0) (by rw [List.getElem?_drop]; simpa using htb)
    rintro G ⟨sG, hD⟩
    rw [← lt, List.take_length] at hD
    have f5 := f4.mono fun _ _ q => Dq.same q sG
    have sG2 := s24.trans sG
    refine ⟨_, rfl, a, xs, rfl, sq sG2 hw, fun J GG wk hGG => fun DL nDL => ?_⟩
    have nmT : ∀ e ∈ tbOf sts sts', NameOk e.1 ∧ NameOk e.2 := fun e he => by
      have h1 : e.1 ∈ sts.map (·.1) := by rw [← kt]; exact List.mem_map.mpr ⟨e, he, rfl⟩
      have h2 : e.2 ∈ sts'.map (·.1) := by rw [← tb_vals hl]; exact List.mem_map.mpr ⟨e, he, rfl⟩
      obtain ⟨s, hs, e1⟩ := List.mem_map.mp h1
      obtain ⟨t, ht, e2⟩ := List.mem_map.mp h2
      rw [← e1, ← e2]
      exact ⟨(ok1.nm s hs).1, (ok2.nm t ht).1⟩
    have tin : ∀ {G : Hp}, G D = some (.dK (tbK (tbOf sts sts'))) → TabIn G (.ref D) (tbK (tbOf sts sts')) := fun e => ⟨D, rfl, e, by unfold tbK; rw [List.length_map]; omega, List.all_eq_true.mpr fun e he => by
      obtain ⟨u, hu, rfl⟩ := List.mem_map.mp he
      show (vdb (.str u.1) && (fok (.str u.2) && vdb (.str u.2))) = true
      rw [vdb_name (nmT u hu).1, fok_name (nmT u hu).2, vdb_name (nmT u hu).2]
      rfl⟩
    have ten : (tbK (tbOf sts sts')).all entB = true := List.all_eq_true.mpr fun e he => by
      obtain ⟨u, hu, rfl⟩ := List.mem_map.mp he
      show (decide (NameOk u.1) && decide (NameOk u.2)) = true
      rw [decide_eq_true (nmT u hu).1, decide_eq_true (nmT u hu).2]
      rfl
    have lm : (madeL sts sts').length = sts.length := by
      unfold madeL
      rw [List.length_map, List.length_zip, hl, Nat.min_self]
    refine lc_it wk (fun i G' => Same G G' ∧ ∃ ys, G' DL = some (.lst ys) ∧ ys.length = i ∧ F2 (Dq [DL] G') ys (((madeL sts sts').take i).map stepPy)) ⟨same_upd nDL, [], upd_same, rfl, .nil⟩ (fun i G' _ q => hGG G' fun o e => q.1 _ _ e) ?_ ?_
    · rintro i y G1 G1' hi ⟨sG1, ys, hys, lys, f2y⟩ ⟨rfl, hy⟩
      obtain ⟨st, q, p, ez, rfl, hq, hp⟩ := stp f4 (sG.trans sG1) hy
      have ms := List.mem_of_getElem? ez
      obtain ⟨st', ez'⟩ : ∃ st', sts'[i]? = some st' := ⟨_, List.getElem?_eq_getElem (by omega)⟩
      have lk : (tbOf sts sts').lookup st.1 = some st'.1 := look_at (by rw [kt]; exact ok1.nd) (tb_at ez ez')
      have hD1 := sG1 _ _ hD
      obtain ⟨rd, vd⟩ := deed_rd hd ms
      have okd := hd.ok st ms
      refine ⟨q, _, rfl, SqT.of hq, rfl, _, _, rfl, _, _, rfl, rfl, rfl, yes_if ?_⟩
      refine ⟨_, rfl, _, rfl, D, .str st'.1, rfl, ?_, ?_⟩
      · have := DGet.k (k := Sum.inr st.1) hD1
        rw [tbK_look, lk] at this
        exact this
      refine ⟨_, rfl, _, rfl, .ref p, .ref D, _, rfl, ⟨Dq.of_deed (by simp) hp, vd, rd⟩, .inr ⟨st.2, rfl, okd, .inr ⟨_, tin hD1, ten, fun r G6 s6 hr6 => ?_⟩⟩⟩
      rw [onV_ren (f := meanF (tbOf sts sts')) fun z hz => by
        rw [tbK_look]
        unfold meanF
        cases (tbOf sts sts').lookup z <;> rfl] at hr6
      refine ⟨(by show 2 ≤ sizeLine; decide), fun t nt => ?_⟩
      have s7 := same_upd (o := .tup [.str st'.1, .ref r]) nt
      have ht7 := upd_same (H := G6) (a := t) (o := .tup [.str st'.1, .ref r])
      have hr7 := s7 _ _ hr6
      have s57 := s6.trans s7
      have hys7 := s57 _ _ hys
      have f27 := f2y.mono fun _ _ q => Dq.same q s57
      generalize L2.upd G6 t (.tup [.str st'.1, .ref r]) = G7 at s7 ht7 hr7 s57 hys7 f27
      refine ⟨ys, hys7, Nat.lt_of_le_of_lt (show ys.length ≤ 1000 by omega) (by decide), ?_, _, upd_same, by rw [List.length_append, lys]; rfl, ?_⟩
      · intro c o e
        rw [upd_ne (ne_of_none e nDL)]
        exact s57 _ _ (sG1 _ _ e)
      · have em : (madeL sts sts')[i]? = some (st'.1, renD (meanF (tbOf sts sts')) st.2) := by
          unfold madeL
          rw [List.getElem?_map, (show (sts.zip sts')[i]? = some (st, st') from List.getElem?_zip_eq_some.mpr ⟨ez, ez'⟩)]
          rfl
        rw [take_snoc em, List.map_append]
        have n1 : t ≠ DL := ne_of ht7 hys7 (by intro z; cases z)
        have n2 : r ≠ DL := ne_of hr7 hys7 (by intro z; cases z)
        have new : Dq [DL] G7 (.ref t) (stepPy (st'.1, renD (meanF (tbOf sts sts')) st.2)) := .tup (by simp [n1]) ht7 (.cons (.str _) (.cons (Dq.of_deed (by simp [n2]) hr7) .nil))
        exact (f27.snoc new).mono fun _ _ q => Dq.keep (KpE.of fun c o e n => by rw [upd_ne (by simpa using n)]; exact e) _ _ q
    rintro G1 ⟨sG1, ys, hys, lys, f2y⟩
    rw [lxs, ← lm, List.take_length] at f2y
    refine ⟨_, rfl, _, rfl, a', xs', rfl, sq (sG2.trans sG1) hw', fun l3 n3 => ?_⟩
    have s8 := same_upd (o := .lst xs') n3
    have hl3 := upd_same (H := G1) (a := l3) (o := .lst xs')
    have hys8 := s8 _ _ hys
    have f28 := f2y.mono fun _ _ q => Dq.same q s8
    have f48 := f4'.mono fun _ _ q => Dq.same q ((sG.trans sG1).trans s8)
    have hD8 := s8 _ _ (sG1 _ _ hD)
    generalize L2.upd G1 l3 (.lst xs') = G8 at s8 hl3 hys8 f28 f48 hD8
    have sF := (s12.trans (sG2.trans sG1)).trans s8
    have nDH : H D = none := (s12.trans s24).free nD
    refine eq_steps hys8 hl3 f28 f48 (fun e he => ?_) ok2.nm (by omega) (Nat.le_trans ok2.len (by decide)) ?_
    · obtain ⟨⟨s, t⟩, hq, rfl⟩ := List.mem_map.mp he
      obtain ⟨hs, ht⟩ := List.of_mem_zip hq
      exact ⟨(ok2.nm t ht).1, renD_ok (ok1.nm s hs).2 fun z hz => meanF_ok (fun e he => (nmT e he).2) hz⟩
    have e2 : likeB sts sts' = decide (madeL sts sts' = sts') := by
      unfold likeB
      rw [decide_eq_true hl]
      rfl
    rw [← e2]
    refine ⟨_, rfl, ?_⟩
    cases e : likeB sts sts' with
    | false =>
      refine iteF ?_
      exact kN e _ sF
    | true =>
      refine iteT ?_
      exact ⟨_, rfl, kY e D _ sF nDH hD8⟩
end
end Own
set_option Elab.async false
set_option linter.all false
set_option maxRecDepth 100000
set_option maxHeartbeats 1000000
namespace Own
open PySem PySem.Spec PyProof.Rows L2 LamX
/-! ### the law's own exchange -/
def spTDeed : Sp := fun vs H Q _ => ∃ (p D : Addr) (d : Deed) (kvs : List (Key × V)) (f : Str → Str), vs = [.ref p, .ref D] ∧ H p = some (.tup d.vs) ∧ DeedOk d ∧ H D = some (.dK kvs) ∧ (∀ z ∈ d.names, (valV kvs (Sum.inr z)).getD (.str z) = .str (f z)) ∧
  ∀ r H', Same H H' → H' r = some (.tup (renD f d).vs) → Q (.ref r) H'
def spShN : Sp := fun vs H Q _ => vs = [] ∧ ∀ l H', Same H H' → H l = none → H' l = some (.lst (SHEET.map V.str)) → Q (.ref l) H'
section
variable {NOW : List Str} {P : Program} {w : World} {K : PySem.W.Frag} {mg : Str → Option Value} {base : Heap} {f : Addr} {fd2 fdN : FuncData}
theorem ok_shn (F : FnP K "_law_sheet_names" sShNames f fd2) : FnOk P w K mg base CX0 1 f fd2 [] spShN := by
  refine F.ok (⟨rfl, rfl, rfl, by decide +kernel, rfl, by decide +kernel, by decide +kernel⟩ : FnScope [] [] (defScope sShNames)) (fun vs H Q E h => ?_) (fun cdv A outer s H vs Q E hr h => ?_)
  · obtain ⟨rfl, _⟩ := h
    rfl
  · obtain ⟨rfl, k⟩ := h
    refine ⟨_, PSs.nox (pss_one (ps_ret (pe_lst (pa_cons pe_str (pa_cons pe_str (pa_cons pe_str (pa_cons pe_str (pa_cons pe_str pa_nil)))))))), ?_⟩
    exact ⟨(by show 5 ≤ sizeLine; decide), fun l nl => k l _ (same_upd nl) nl upd_same⟩
abbrev nsTDeed : List Str := ["_law_deed_here", "_law_means", "_law_names", "_law_name_here"]
theorem scTDeed : FnScope nsTDeed ["_law_deed_here", "_law_means"] (defScope sTDeed) := ⟨rfl, rfl, rfl, by decide +kernel, rfl, by decide +kernel, by decide +kernel⟩
theorem ok_tdeed (F : FnP K "_law_turned_deed" sTDeed f fd2) (KN : Fk P w K mg base CX0 2 "_law_deed_names" fdN ["_law_deed_here"] spDNames) (T : Txt K mg) : FnOk P w K mg base CX0 3 f fd2 ["_law_deed_here", "_law_means"] spTDeed := by
  refine F.ok scTDeed (fun vs H Q E h => ?_) (fun cdv A outer s H vs Q E hr h => ?_)
  · obtain ⟨p, D, d, kvs, f, rfl, _⟩ := h
    rfl
  · obtain ⟨a, b, dd, kvs, f, rfl, ha, ok, hb, hf, k⟩ := h
    have hu := hu_of hr
    refine ⟨_, PSs.nox (pss_cons (ps_set (i := 2) scTDeed.nd rfl (.inl rfl) (pe_call KN.ok hr (by rfl) KN.g KN.kp KN.b .nil pass0 (pa_cons (pv 0) pa_nil)))
      (pss_one (ps_ret (pe_op op_catA (pe_tupleOf (by rfl) T.tuple (pe_op op_cat (pe_lst (pa_cons (pe_ix ix_tup (pv 0) pe_int (fun _ _ => rfl)) pa_nil)) (pe_lc (own := [("_law_name_here", 3)]) (g := gName 3) (tt := tYes) (by rfl) scTDeed.nd (pi_list (pv 2)) (blkOk_by (own := [("_law_name_here", 3)]) (N := nsTDeed) (sc := defScope sTDeed) (by decide +kernel))
          (fun _ _ _ _ _ => pg_name (i := 3) scTDeed.nd rfl (Or.inl rfl)) (fun _ _ _ _ _ => pts_nil) (fun _ _ _ _ _ => pe_dget2 hu (pv 1) (pv 3) (pv 3) ⟨rfl, rfl, rfl, rfl⟩))))
          (pe_slice sl_tup (pv 0) (po_some (pe_op op_add pe_int (pe_callB call_len_seq (by rfl) T.len PySem.boot_len (pa_cons (pv 2) pa_nil)))) po_none))))), ?_⟩
    obtain ⟨m, kk, hm, nm, okN, nk, okW⟩ := id ok
    have lw := way_small ok
    obtain ⟨f1, f2, f3, f4⟩ := form_facts _ hm
    have f3' : m ≤ 5 := f3
    refine ⟨_, rfl, a, dd, rfl, ha, ok, fun l H1 s1 nl hl => ?_⟩
    have ha1 : SqT K H1 a dd.vs := SqT.of (s1 _ _ ha)
    refine ⟨_, rfl, a, _, _, _, rfl, rfl, ha1, deed_head dd, (by show 1 ≤ sizeLine; decide), fun l1 n1 => ?_⟩
    have s2 := same_upd (o := .lst [V.str dd.word]) n1
    have hl1 := upd_same (H := H1) (a := l1) (o := .lst [V.str dd.word])
    generalize L2.upd H1 l1 (.lst [V.str dd.word]) = H2 at s2 hl1
    have hl2 := s2 _ _ hl
    have hb2 := s2 _ _ (s1 _ _ hb)
    have ha2 := s2 _ _ (s1 _ _ ha)
    refine ⟨_, rfl, l, rfl, ⟨_, SqL.of hl2⟩, fun D nD => ?_⟩
    refine lc_rel (p := fun _ => true) (c := fun x => V.str (f (strV x))) (rel := fun _ y b => y = b) walk_list nD (by rw [List.length_map, nm]; exact Nat.lt_of_le_of_lt f3' (by decide)) (fun H' s' => SqL.of (s' _ _ hl2)) (fun _ q => q) (fun _ q _ => q) (fun v => rfl) (fun x H' _ _ R kR => kR H' (Same.refl _)) (fun x H' hx' _ sH R kR => ?_) fun G3 ys t3 eD f2 => ?_
    · obtain ⟨z, hz, rfl⟩ := List.mem_map.mp hx'
      have hbx := sH _ _ hb2
      refine ⟨_, rfl, b, rfl, .inl ⟨_, .inl hbx⟩, _, rfl, _, rfl, _, DGet.k (k := Sum.inr z) hbx, ?_⟩
      rw [hf z hz]
      exact kR _ H' (Same.refl _) rfl
    rw [List.filter_eq_self.mpr fun _ _ => rfl] at f2
    have ey : ys = (dd.names.map f).map V.str := by
      rw [f2.map_eq (f := fun x => x), List.map_id', List.map_map, List.map_map]
      rfl
    subst ey
    have small : ∀ n : Nat, n ≤ 100 → n ≤ sizeLine := fun n h => Nat.le_trans h (by decide)
    refine ⟨l1, D, [V.str dd.word], _, rfl, rfl, t3 _ _ hl1, eD, small _ (by rw [List.length_map, List.length_map, nm]; show 1 + m ≤ 100; omega), fun l3 n3 => ?_⟩
    have s4 := same_upd (o := .lst ([V.str dd.word] ++ (dd.names.map f).map V.str)) n3
    have h3 := upd_same (H := G3) (a := l3) (o := .lst ([V.str dd.word] ++ (dd.names.map f).map V.str))
    generalize L2.upd G3 l3 (.lst ([V.str dd.word] ++ (dd.names.map f).map V.str)) = G4 at s4 h3
    refine .inl ⟨l3, _, rfl, SqL.of h3, fun r nr => ?_⟩
    have s5 := same_upd (o := .tup ([V.str dd.word] ++ (dd.names.map f).map V.str)) nr
    have h5 := upd_same (H := G4) (a := r) (o := .tup ([V.str dd.word] ++ (dd.names.map f).map V.str))
    generalize L2.upd G4 r (.tup ([V.str dd.word] ++ (dd.names.map f).map V.str)) = G5 at s5 h5
    have s25 := (t3.trans s4).trans s5
    refine ⟨_, rfl, _, rfl, l, _, rfl, .inl (SqL.of (s25 _ _ hl2)), _, _, rfl, rfl, ?_⟩
    have el : ((dd.names.map V.str).length : Int) = (m : Int) := by rw [List.length_map, nm]
    rw [el]
    refine ⟨_, rfl, a, _, rfl, SqT.of (s25 _ _ ha2), ?_, fun p3 n6 => ?_⟩
    · rintro ⟨h, _⟩
      have dl := deed_len dd
      have e : HT.sIx dd.vs.length 0 (some ((1 + m : Nat) : Int)) = min (1 + m) dd.vs.length := HT.sIx_nat _ _ _
      have h' : HT.sIx dd.vs.length 0 (some ((1 + m : Nat) : Int)) = 0 := by
        have e2 : ((1 + m : Nat) : Int) = 1 + (m : Int) := by omega
        rw [e2]
        exact h
      omega
    have c3 : cutV dd.vs (some (1 + (m : Int))) none = dd.way.map V.int := by
      have e2 : 1 + (m : Int) = ((1 + m : Nat) : Int) := by omega
      rw [e2, cut_drop (by have := deed_len dd; omega)]
      unfold Deed.vs
      rw [show 1 + m = m + 1 by omega, List.drop_succ_cons]
      exact List.drop_left' (by rw [List.length_map, nm])
    rw [c3]
    have t6 := same_upd (o := .tup (dd.way.map V.int)) n6
    refine cat_readV (t6 _ _ h5) upd_same (small _ (by rw [List.length_append, List.length_map, List.length_map, List.length_map, nm]; show 1 + m + _ ≤ 100; omega)) fun r3 G7 t7 h7 => ?_
    refine k r3 G7 ((((s1.trans s2).trans s25).trans t6).trans t7) ?_
    rw [h7]
    unfold renD Deed.vs
    simp
end
end Own
set_option Elab.async false
set_option linter.all false
set_option maxRecDepth 100000
set_option maxHeartbeats 1000000
namespace Own
open PySem PySem.Spec PyProof.Rows L2 LamX
theorem f2_name {N : List Addr} {H : Hp} : ∀ {xs : List V} {sts : List (Str × Deed)}, F2 (Dq N H) xs (sts.map stepPy) → F2 (NameT H) xs sts
  | [], [], _ => .nil
  | [], _ :: _, h => by cases h
  | _ :: _, [], h => by cases h
  | _ :: _, _ :: _, .cons h1 h2 => by
    obtain ⟨b, p, rfl, _, hb, _⟩ := dq_stepA h1
    exact .cons ⟨b, .ref p, rfl, hb⟩ (f2_name h2)
/-- [name for name, deed in steps] -/
theorem lc_names {K : PySem.W.Frag} {J : It} {GG : Hp → Prop} {xs : List V} {sts : List (Str × Deed)} {i j : Nat} {σ : L2.St} {H1 : Hp} {D : Addr} {Qd : Hp → Prop} (wk : Walk J xs.length GG (YAt xs)) (nD : H1 D = none) (hG : ∀ G, Same H1 G → GG G) (f2 : F2 (NameT H1) xs sts) (hz : sts.length ≤ 1000)
    (h1 : ∀ u v, wipe (((wipe σ [i, j]).set i (some u)).set j (some v)) [i, j] = wipe σ [i, j]) (h2 : ∀ u v, (((wipe σ [i, j]).set i (some u)).set j (some v))[i]? = some (some u))
    (hd : ∀ H', Same H1 H' → H' D = some (.lst ((sts.map (·.1)).map V.str)) → Qd H') :
    ∃ W : Nat → Nat → Hp → Prop, (∃ m, W 0 m (L2.upd H1 D (.lst []))) ∧ ∀ k m H, W k m H →
      (J.stop k H ∧ Qd H) ∨ (J.go k H ∧ ∃ Nx : Hp → Prop, (∀ H', Nx H' → ∃ m', m' < m ∧ W (k + 1) m' H') ∧ ∀ x H', J.yld k H x H' → gTup K 2 (gCons (gName i) (gCons (gName j) gNil)) x (wipe σ [i, j]) H' fun σ2 H2 => wipe σ2 [i, j] = wipe σ [i, j] ∧ tYes σ2 H2 fun b H3 =>
        if b = true then tVar i σ2 H3 fun y H4 => ∃ acc, H4 D = some (.lst acc) ∧ acc.length < sizeLine ∧ Nx (L2.upd H4 D (.lst (acc ++ [y]))) else Nx H3) := by
  have len := f2.len
  refine lc_it wk (fun k G => Same H1 G ∧ G D = some (.lst (((sts.take k).map (·.1)).map V.str))) ⟨same_upd nD, upd_same⟩ (fun k G _ q => hG G q.1) ?_ ?_
  · rintro k y G G' hk ⟨sG, hD⟩ ⟨rfl, hy⟩
    obtain ⟨s, hs, t, v, rfl, ht⟩ := f2.at_ hy
    refine ⟨t, _, rfl, SqT.of (sG _ _ ht), rfl, _, _, rfl, _, _, rfl, rfl, h1 _ _, yes_if ?_⟩
    refine ⟨_, h2 _ _, _, hD, ?_, ?_, ?_⟩
    · rw [List.length_map, List.length_map, List.length_take]
      exact Nat.lt_of_le_of_lt (show min k sts.length ≤ 1000 by omega) (by decide)
    · intro c o e
      rw [upd_ne (ne_of_none e nD)]
      exact sG _ _ e
    · rw [upd_same, take_snoc hs, List.map_append, List.map_append]
      rfl
  · rintro G ⟨sG, hD⟩
    rw [len, List.take_length] at hD
    exact hd G sG hD
def tbOwn (own : List Str) (tb : List (Str × Str)) : List (Str × Str) := (own.filter fun n => (tb.lookup n).isSome).map fun n => (n, (tb.lookup n).getD n)
theorem tbOwn_look {tb : List (Str × Str)} {z : Str} : ∀ {own : List Str}, (tbOwn own tb).lookup z = if z ∈ own then tb.lookup z else none
  | [] => rfl
  | n :: own => by
    have ih := tbOwn_look (tb := tb) (z := z) (own := own)
    unfold tbOwn at ih ⊢
    by_cases c : (tb.lookup n).isSome = true
    · rw [List.filter_cons_of_pos (p := fun n => (tb.lookup n).isSome) c, List.map_cons]
      by_cases e : z = n
      · subst e
        have : (z == z) = true := by simp
        simp only [List.lookup, this]
        rw [if_pos List.mem_cons_self]
        cases q : tb.lookup z with
        | none => rw [q] at c; cases c
        | some v => rfl
      · have : (z == n) = false := by simpa using e
        simp only [List.lookup, this]
        rw [ih]
        simp [e]
    · rw [List.filter_cons_of_neg (p := fun n => (tb.lookup n).isSome) c, ih]
      by_cases e : z = n
      · subst e
        have q : tb.lookup z = none := by
          cases q : tb.lookup z with
          | none => rfl
          | some v => rw [q] at c; exact absurd rfl c
        rw [q]
        simp
      · simp [e]
theorem merge_nd : ∀ (tb pre : List (Str × Str)), ((pre ++ tb).map (·.1)).Nodup → mergeK (tbK pre) (tbK tb) = tbK (pre ++ tb)
  | [], pre, _ => by rw [List.append_nil]; rfl
  | (z, v) :: tb, pre, nd => by
    show mergeK (putK (tbK pre) (Sum.inr z) (.str v)) (tbK tb) = _
    rw [tbK_new, merge_nd tb (pre ++ [(z, v)]) (by rw [List.append_assoc]; exact nd), List.append_assoc]
    · rfl
    · intro h
      rw [List.map_append] at nd
      exact (List.nodup_append.mp nd).2.2 z h z (by simp) rfl
theorem tbOwn_nd {own : List Str} {tb : List (Str × Str)} (h : own.Nodup) : ((tbOwn own tb).map (·.1)).Nodup := by
  unfold tbOwn
  rw [List.map_map]
  have : (List.filter (fun n => (tb.lookup n).isSome) own).map ((fun x : Str × Str => x.1) ∘ fun n => (n, (tb.lookup n).getD n)) = List.filter (fun n => (tb.lookup n).isSome) own := List.map_id' _
  rw [this]
  exact h.sublist List.filter_sublist
def spExch : Sp := fun vs H Q _ => ∃ (a b : Addr) (xs : List V) (sts : List (Str × Deed)) (tb : List (Str × Str)), vs = [.ref a, .ref b] ∧ H a = some (.lst xs) ∧ F2 (Dq [] H) xs (sts.map stepPy) ∧ LikeOk sts ∧ H b = some (.dK (tbK tb)) ∧ (∀ e ∈ tb, NameOk e.1 ∧ NameOk e.2) ∧
  (∀ z, exch (turnF sts tb) SHEET sts = .inl z → ∀ H', Same H H' → Q (.str z) H') ∧
  ∀ rs, exch (turnF sts tb) SHEET sts = .inr rs → ∀ l ws H', Same H H' → H l = none → H' l = some (.lst ws) → F2 (Dq [] H') ws (rs.map stepPy) → Q (.ref l) H'
section
variable {NOW : List Str} {P : Program} {w : World} {K : PySem.W.Frag} {mg : Str → Option Value} {base : Heap} {f : Addr} {fd2 fdN fdT : FuncData}
abbrev nsExch : List Str := ["_law_steps", "_law_table_here", "_law_own", "_law_name_here", "_law_deed_here", "_law_turn", "_law_taken", "_law_found", "_law_fresh"]
theorem scExch : FnScope nsExch ["_law_steps", "_law_table_here"] (defScope sExch) := ⟨rfl, rfl, rfl, by decide +kernel, rfl, by decide +kernel, by decide +kernel⟩
theorem ok_exch (F : FnP K "_law_exchanged" sExch f fd2) (KN : Fk P w K mg base CX0 1 "_law_sheet_names" fdN [] spShN) (KT : Fk P w K mg base CX0 3 "_law_turned_deed" fdT ["_law_deed_here", "_law_means"] spTDeed) (T : Txt K mg) : FnOk P w K mg base CX0 4 f fd2 ["_law_steps", "_law_table_here"] spExch := by
  refine F.ok scExch (fun vs H Q E h => ?_) (fun cdv A outer s H vs Q E hr h => ?_)
  · obtain ⟨a, b, xs, sts, tb, rfl, _⟩ := h
    rfl
  · obtain ⟨a, b, xs, sts, tb, rfl, ha, f2, ok, hb, nm, kC, kQ⟩ := h
    have hu := hu_of hr
    have hr1 := hr.mono (show 1 ≤ 3 by decide)
    refine ⟨_, PSs.nox (pss_cons (ps_setLc (i := 2) (own := [("_law_name_here", 3), ("_law_deed_here", 4)]) (g := gTup K 2 (gCons (gName 3) (gCons (gName 4) gNil))) (tt := tYes) (by rfl) scExch.nd rfl rfl (sw_true rfl rfl rfl (by decide +kernel)) (pi_list (pv 0)) (blkOk_by (own := [("_law_name_here", 3), ("_law_deed_here", 4)]) (N := nsExch) (sc := defScope sExch) (by decide +kernel))
          (fun _ _ _ _ _ => pg_tup rfl (pgs_cons (pg_name (i := 3) scExch.nd rfl (.inl rfl)) (pgs_cons (pg_name (i := 4) scExch.nd rfl (.inl rfl)) pgs_nil))) (fun _ _ _ _ _ => pts_nil) (fun _ _ _ _ _ => pv 3))
      (pss_cons (ps_set (i := 5) scExch.nd rfl (.inl rfl) (pe_callTy (call_dictP rfl) (by rfl) T.dict (by decide +kernel) (pa_cons (pe_lc (own := [("_law_name_here", 3)]) (g := gName 3) (by rfl) scExch.nd (pi_list (pv 2)) (blkOk_by (own := [("_law_name_here", 3)]) (N := nsExch) (sc := defScope sExch) (by decide +kernel))
          (fun _ _ _ _ _ => pg_name (i := 3) scExch.nd rfl (Or.inl rfl)) (fun _ _ _ _ _ => pts_one (pt_cmp (pc_din hu (pv 3) (pv 1)))) (fun _ _ _ _ _ => pe_tup (pa_cons (pv 3) (pa_cons (pe_dget hu (pv 1) (pv 3) (fun _ _ => rfl)) pa_nil)))) pa_nil)))
      (pss_cons (ps_par (i := 6) (j := 7) (by rfl) scExch.nd rfl rfl (by decide) rfl rfl (pa_cons (pe_call0 KN.ok hr1 (by rfl) KN.g KN.kp KN.b .nil pass0) (pa_cons (pe_lst pa_nil) pa_nil)) (by rfl))
      (pss_cons (ps_for PassesOwn.never rfl (pi_seqW (pv 0)) (pg_tup rfl (pgs_cons (pg_name (i := 3) scExch.nd rfl (.inl rfl)) (pgs_cons (pg_name (i := 4) scExch.nd rfl (.inl rfl)) pgs_nil)))
        (pss_cons (ps_set (i := 8) scExch.nd rfl (.inl rfl) (pe_dget2 hu (pv 5) (pv 3) (pv 3) ⟨rfl, rfl, rfl, rfl⟩))
        (pss_cons (ps_if (pt_cmpR op_in_seq (pv 8) (pv 6) (by rfl)) (pss_one (ps_ret (pv 8))) pss_nil)
        (pss_cons (ps_expr (pe_bm PySem.F.plainAttrs_list PySem.F.slot_list_append PySem.F.type_list_append mt_append (pv 6) (pa_cons (pv 8) pa_nil)))
        (pss_one (ps_expr (pe_bm PySem.F.plainAttrs_list PySem.F.slot_list_append PySem.F.type_list_append mt_append (pv 7) (pa_cons (pe_tup (pa_cons (pv 8) (pa_cons (pe_call KT.ok hr (by rfl) KT.g KT.kp KT.b .nil pass0 (pa_cons (pv 4) (pa_cons (pv 5) pa_nil))) pa_nil))) pa_nil))))))))
      (pss_one (ps_ret (pv 7))))))), ?_⟩
    have l100 := ok.len
    refine ⟨_, rfl, a, rfl, ⟨_, SqL.of ha⟩, fun D1 nD1 => ?_⟩
    refine lc_names walk_list nD1 (fun G sG => SqL.of (sG _ _ ha)) (f2_name f2) (by omega) (fun _ _ => rfl) (fun _ _ => rfl) fun H1 s1 hD1 => ?_
    generalize eow : sts.map (·.1) = own at hD1
    have lo : own.length = sts.length := by rw [← eow, List.length_map]
    have ndo : own.Nodup := by rw [← eow]; exact ok.nd
    have hb1 := s1 _ _ hb
    refine ⟨_, rfl, D1, rfl, ⟨_, SqL.of hD1⟩, fun D2 nD2 => ?_⟩
    refine lc_rel (p := fun x => (tb.lookup (strV x)).isSome) (c := fun x => (strV x, (tb.lookup (strV x)).getD (strV x))) (rel := fun H y e => ∃ t, y = V.ref t ∧ H t = some (.tup [.str e.1, .str e.2])) walk_list nD2 (by rw [List.length_map, lo]; exact Nat.lt_of_le_of_lt (show sts.length ≤ 1000 by omega) (by decide)) (fun H' s' => SqL.of (s' _ _ hD1)) (fun s' ⟨t, e, q⟩ => ⟨t, e, s' _ _ q⟩) (fun hb ⟨t, e, q⟩ l' => ⟨t, e, by rw [upd_ne (ne_of q hb (by intro z; cases z))]; exact q⟩) (fun v => rfl) (fun x H' hx' sH R kR => ?_) (fun x H' hx' px sH R kR => ?_) fun H2 ys s2 hD2 f2t => ?_
    · obtain ⟨z, hz, rfl⟩ := List.mem_map.mp hx'
      refine ⟨_, rfl, _, rfl, b, _, rfl, DGet.k (k := Sum.inr z) (sH _ _ hb1), _, rfl, ?_⟩
      rw [tbK_look]
      have : ((tb.lookup z).map V.str).isSome = (tb.lookup z).isSome := by cases tb.lookup z <;> rfl
      rw [this]
      exact kR H' (Same.refl _)
    · obtain ⟨z, hz, rfl⟩ := List.mem_map.mp hx'
      obtain ⟨v, hv⟩ := Option.isSome_iff_exists.mp px
      have hv : tb.lookup z = some v := hv
      refine ⟨_, rfl, _, rfl, _, rfl, b, .str v, rfl, ?_, (by show 2 ≤ sizeLine; decide), fun t nt => ?_⟩
      · have := DGet.k (k := Sum.inr z) (sH _ _ hb1)
        rw [tbK_look, hv] at this
        exact this
      · refine kR _ _ (same_upd nt) ⟨t, rfl, ?_⟩
        rw [upd_same]
        show some (HO.tup [V.str z, V.str v]) = some (HO.tup [V.str z, V.str ((tb.lookup z).getD z)])
        rw [hv]
        rfl
    have e0 : ((own.map V.str).filter fun x => (tb.lookup (strV x)).isSome).map (fun x => (strV x, (tb.lookup (strV x)).getD (strV x))) = tbOwn own tb := by
      rw [List.filter_map, List.map_map]
      rfl
    rw [e0] at f2t
    have exps : ∃ ps : List Addr, ys = ps.map V.ref ∧ Paired (fun p kv => SqT K H2 p [kV kv.1, kv.2]) ps (tbK (tbOwn own tb)) := by
      generalize tbOwn own tb = tt at f2t
      clear hD2
      induction f2t with
      | nil => exact ⟨[], rfl, .nil⟩
      | cons h1 h2 ih =>
        obtain ⟨t, rfl, ht⟩ := h1
        obtain ⟨ps, rfl, hp⟩ := ih
        exact ⟨t :: ps, rfl, .cons (SqT.of ht) hp⟩
    obtain ⟨ps, rfl, hps⟩ := exps
    refine ⟨D2, ps, _, rfl, SqL.of hD2, hps, fun DT nDT => ?_⟩
    have em := merge_nd (tbOwn own tb) [] (by rw [List.nil_append]; exact tbOwn_nd ndo)
    have em : mergeK [] (tbK (tbOwn own tb)) = tbK (tbOwn own tb) := em
    rw [em]
    have s3 := same_upd (o := .dK (tbK (tbOwn own tb))) nDT
    have hT3 := upd_same (H := H2) (a := DT) (o := .dK (tbK (tbOwn own tb)))
    generalize L2.upd H2 DT (.dK (tbK (tbOwn own tb))) = H3 at s3 hT3
    refine ⟨rfl, fun TK H4 s4 nTK hTK => ⟨(by show 0 ≤ sizeLine; decide), fun FL nFL => ⟨_, _, rfl, ?_⟩⟩⟩
    have s5 := same_upd (o := .lst []) nFL
    have hFL := upd_same (H := H4) (a := FL) (o := .lst [])
    have hTK5 := s5 _ _ hTK
    have hT5 := s5 _ _ (s4 _ _ hT3)
    have s03 := (s1.trans s2).trans s3
    have s05 := (s03.trans s4).trans s5
    generalize L2.upd H4 FL (.lst []) = H5 at s5 hFL hTK5 hT5 s05
    have nTKH : H TK = none := s03.free nTK
    have nFLH : H FL = none := (s03.trans s4).free nFL
    have nTKT : DT ≠ TK := ne_of hT5 hTK5 (by intro z; cases z)
    have nFLT : DT ≠ FL := ne_of hT5 hFL (by intro z; cases z)
    have nFLK : FL ≠ TK := fun e => by rw [← e, nFL] at hTK; cases hTK
    have fin1 : ∀ {G : Hp}, Kp [TK, FL] H5 G → Same H G := fun kg c o e => kg _ _ (s05 _ _ e) (by
      have n1 : c ≠ TK := ne_of_none e nTKH
      have n2 : c ≠ FL := ne_of_none e nFLH
      simp [n1, n2])
    have lxs := f2.len
    rw [List.length_map] at lxs
    have f4 : ∀ (z : Str), (valV (tbK (tbOwn own tb)) (Sum.inr z)).getD (.str z) = .str (turnF sts tb z) := fun z => by
      rw [tbK_look, tbOwn_look]
      unfold turnF
      rw [eow]
      by_cases c : z ∈ own
      · rw [if_pos c, if_pos c]
        cases tb.lookup z <;> rfl
      · rw [if_neg c, if_neg c]
        rfl
    refine ⟨_, rfl, a, xs, rfl, .inl (SqL.of (s05 _ _ ha)), fun J2 GG2 wk2 hGG2 => ?_⟩
    refine for_it wk2 (fun i σ G => ∃ v3 v4 v8 wl, σ = [some (.ref a), some (.ref b), some (.ref D1), v3, v4, some (.ref DT), some (.ref TK), some (.ref FL), v8] ∧ Kp [TK, FL] H5 G ∧ G TK = some (.lst ((SHEET ++ ((sts.take i).map fun s => turnF sts tb s.1)).map V.str)) ∧ G FL = some (.lst wl) ∧ wl.length = i ∧
        F2 (Dq [TK, FL] G) wl (((sts.take i).map (renS (turnF sts tb))).map stepPy) ∧ exch (turnF sts tb) SHEET sts = match exch (turnF sts tb) (SHEET ++ ((sts.take i).map fun s => turnF sts tb s.1)) (sts.drop i) with | .inl z => .inl z | .inr l => .inr ((sts.take i).map (renS (turnF sts tb)) ++ l))
      ⟨none, none, none, [], rfl, Kp.refl _ _, hTK5, hFL, rfl, .nil, ?_⟩ (fun i σ G _ q => ?_) ?_ ?_
    · rw [List.take_zero, List.map_nil, List.append_nil, List.drop_zero]
      cases exch (turnF sts tb) SHEET sts with
      | inl z => rfl
      | inr l => rfl
    · obtain ⟨_, _, _, _, _, kG, _⟩ := q
      exact hGG2 G fun o e => fin1 kG _ _ (by have := s05 _ _ ha; rw [e] at this; rw [ha, ← this])
    · rintro i y σ G G' hi ⟨v3, v4, v8, wl, rfl, kG, hK, hFL, lW, f2w, eq⟩ ⟨rfl, hy⟩
      have sG := fin1 kG
      obtain ⟨e, he, hq0⟩ := f2.at_ hy
      rw [List.getElem?_map] at he
      cases ez : sts[i]? with
      | none => rw [ez] at he; cases he
      | some st =>
      rw [ez] at he
      cases he
      obtain ⟨q, p, rfl, _, hq, _, hp⟩ := dq_stepA (hq0.same sG)
      have ms := List.mem_of_getElem? ez
      have hTG : G' DT = some (.dK (tbK (tbOwn own tb))) := kG _ _ hT5 (by simp [nTKT, nFLT])
      obtain ⟨okn, okd⟩ := ok.nm st ms
      have li : i < sts.length := by rw [← lxs]; exact hi
      refine ⟨q, _, rfl, SqT.of hq, rfl, _, _, rfl, _, _, rfl, rfl, ?_⟩
      refine ⟨_, rfl, DT, rfl, .inl ⟨_, .inl hTG⟩, _, rfl, _, rfl, _, DGet.k (k := Sum.inr st.1) hTG, ?_⟩
      rw [f4 st.1]
      have okr : ∀ s ∈ sts, NameOk s.1 → NameOk (turnF sts tb s.1) := fun s _ h => by
        unfold turnF
        by_cases c : s.1 ∈ sts.map (·.1)
        · rw [if_pos c]
          exact meanF_ok (fun e he => (nm e he).2) h
        · rw [if_neg c]
          exact h
      have flN : ((SHEET ++ ((sts.take i).map fun s => turnF sts tb s.1)).map V.str).all flatV = true := by
        rw [List.all_map, List.all_eq_true]
        intro _ _
        rfl
      refine ⟨_, rfl, _, rfl, TK, _, rfl, .inl (SqL.of hK), rfl, flN, _, rfl, ?_⟩
      rw [inV_str]
      have eD : sts.drop i = st :: sts.drop (i + 1) := drop_at ez
      rw [eD] at eq
      by_cases c : turnF sts tb st.1 ∈ SHEET ++ ((sts.take i).map fun s => turnF sts tb s.1)
      · rw [decide_eq_true c]
        refine iteT ?_
        have e2 : exch (turnF sts tb) SHEET sts = .inl (turnF sts tb st.1) := by
          rw [eq, exch_hit c]
        exact ⟨_, rfl, kC _ e2 _ sG⟩
      rw [decide_eq_false c]
      refine iteF ?_
      have lK : ((SHEET ++ ((sts.take i).map fun s => turnF sts tb s.1)).map V.str).length ≤ 1000 := by
        rw [List.length_map, List.length_append, List.length_map, List.length_take]
        show 5 + _ ≤ 1000
        omega
      refine ⟨_, rfl, .inl ⟨rfl, _, .inl (.inl hK)⟩, _, rfl, TK, _, _, rfl, rfl, hK, Nat.lt_of_le_of_lt lK (by decide), ?_⟩
      have hFL5 : (L2.upd G' TK (.lst ((SHEET ++ ((sts.take i).map fun s => turnF sts tb s.1)).map V.str ++ [V.str (turnF sts tb st.1)]))) FL = some (.lst wl) := by
        rw [upd_ne nFLK]
        exact hFL
      have hK5 : (L2.upd G' TK (.lst ((SHEET ++ ((sts.take i).map fun s => turnF sts tb s.1)).map V.str ++ [V.str (turnF sts tb st.1)]))) TK = some (.lst ((SHEET ++ ((sts.take (i + 1)).map fun s => turnF sts tb s.1)).map V.str)) := by
        rw [upd_same, take_snoc ez]
        simp
      have kU : Kp [TK, FL] G' (L2.upd G' TK (.lst ((SHEET ++ ((sts.take i).map fun s => turnF sts tb s.1)).map V.str ++ [V.str (turnF sts tb st.1)]))) := Kp.upd (by simp)
      have k5 := kG.trans kU
      have f25 := f2w.mono fun _ _ q => Dq.keep (KpE.of kU) _ _ q
      have hp5 := kU _ _ hp (by
        have n1 : p ≠ TK := ne_of hp hK (by intro z; cases z)
        have n2 : p ≠ FL := ne_of hp hFL (by intro z; cases z)
        simp [n1, n2])
      have hT6 := kU _ _ hTG (by simp [nTKT, nFLT])
      generalize L2.upd G' TK (.lst ((SHEET ++ ((sts.take i).map fun s => turnF sts tb s.1)).map V.str ++ [V.str (turnF sts tb st.1)])) = G5 at hFL5 hK5 k5 kU f25 hp5 hT6
      refine ⟨_, rfl, .inl ⟨rfl, _, .inl (.inl hFL5)⟩, _, rfl, ?_⟩
      refine ⟨_, rfl, _, rfl, p, DT, st.2, _, turnF sts tb, rfl, hp5, okd, hT6, fun z _ => f4 z, fun r G6 s6 hr6 => ?_⟩
      refine ⟨(by show 2 ≤ sizeLine; decide), fun t nt => ?_⟩
      have s7 := same_upd (o := .tup [.str (turnF sts tb st.1), .ref r]) nt
      have ht7 := upd_same (H := G6) (a := t) (o := .tup [.str (turnF sts tb st.1), .ref r])
      have hr7 := s7 _ _ hr6
      have s57 := s6.trans s7
      have hFL7 := s57 _ _ hFL5
      have hK7 := s57 _ _ hK5
      have f27 := f25.mono fun _ _ q => q.same s57
      have k7 := k5.trans (Kp.of s57)
      generalize L2.upd G6 t (.tup [.str (turnF sts tb st.1), .ref r]) = G7 at s7 ht7 hr7 s57 hFL7 hK7 f27 k7
      refine ⟨FL, _, _, rfl, rfl, hFL7, Nat.lt_of_le_of_lt (show wl.length ≤ 1000 by omega) (by decide), ?_⟩
      have new : Dq [TK, FL] G7 (.ref t) (stepPy (renS (turnF sts tb) st)) := by
        have n1 : t ≠ TK := ne_of ht7 hK7 (by intro z; cases z)
        have n2 : t ≠ FL := ne_of ht7 hFL7 (by intro z; cases z)
        have n3 : r ≠ TK := ne_of hr7 hK7 (by intro z; cases z)
        have n4 : r ≠ FL := ne_of hr7 hFL7 (by intro z; cases z)
        exact .tup (by simp [n1, n2]) ht7 (.cons (.str _) (.cons (Dq.of_deed (by simp [n3, n4]) hr7) .nil))
      have kF : Kp [TK, FL] G7 (L2.upd G7 FL (.lst (wl ++ [.ref t]))) := Kp.upd (by simp)
      have tk1 : sts.take (i + 1) = sts.take i ++ [st] := take_snoc ez
      refine ⟨_, _, _, wl ++ [.ref t], rfl, k7.trans kF, ?_, upd_same, ?_, ?_, ?_⟩
      · rw [upd_ne nFLK.symm]
        exact hK7
      · rw [List.length_append]
        show wl.length + 1 = i + 1
        omega
      · rw [tk1, List.map_append, List.map_append]
        exact (f27.snoc new).mono fun _ _ q => Dq.keep (KpE.of kF) _ _ q
      · rw [eq, exch_go c, tk1, List.map_append, List.map_append, ← List.append_assoc]
        show _ = (match exch (turnF sts tb) (SHEET ++ ((sts.take i).map fun s => turnF sts tb s.1) ++ [turnF sts tb st.1]) (sts.drop (i + 1)) with | .inl z => _ | .inr l => _)
        cases exch (turnF sts tb) (SHEET ++ ((sts.take i).map fun s => turnF sts tb s.1) ++ [turnF sts tb st.1]) (sts.drop (i + 1)) with
        | inl z => rfl
        | inr l => simp
    · rintro σ G ⟨v3, v4, v8, wl, rfl, kG, hK, hFL, lW, f2w, eq⟩
      rw [lxs, List.take_length] at f2w eq
      rw [List.drop_length] at eq
      have e2 : exch (turnF sts tb) SHEET sts = .inr (sts.map (renS (turnF sts tb))) := by
        rw [eq]
        show Sum.inr (_ ++ []) = _
        rw [List.append_nil]
      exact ⟨_, rfl, kQ _ e2 FL wl G (fin1 kG) nFLH hFL (f2w.mono fun _ _ q => q.none_N)⟩
end
end Own
set_option Elab.async false
set_option linter.all false
set_option maxRecDepth 100000
set_option maxHeartbeats 1000000
namespace Own
open PySem PySem.Spec PyProof.Rows L2 LamX
def matchF : List (Str × Str) → List (Str × Deed) → List (Str × Deed) → Option (List (Str × Str))
  | tb, s :: r, t :: r' => if renD (meanF tb) s.2 = t.2 then matchF (tb ++ [(s.1, t.1)]) r r' else none
  | tb, _, _ => some tb
def spMatched : Sp := fun vs H Q _ => ∃ (a b : Addr) (xs ys : List V) (one other : List (Str × Deed)), vs = [.ref a, .ref b] ∧ H a = some (.lst xs) ∧ H b = some (.lst ys) ∧ F2 (Dq [] H) xs (one.map stepPy) ∧ F2 (Dq [] H) ys (other.map stepPy) ∧ LikeOk one ∧ LikeOk other ∧
  ((one.length ≠ other.length ∨ matchF [] one other = none) → ∀ H', Same H H' → Q .non H') ∧
  (one.length = other.length → ∀ tb, matchF [] one other = some tb → ∀ D H', Same H H' → H D = none → H' D = some (.dK (tbK tb)) → Q (.ref D) H')
section
variable {NOW : List Str} {P : Program} {w : World} {K : PySem.W.Frag} {mg : Str → Option Value} {base : Heap} {f : Addr} {fd2 fdN fdT : FuncData}
abbrev nsMatched : List Str := ["_law_one", "_law_other", "_law_turn", "_law_name_here", "_law_deed_here", "_law_fresh", "_law_last"]
theorem scMatched : FnScope nsMatched ["_law_one", "_law_other"] (defScope sMatched) := ⟨rfl, rfl, rfl, by decide +kernel, rfl, by decide +kernel, by decide +kernel⟩
theorem ok_matched (F : FnP K "_law_matched" sMatched f fd2) (KT : Fk P w K mg base CX0 3 "_law_turned_deed" fdT ["_law_deed_here", "_law_means"] spTDeed) (T : Txt K mg) (N : TxtN mg) : FnOk P w K mg base CX0 4 f fd2 ["_law_one", "_law_other"] spMatched := by
  refine F.ok scMatched (fun vs H Q E h => ?_) (fun cdv A outer s H vs Q E hr h => ?_)
  · obtain ⟨a, b, xs, ys, one, other, rfl, _⟩ := h
    rfl
  · obtain ⟨a, b, xs, ys, one, other, rfl, ha, hb, f2, f2', ok1, ok2, kN, kY⟩ := h
    have hu := hu_of hr
    refine ⟨_, PSs.nox (pss_cons (ps_if (pt_cmpR op_ne (pe_callB call_len_seq (by rfl) T.len PySem.boot_len (pa_cons (pv 0) pa_nil)) (pe_callB call_len_seq (by rfl) T.len PySem.boot_len (pa_cons (pv 1) pa_nil)) (nomark _)) (pss_one (ps_ret pe_non)) pss_nil)
      (pss_cons (ps_set (i := 2) scMatched.nd rfl (.inl rfl) pe_dnewK)
      (pss_cons (ps_for PassesOwn.never rfl (pi_zip (by rfl) N.zip (pa_cons (pv 0) (pa_cons (pv 1) pa_nil))) (pg_tup rfl (pgs_cons (pg_tup rfl (pgs_cons (pg_name (i := 3) scMatched.nd rfl (.inl rfl)) (pgs_cons (pg_name (i := 4) scMatched.nd rfl (.inl rfl)) pgs_nil))) (pgs_cons (pg_tup rfl (pgs_cons (pg_name (i := 5) scMatched.nd rfl (.inl rfl)) (pgs_cons (pg_name (i := 6) scMatched.nd rfl (.inl rfl)) pgs_nil))) pgs_nil)))
        (pss_cons (ps_if (pt_cmpR (op_neD hr.units) (pe_call KT.ok hr (by rfl) KT.g KT.kp KT.b .nil pass0 (pa_cons (pv 4) (pa_cons (pv 2) pa_nil))) (pv 6) (nomark _)) (pss_one (ps_ret pe_non)) pss_nil)
        (pss_one (ps_dput hu (pv 2) (pv 3) (pv 5) rfl))))
      (pss_one (ps_ret (pv 2)))))), ?_⟩
    have lxs := f2.len
    have lys := f2'.len
    rw [List.length_map] at lxs lys
    refine ⟨_, rfl, a, xs, rfl, .inl (SqL.of ha), _, rfl, b, ys, rfl, .inl (SqL.of hb), rfl, _, rfl, ?_⟩
    have el : (!decide (V.int (xs.length : Int) = V.int (ys.length : Int))) = !decide (one.length = other.length) := by
      rw [lxs, lys]
      congr 1
      rw [decide_eq_decide]
      constructor
      · intro h
        injection h with h
        omega
      · intro h
        rw [h]
    rw [el]
    by_cases hl : ¬ one.length = other.length
    · rw [decide_eq_false hl]
      refine iteT ?_
      exact kN (.inl hl) _ (Same.refl _)
    have hl : one.length = other.length := Classical.not_not.mp hl
    rw [decide_eq_true hl]
    refine iteF ?_
    intro D nD
    have l100 := ok1.len
    have lt := tb_len one other hl
    have kt := tb_keys hl
    have s0 := same_upd (o := .dK []) nD
    have hD0 := upd_same (H := H) (a := D) (o := .dK [])
    generalize L2.upd H D (.dK []) = H0 at s0 hD0
    have okT : ∀ e ∈ tbOf one other, NameOk e.2 := fun e he => by
      have h2 : e.2 ∈ other.map (·.1) := by rw [← tb_vals hl]; exact List.mem_map.mpr ⟨e, he, rfl⟩
      obtain ⟨t, ht, e2⟩ := List.mem_map.mp h2
      rw [← e2]
      exact (ok2.nm t ht).1
    have stp : ∀ {zs : List V} {ds : List (Str × Deed)} (f : F2 (Dq [] H) zs (ds.map stepPy)) {i : Nat} {y : V} {G1 : Hp}, Same H G1 → zs[i]? = some y → ∃ st q p, ds[i]? = some st ∧ y = .ref q ∧ G1 q = some (.tup [.str st.1, .ref p]) ∧ G1 p = some (.tup st.2.vs) := fun {zs ds} f {i y G1} sg hy => by
      obtain ⟨e, he, hq0⟩ := f.at_ hy
      rw [List.getElem?_map] at he
      cases ez : ds[i]? with
      | none => rw [ez] at he; cases he
      | some st =>
        rw [ez] at he
        cases he
        obtain ⟨q, p, rfl, _, hb, _, hp⟩ := dq_stepA (hq0.same sg)
        exact ⟨st, q, p, rfl, rfl, hb, hp⟩
    refine ⟨_, rfl, _, rfl, a, b, xs, ys, rfl, SqL.of (s0 _ _ ha), SqL.of (s0 _ _ hb), ?_⟩
    refine for_it (walk_zip (xs := xs) (ys := ys) (n := one.length) (by omega)) (fun i σ G => ∃ v3 v4 v5 v6, σ = [some (.ref a), some (.ref b), some (.ref D), v3, v4, v5, v6] ∧ Same H G ∧ G D = some (.dK (tbK ((tbOf one other).take i))) ∧ matchF [] one other = matchF ((tbOf one other).take i) (one.drop i) (other.drop i))
      ⟨none, none, none, none, rfl, s0, hD0, rfl⟩ (fun i σ G _ q => by obtain ⟨_, _, _, _, _, sG, _⟩ := q; exact ⟨SqL.of (sG _ _ ha), SqL.of (sG _ _ hb)⟩) ?_ ?_
    · rintro i v σ G G' hi ⟨v3, v4, v5, v6, rfl, sG, hD, eq⟩ ⟨T0, u1, u2, rfl, nT, rfl, h1, h2⟩
      obtain ⟨st, q, p, ez, rfl, hq, hp⟩ := stp f2 sG h1
      obtain ⟨st', q', p', ez', rfl, hq', hp'⟩ := stp f2' sG h2
      have sT := same_upd (o := .tup [.ref q, .ref q']) nT
      have hT0 := upd_same (H := G) (a := T0) (o := .tup [.ref q, .ref q'])
      have sGT := sG.trans sT
      have hDT := sT _ _ hD
      generalize L2.upd G T0 (.tup [.ref q, .ref q']) = G1 at sT hT0 sGT hDT
      have htb := tb_at ez ez'
      obtain ⟨okn, okd⟩ := ok1.nm st (List.mem_of_getElem? ez)
      obtain ⟨okn', okd'⟩ := ok2.nm st' (List.mem_of_getElem? ez')
      refine ⟨T0, _, rfl, SqT.of hT0, rfl, _, _, rfl, ⟨q, _, rfl, SqT.of (sT _ _ hq), rfl, _, _, rfl, _, _, rfl, rfl, ?_⟩⟩
      refine ⟨_, _, rfl, ⟨q', _, rfl, SqT.of (sT _ _ hq'), rfl, _, _, rfl, _, _, rfl, rfl, ?_⟩⟩
      refine ⟨rfl, ?_⟩
      refine ⟨_, rfl, _, rfl, p, D, st.2, _, meanF ((tbOf one other).take i), rfl, sT _ _ hp, okd, hDT, fun z _ => ?_, fun r G2 s2 hr2 => ?_⟩
      · rw [tbK_look]
        unfold meanF
        cases ((tbOf one other).take i).lookup z <;> rfl
      have okR : DeedOk (renD (meanF ((tbOf one other).take i)) st.2) := renD_ok okd fun z hz => meanF_ok (fun e he => okT e (List.mem_of_mem_take he)) hz
      have dA : one.drop i = st :: one.drop (i + 1) := drop_at ez
      have dB : other.drop i = st' :: other.drop (i + 1) := drop_at ez'
      rw [dA, dB] at eq
      have eq2 : matchF [] one other = if renD (meanF ((tbOf one other).take i)) st.2 = st'.2 then matchF ((tbOf one other).take i ++ [(st.1, st'.1)]) (one.drop (i + 1)) (other.drop (i + 1)) else none := eq
      have s3 := sGT.trans s2
      refine ⟨_, rfl, ne_deeds (N := []) (M := []) (Dq.of_deed (by simp) hr2) (Dq.of_deed (by simp) (s2 _ _ (sT _ _ hp'))) okR okd' ?_⟩
      refine ⟨_, rfl, ?_⟩
      by_cases c : ¬ renD (meanF ((tbOf one other).take i)) st.2 = st'.2
      · rw [decide_eq_false c]
        refine iteT ?_
        rw [if_neg c] at eq2
        exact kN (.inr eq2) _ s3
      have c : renD (meanF ((tbOf one other).take i)) st.2 = st'.2 := Classical.not_not.mp c
      rw [decide_eq_true c]
      refine iteF ?_
      rw [if_pos c] at eq2
      have hD2 := s2 _ _ hDT
      refine ⟨_, rfl, _, rfl, _, rfl, D, _, rfl, DPut.k (k := Sum.inr st.1) hD2 ?_, ?_⟩
      · unfold tbK
        rw [List.length_map, List.length_take]
        exact Nat.lt_of_le_of_lt (show min i (tbOf one other).length ≤ 1000 by omega) (by decide)
      have nk : st.1 ∉ ((tbOf one other).take i).map (·.1) := fun hz => by
        have nd := ok1.nd
        rw [← kt, ← List.take_append_drop i (tbOf one other), List.map_append] at nd
        refine (List.nodup_append.mp nd).2.2 st.1 hz st.1 ?_ rfl
        refine List.mem_map.mpr ⟨(st.1, st'.1), ?_, rfl⟩
        exact List.mem_of_getElem? (i := 0) (by rw [List.getElem?_drop]; simpa using htb)
      rw [tbK_new nk]
      refine ⟨_, _, _, _, rfl, fun c o e => ?_, ?_, ?_⟩
      · rw [upd_ne (ne_of_none e nD)]
        exact s3 _ _ e
      · rw [upd_same, take_snoc htb]
      · rw [take_snoc htb]
        exact eq2
    · rintro σ G ⟨v3, v4, v5, v6, rfl, sG, hD, eq⟩
      rw [List.drop_length] at eq
      have : other.drop one.length = [] := by rw [hl, List.drop_length]
      rw [this] at eq
      exact ⟨_, rfl, kY hl _ eq D G sG nD hD⟩
end
end Own
set_option Elab.async false
set_option linter.all false
set_option maxRecDepth 100000
set_option maxHeartbeats 1000000
namespace Own
open PySem PySem.Spec PyProof.Rows L2 LamX
/-! ### drawn tables of names -/
def rSetD : TSet := fun o i v H Q => ∃ a H', o = .ref a ∧ DPut H a i v H' ∧ Q H'
theorem set_dict {X : Cx} (hu : X.A.units + 1 < cLine) : PSet X rSetD := by
  intro pins s σ H x y v ox iy vv Q I rx ry rv h
  obtain ⟨a, H', rfl, g, q⟩ := h
  obtain rfl : ox = Value.ref a := rx
  exact d_setItem hu I g ry rv fun s' I' => ⟨H', I', q⟩
theorem tbK_put {Pr : Str × Str → Prop} (z v : Str) : ∀ tb : List (Str × Str), (∀ e ∈ tb, Pr e) → Pr (z, v) → ∃ tb', putK (tbK tb) (Sum.inr z) (.str v) = tbK tb' ∧ (∀ e ∈ tb', Pr e) ∧ tb'.length ≤ tb.length + 1 := fun tb h hn => by
  by_cases c : z ∈ tb.map (·.1)
  · have e : (tbK tb).any (fun kv => kv.1 = Sum.inr z) = true := by
      obtain ⟨e, he, q⟩ := List.mem_map.mp c
      rw [List.any_eq_true]
      exact ⟨_, List.mem_map.mpr ⟨e, he, rfl⟩, by rw [← q]; simp⟩
    refine ⟨tb.map fun e => if e.1 = z then (z, v) else e, ?_, fun e he => ?_, by rw [List.length_map]; omega⟩
    · unfold putK
      rw [if_pos e]
      unfold tbK
      rw [List.map_map, List.map_map]
      refine congrArg some ?_ |> Option.some.inj
      refine List.map_congr_left fun u hu => ?_
      show (if Sum.inr u.1 = (Sum.inr z : Key) then (Sum.inr u.1, V.str v) else (Sum.inr u.1, V.str u.2)) = (Sum.inr (if u.1 = z then (z, v) else u).1, V.str (if u.1 = z then (z, v) else u).2)
      by_cases q : u.1 = z
      · rw [if_pos (by rw [q]), if_pos q, q]
      · rw [if_neg (fun h => q (by injection h)), if_neg q]
    · obtain ⟨u, hu, rfl⟩ := List.mem_map.mp he
      split
      · exact hn
      · exact h u hu
  · exact ⟨tb ++ [(z, v)], tbK_new c, fun e he => by
      rcases List.mem_append.mp he with he | he
      · exact h e he
      · rw [List.mem_singleton.mp he]
        exact hn, by rw [List.length_append]; exact Nat.le_refl _⟩
theorem seq_post {A B : TS} {D : Ends} {σ : L2.St} {H : Hp} (C : L2.St → Hp → Prop) (h : ∀ D' : Ends, (∀ σ' H', C σ' H' → D'.nx σ' H') → A D' σ H) (k : ∀ σ' H', C σ' H' → B D σ' H') : tSeq A B D σ H := h { D with nx := B D } k
theorem ex_put {H3 : Hp} {a : Addr} {x y : V} {q : Hp → Prop} (h : ∃ H4, DPut H3 a y x H4 ∧ q H4) : ∃ a' H4, V.ref a = .ref a' ∧ DPut H3 a' y x H4 ∧ q H4 := by
  obtain ⟨H4, h1, h2⟩ := h
  exact ⟨a, H4, rfl, h1, h2⟩
theorem nx_seq {σ : L2.St} {H : Hp} {a b : TS} {D : Ends} {r : VK} {c e : L2.St → Hp → Prop} (h : tSeq a b D σ H) : Ends.nx { nx := tSeq a b D, rt := r, bk := c, ct := e } σ H := h
theorem dput_gen {te td ty : TE} {σ : L2.St} {H : Hp} {D : Ends} (C : V → Hp → Prop) (h : ∀ Q : VK, (∀ x H, C x H → Q x H) → te σ H Q) (k : ∀ x H, C x H → td σ H fun x' H2 => ty σ H2 fun y H3 => ∃ a H4, x' = .ref a ∧ DPut H3 a y x H4 ∧ D.nx σ H4) : sDPut td ty te D σ H := h _ k
/-- names of a drawn table -/
def TbOk (tb : List (Str × Str)) : Prop := ∀ e ∈ tb, NameOk e.1 ∧ e.2 ∈ NMS
theorem cut_one (xs : List V) : cutV xs (some 1) none = xs.drop 1 := by
  cases xs with
  | nil => rfl
  | cons x r => exact cut_drop (k := 1) (by simp)
theorem nms_ok {z : Str} (h : z ∈ NMS) : NameOk z := (nms_item z h).2
theorem TbOk.put {tb : List (Str × Str)} (h : TbOk tb) {z v : Str} (hz : NameOk z) (hv : v ∈ NMS) : ∃ tb', putK (tbK tb) (Sum.inr z) (.str v) = tbK tb' ∧ TbOk tb' ∧ tb'.length ≤ tb.length + 1 := tbK_put z v tb h ⟨hz, hv⟩
def spTable : Sp := fun vs H Q _ => ∃ (a lw lc : Addr) (t : Nat) (p : Addr) (xs : List V) (sts : List (Str × Deed)), vs = [.ref a, .ref p] ∧ StA H a lw lc t ∧ t < 2 ^ 38 ∧ H p = some (.lst xs) ∧ p ∉ [a, lw] ∧ F2 (NameT H) xs sts ∧ sts.length ≤ 8 ∧ (∀ s ∈ sts, s.1 ∈ NMS) ∧
  ∀ (D : Addr) (tb : List (Str × Str)) H', tb.length ≤ 12 → TbOk tb → StA H' a lw lc (t + 30) → Kp [a, lw] H H' → H D = none → H' D = some (.dK (tbK tb)) → Q (.ref D) H'
section
variable {NOW : List Str} {P : Program} {w : World} {K : PySem.W.Frag} {mg : Str → Option Value} {base : Heap} {f : Addr} {fd2 dD dP dS dN : FuncData}
abbrev nsTable : List Str := ["_law_state", "_law_steps", "_law_own", "_law_name_here", "_law_deed_here", "_law_spare", "_law_found", "_law_kind"]
theorem scTable : FnScope nsTable ["_law_state", "_law_steps"] (defScope sTable) := ⟨rfl, rfl, rfl, by decide +kernel, rfl, by decide +kernel, by decide +kernel⟩
def SPARE : List Str := "b" :: "zzz" :: "gauge" :: "a7" :: "s1" :: "n" :: "zkz" :: "draw" :: []
theorem spare_nms : ∀ z ∈ SPARE, z ∈ NMS := by decide +kernel
theorem ok_table (F : FnP K "_law_table" sTable f fd2) (KD : Fk P w K mg base CX0 2 "_law_draw" dD ["_law_state", "_law_room"] spDraw) (KP : Fk P w K mg base CX0 3 "_law_pick" dP ["_law_state", "_law_some"] (spPick K)) (KS : Fk P w K mg base CX0 3 "_law_shuffled" dS ["_law_state", "_law_some"] spShuf)
    (KN : Fk P w K mg base CX0 1 "_law_sheet_names" dN [] spShN) (T : Txt K mg) : FnOk P w K mg base CX0 4 f fd2 ["_law_state", "_law_steps"] spTable := by
  refine F.ok scTable (fun vs H Q E h => ?_) (fun cdv A outer s H vs Q E hr h => ?_)
  · obtain ⟨a, lw, lc, t, p, xs, sts, rfl, _⟩ := h
    rfl
  · obtain ⟨a, lw, lc, t, p, xs, sts, rfl, S, ht, hp, np, f2, l8, nmS, k⟩ := h
    have hu := hu_of hr
    have hr1 := hr.mono (show 1 ≤ 3 by decide)
    have hr2 := hr.mono (show 2 ≤ 3 by decide)
    refine ⟨_, PSs.nox (pss_cons (ps_setLc (i := 2) (own := [("_law_name_here", 3), ("_law_deed_here", 4)]) (g := gTup K 2 (gCons (gName 3) (gCons (gName 4) gNil))) (tt := tYes) (by rfl) scTable.nd rfl rfl (sw_true rfl rfl rfl (by decide +kernel)) (pi_list (pv 1)) (blkOk_by (own := [("_law_name_here", 3), ("_law_deed_here", 4)]) (N := nsTable) (sc := defScope sTable) (by decide +kernel))
          (fun _ _ _ _ _ => pg_tup rfl (pgs_cons (pg_name (i := 3) scTable.nd rfl (.inl rfl)) (pgs_cons (pg_name (i := 4) scTable.nd rfl (.inl rfl)) pgs_nil))) (fun _ _ _ _ _ => pts_nil) (fun _ _ _ _ _ => pv 3))
      (pss_cons (ps_set (i := 5) scTable.nd rfl (.inl rfl) (pe_call KS.ok hr (by rfl) KS.g KS.kp KS.b .nil pass0 (pa_cons (pv 0) (pa_cons (pe_lst (pa_cons pe_str (pa_cons pe_str (pa_cons pe_str (pa_cons pe_str (pa_cons pe_str (pa_cons pe_str (pa_cons pe_str (pa_cons pe_str pa_nil))))))))) pa_nil))))
      (pss_cons (ps_par (i := 6) (j := 7) (by rfl) scTable.nd rfl rfl (by decide) rfl rfl (pa_cons pe_dnewK (pa_cons (pe_call KD.ok hr2 (by rfl) KD.g KD.kp KD.b .nil pass0 (pa_cons (pv 0) (pa_cons pe_int pa_nil))) pa_nil)) (by rfl))
      (pss_cons (ps_for PassesOwn.never rfl (pi_list (pv 2)) (pg_name (i := 3) scTable.nd rfl (.inl rfl))
        (pss_one (ps_if (pt_cmpR op_gt (pe_call KD.ok hr2 (by rfl) KD.g KD.kp KD.b .nil pass0 (pa_cons (pv 0) (pa_cons pe_int pa_nil))) pe_int (nomark _))
          (pss_cons (ps_dput hu (pv 6) (pv 3) (pe_ifExp (pt_cmpR (op_neD hr.units) (pv 5) (pe_lst pa_nil) (nomark _)) (pe_ix ix_list (pv 5) pe_int (fun _ _ => rfl)) (pv 3)) rfl)
          (pss_one (ps_set (i := 5) scTable.nd rfl (.inl rfl) (pe_slice sl_list (pv 5) (po_some pe_int) po_none)))) pss_nil)))
      (pss_cons (ps_if (PW.pt (pw_and (pt_cmpR op_eq (pv 7) pe_int (nomark _)) (pw_and1 (pt_cmpR op_gt (pe_callB call_len_seq (by rfl) T.len PySem.boot_len (pa_cons (pv 2) pa_nil)) pe_int (nomark _)))))
          (pss_one (ps_asg (pe_tup (pa_cons (pe_ix ix_list (pv 2) (pe_op op_sub (pe_callB call_len_seq (by rfl) T.len PySem.boot_len (pa_cons (pv 2) pa_nil)) pe_int) (fun _ _ => rfl)) (pa_cons (pe_ix ix_list (pv 2) pe_int (fun _ _ => rfl)) pa_nil)))
            (pg_tup rfl (pgs_cons (pg_sub (pv 6) (pe_ix ix_list (pv 2) pe_int (fun _ _ => rfl)) (set_dict hu)) (pgs_cons (pg_sub (pv 6) (pe_ix ix_list (pv 2) (pe_op op_sub (pe_callB call_len_seq (by rfl) T.len PySem.boot_len (pa_cons (pv 2) pa_nil)) pe_int) (fun _ _ => rfl)) (set_dict hu)) pgs_nil)))))
          (pss_one (ps_if (PW.pt (pw_and (pt_cmpR op_eq (pv 7) pe_int (nomark _)) (pw_and1 (pt_cmpR (op_neD hr.units) (pv 2) (pe_lst pa_nil) (nomark _)))))
            (pss_one (ps_dput hu (pv 6) (pe_call KP.ok hr (by rfl) KP.g KP.kp KP.b .nil pass0 (pa_cons (pv 0) (pa_cons (pv 2) pa_nil))) (pe_call KP.ok hr (by rfl) KP.g KP.kp KP.b .nil pass0 (pa_cons (pv 0) (pa_cons (pe_op op_cat (pv 2) (pe_call0 KN.ok hr1 (by rfl) KN.g KN.kp KN.b .nil pass0)) pa_nil))) rfl))
            (pss_one (ps_if (pt_cmpR op_eq (pv 7) pe_int (nomark _))
              (pss_one (ps_dput hu (pv 6) (pe_call KP.ok hr (by rfl) KP.g KP.kp KP.b .nil pass0 (pa_cons (pv 0) (pa_cons (pe_call0 KN.ok hr1 (by rfl) KN.g KN.kp KN.b .nil pass0) pa_nil))) pe_str rfl))
              (pss_one (ps_if (pt_cmpR op_eq (pv 7) pe_int (nomark _))
                (pss_one (ps_dput hu (pv 6) pe_str (pe_call KP.ok hr (by rfl) KP.g KP.kp KP.b .nil pass0 (pa_cons (pv 0) (pa_cons (pe_op op_cat (pv 2) (pe_lst (pa_cons pe_str pa_nil))) pa_nil))) rfl))
                pss_nil)))))))
      (pss_one (ps_ret (pv 6)))))))), ?_⟩
    refine ⟨_, rfl, p, rfl, ⟨_, SqL.of hp⟩, fun D1 nD1 => ?_⟩
    refine lc_names walk_list nD1 (fun G sG => SqL.of (sG _ _ hp)) f2 (by omega) (fun _ _ => rfl) (fun _ _ => rfl) fun H1 s1 hD1 => ?_
    generalize eow : sts.map (·.1) = own at hD1
    have lo : own.length = sts.length := by rw [← eow, List.length_map]
    have nmO : ∀ z ∈ own, z ∈ NMS := fun z hz => by
      rw [← eow] at hz
      obtain ⟨s, hs, rfl⟩ := List.mem_map.mp hz
      exact nmS s hs
    obtain ⟨oD1, oD1c⟩ := S.new nD1
    refine ⟨_, rfl, (by show 8 ≤ sizeLine; decide), fun l nl => ?_⟩
    have s2 := same_upd (o := .lst (SPARE.map V.str)) nl
    have hl := upd_same (H := H1) (a := l) (o := .lst (SPARE.map V.str))
    have ee : L2.upd H1 l (.lst [V.str "b", .str "zzz", .str "gauge", .str "a7", .str "s1", .str "n", .str "zkz", .str "draw"]) = L2.upd H1 l (.lst (SPARE.map V.str)) := rfl
    rw [ee]
    have s12 := s1.trans s2
    have hD12 := s2 _ _ hD1
    generalize L2.upd H1 l (.lst (SPARE.map V.str)) = H2 at s2 hl s12 hD12
    refine ⟨a, lw, lc, t, l, SPARE, rfl, S.same s12, by omega, hl, by decide +kernel, by decide, fun sp ss H3 _ lss ss8 S3 K3 nsp hsp => ?_⟩
    have K03 : Kp [a, lw] H H3 := (Kp.of s12).trans K3
    obtain ⟨osp, ospc⟩ := (S.same s12).new nsp
    have nspH : H sp = none := s12.free nsp
    have hD13 := K3 _ _ hD12 oD1
    intro D nD
    have s4 := same_upd (o := .dK []) nD
    have hD4 := upd_same (H := H3) (a := D) (o := .dK [])
    obtain ⟨oD, oDc⟩ := S3.new nD
    have nDH : H D = none := by
      cases e : H D with
      | none => rfl
      | some o => have := K03 _ _ e oD; rw [nD] at this; cases this
    have nsD : sp ≠ D := fun e => by rw [e, nD] at hsp; cases hsp
    have nD1D : D1 ≠ D := fun e => by rw [e, nD] at hD13; cases hD13
    have hsp4 := s4 _ _ hsp
    have hD14 := s4 _ _ hD13
    have S4 := S3.same s4
    have K04 := K03.trans (Kp.of s4)
    generalize L2.upd H3 D (.dK []) = H4 at s4 hD4 hsp4 hD14 S4 K04
    refine ⟨_, rfl, a, lw, lc, _, _, rfl, S4, by have : SPARE.length = 8 := rfl; omega, by decide, by decide, fun kd H5 kd0 kd1 S5 K5 => ⟨_, _, rfl, ?_⟩⟩
    have e8 : SPARE.length = 8 := rfl
    have K05 := K04.trans K5
    have hD15 := K5 _ _ hD14 oD1
    have hD5 := K5 _ _ hD4 oD
    have hsp5 := K5 _ _ hsp4 osp
    refine ⟨_, rfl, D1, rfl, ⟨_, SqL.of hD15⟩, ?_⟩
    refine for_list (K := K) (a := D1) (xs := own.map V.str) (fun i σ G => ∃ v3 sp ss tb, σ = [some (.ref a), some (.ref p), some (.ref D1), v3, none, some (.ref sp), some (.ref D), some (.int kd)] ∧ G sp = some (.lst (ss.map V.str)) ∧ sp ∉ [a, lw] ∧ sp ≠ D ∧ (∀ z ∈ ss, z ∈ NMS) ∧ ss.length ≤ 8 ∧
        StA G a lw lc (t + 9 + i) ∧ Kp [a, lw] H G ∧ G D1 = some (.lst (own.map V.str)) ∧ G D = some (.dK (tbK tb)) ∧ tb.length ≤ i ∧ TbOk tb)
      ⟨_, sp, ss, [], rfl, hsp5, osp, nsD, fun z hz => spare_nms z (ss8 z hz), by omega, S5.more (by omega), K05, hD15, hD5, Nat.le_refl _, fun e he => by cases he⟩ (fun i σ G _ q => ?_) ?_ ?_
    · obtain ⟨_, _, _, _, _, _, _, _, _, _, _, _, h, _⟩ := q
      exact SqL.of h
    · rintro i y σ G hy ⟨v3, sp, ss, tb, rfl, hsp, osp, nsD, nmP, l8s, SG, KG, hD1, hD, lt, okT⟩
      obtain ⟨z, hz, rfl⟩ := List.mem_map.mp (List.mem_of_getElem? hy)
      have li : i < own.length := by
        have := (List.getElem?_eq_some_iff.mp hy).1
        rw [List.length_map] at this
        exact this
      refine ⟨_, rfl, a, lw, lc, _, _, rfl, SG, by omega, by decide, by decide, fun r G1 r0 r1 S1 K1 => ⟨_, _, rfl, rfl, _, rfl, ?_⟩⟩
      have hsp1 := K1 _ _ hsp osp
      have hD11 := K1 _ _ hD1 oD1
      have hDG := K1 _ _ hD oD
      have KG1 := KG.trans K1
      refine ite2 (fun _ => ?_) fun _ => ?_
      · refine dput_gen (fun x G2 => ∃ v, x = .str v ∧ v ∈ NMS ∧ Same G1 G2) (fun Q0 q0 => ?_) ?_
        · refine ⟨_, rfl, tail_ne hsp1 (fok_names fun z hz => nms_ok (nmP z hz)) fun G2 s2 => ⟨_, rfl, ?_⟩⟩
          cases ess : ss with
          | nil =>
            refine iteF ?_
            exact ⟨_, rfl, q0 _ _ ⟨z, rfl, nmO z hz, s2⟩⟩
          | cons x r =>
            refine iteT ?_
            refine ⟨_, rfl, sp, _, _, _, rfl, rfl, SqL.of (s2 _ _ hsp1), at_nat (k := 0) (v := .str x) (by rw [ess]; rfl), ?_⟩
            exact q0 _ _ ⟨x, rfl, nmP x (by rw [ess]; exact List.mem_cons_self), s2⟩
        · rintro _ G2 ⟨v, rfl, hv, s2⟩
          obtain ⟨tb', e, ok', lt'⟩ := okT.put (nms_ok (nmO z hz)) hv
          refine ⟨_, rfl, _, rfl, D, _, rfl, DPut.k (k := Sum.inr z) (s2 _ _ hDG) ?_, ?_⟩
          · unfold tbK
            rw [List.length_map]
            exact Nat.lt_of_le_of_lt (show tb.length ≤ 1000 by omega) (by decide)
          rw [e]
          have S2 := (S1.same s2).put oD oDc (.dK (tbK tb'))
          have K2 : Kp [a, lw] H (L2.upd G2 D (.dK (tbK tb'))) := fun c o e n => by
            rw [upd_ne (ne_of_none e nDH)]
            exact s2 _ _ (KG1 c o e n)
          have h1 : (L2.upd G2 D (.dK (tbK tb'))) sp = some (.lst (ss.map V.str)) := by
            rw [upd_ne nsD]
            exact s2 _ _ hsp1
          have h2 : (L2.upd G2 D (.dK (tbK tb'))) D1 = some (.lst (own.map V.str)) := by
            rw [upd_ne nD1D]
            exact s2 _ _ hD11
          have h3 := upd_same (H := G2) (a := D) (o := .dK (tbK tb'))
          generalize L2.upd G2 D (.dK (tbK tb')) = G3 at S2 K2 h1 h2 h3
          refine ⟨_, rfl, _, rfl, sp, _, rfl, SqL.of h1, fun q nq => ?_⟩
          have ec : cutV (ss.map V.str) (some 1) none = (ss.drop 1).map V.str := by rw [cut_one, List.map_drop]
          rw [ec]
          have s3 := same_upd (o := .lst ((ss.drop 1).map V.str)) nq
          obtain ⟨oq, _⟩ := S2.new nq
          exact ⟨_, q, ss.drop 1, tb', rfl, upd_same, oq, (fun e => by rw [e, h3] at nq; cases nq), fun z hz => nmP z (List.mem_of_mem_drop hz), by rw [List.length_drop]; omega, (S2.same s3).more (by omega), K2.trans (Kp.of s3), s3 _ _ h2, s3 _ _ h3, by omega, ok'⟩
      · exact ⟨_, sp, ss, tb, rfl, hsp1, osp, nsD, nmP, l8s, S1.more (by omega), KG1, hD11, hDG, by omega, okT⟩
    · rintro σ G ⟨v3, sp, ss, tb, rfl, hsp, osp, nsD, nmP, l8s, SG, KG, hD1, hD, lt, okT⟩
      rw [List.length_map] at SG lt
      have fin : ∀ {G : Hp} {tb : List (Str × Str)}, tb.length ≤ 12 → TbOk tb → StA G a lw lc (t + 30) → Kp [a, lw] H G → G D = some (.dK (tbK tb)) → Q (.ref D) G := fun l o S' K' e => k D _ _ l o S' K' nDH e
      have l8' : own.length ≤ 8 := by omega
      have zk : ∀ {m : Int}, decide (V.int kd = V.int m) = true → kd = m := fun h => by
        have := of_decide_eq_true h
        injection this
      refine nx_seq ?_
      refine seq_post (fun σ' H' => σ' = [some (.ref a), some (.ref p), some (.ref D1), v3, none, some (.ref sp), some (.ref D), some (.int kd)] ∧ Q (.ref D) H') (fun D' hD' => ?_) (fun σ' H' ⟨e, q⟩ => by rw [e]; exact ⟨_, rfl, q⟩)
      have done : ∀ {G1 : Hp} {tb : List (Str × Str)}, tb.length ≤ 12 → TbOk tb → StA G1 a lw lc (t + 25) → Kp [a, lw] H G1 → G1 D = some (.dK (tbK tb)) → D'.nx [some (.ref a), some (.ref p), some (.ref D1), v3, none, some (.ref sp), some (.ref D), some (.int kd)] G1 := fun l o S' K' e => hD' _ _ ⟨rfl, fin l o (S'.more (by omega)) K' e⟩
      have skip : ∀ {G1 : Hp}, Same G G1 → D'.nx [some (.ref a), some (.ref p), some (.ref D1), v3, none, some (.ref sp), some (.ref D), some (.int kd)] G1 := fun s' => done (by omega) okT ((SG.same s').more (by omega)) (KG.trans (Kp.of s')) (s' _ _ hD)
      have put1 : ∀ {G1 : Hp} {tb : List (Str × Str)} {z v : Str}, tb.length ≤ 10 → TbOk tb → NameOk z → v ∈ NMS → StA G1 a lw lc (t + 25) → Kp [a, lw] H G1 → G1 D = some (.dK (tbK tb)) → ∀ Q1 : Hp → Prop, (∀ G2 tb', G2 D = some (.dK (tbK tb')) → TbOk tb' → tb'.length ≤ tb.length + 1 → StA G2 a lw lc (t + 25) → Kp [a, lw] H G2 → (G1 D1 = some (.lst (own.map V.str)) → G2 D1 = some (.lst (own.map V.str))) → Q1 G2) → ∃ H4, DPut G1 D (.str z) (.str v) H4 ∧ Q1 H4 := fun {G1 tb z v} lt okT hz hv S1 K1 h1 Q1 kq => by
        obtain ⟨tb', e, ok', lt'⟩ := okT.put hz hv
        refine ⟨_, DPut.k (k := Sum.inr z) h1 ?_, ?_⟩
        · unfold tbK
          rw [List.length_map]
          exact Nat.lt_of_le_of_lt (show tb.length ≤ 1000 by omega) (by decide)
        rw [e]
        refine kq _ tb' upd_same ok' lt' (S1.put oD oDc _) (fun c o q n => ?_) fun q => ?_
        · rw [upd_ne (ne_of_none q nDH)]
          exact K1 c o q n
        · rw [upd_ne nD1D]
          exact q
      have pick : ∀ {G1 : Hp} {u : Nat} {l : Addr} {ns : List Str}, StA G1 a lw lc (t + u) → u ≤ 24 → G1 l = some (.lst (ns.map V.str)) → l ∉ [a, lw] → 0 < ns.length → ns.length ≤ 100 → ∀ (Q1 : VK), (∀ z G2, z ∈ ns → StA G2 a lw lc (t + u + 1) → Kp [a, lw] G1 G2 → Q1 (.str z) G2) → spPick K [.ref a, .ref l] G1 Q1 E0 := fun {G1 u l ns} S1 hu1 hl nl l0 l1 Q1 kq => by
        refine ⟨a, lw, lc, _, l, _, rfl, S1, by omega, hl, fun z => nl (by simp [z]), by rw [List.length_map]; exact l0, by rw [List.length_map]; omega, fun j x G2 hx S2 K2 => ?_⟩
        obtain ⟨z, hz, rfl⟩ := List.mem_map.mp (List.mem_of_getElem? hx)
        exact kq z G2 hz S2 K2
      refine ⟨_, rfl, rfl, _, rfl, ite2 (fun c => ?_) fun c => ?_⟩
      · have e0 := zk c
        have no : ∀ m : Int, m ≠ 0 → decide (V.int kd = V.int m) = false := fun m hm => decide_eq_false fun h => by injection h with h; omega
        refine ⟨_, rfl, D1, _, rfl, .inl (SqL.of hD1), _, _, rfl, rfl, _, rfl, ite2 (fun c2 => ?_) fun c2 => ?_⟩
        · have l2 : 1 < own.length := by
            have := of_decide_eq_true c2
            rw [List.length_map] at this
            omega
          have ge : ∀ k : Nat, k < own.length → ∃ z, z ∈ own ∧ (own.map V.str)[k]? = some (.str z) := fun k hk => ⟨own[k], List.getElem_mem hk, by rw [List.getElem?_map, List.getElem?_eq_getElem hk]; rfl⟩
          obtain ⟨z0, m0, g0⟩ := ge 0 (by omega)
          obtain ⟨z1, m1, g1⟩ := ge (own.length - 1) (by omega)
          have el : ((own.map V.str).length : Int) - 1 = ((own.length - 1 : Nat) : Int) := by rw [List.length_map]; omega
          have gx : atI (own.map V.str) (((own.map V.str).length : Int) - 1) = some (.str z1) := by
            rw [el]
            exact at_nat g1
          refine ⟨_, rfl, _, rfl, D1, _, rfl, .inl (SqL.of hD1), _, _, rfl, rfl, ?_⟩
          refine ⟨D1, _, _, _, rfl, rfl, SqL.of hD1, gx, _, rfl, D1, _, _, _, rfl, rfl, SqL.of hD1, at_nat (k := 0) g0, (by show 2 ≤ sizeLine; decide), fun T0 nT => ?_⟩
          have sT := same_upd (o := .tup [.str z1, .str z0]) nT
          refine ⟨T0, _, rfl, SqT.of upd_same, rfl, _, _, rfl, _, rfl, _, rfl, D1, _, _, _, rfl, rfl, SqL.of (sT _ _ hD1), at_nat (k := 0) g0, ?_⟩
          refine ex_put (put1 (by omega) okT (nms_ok (nmO z0 m0)) (nmO z1 m1) ((SG.same sT).more (by omega)) (KG.trans (Kp.of sT)) (sT _ _ hD) _ fun G2 tb' hD2 ok2 lt2 S2 K2 hD12 => ?_)
          have hD12 := hD12 (sT _ _ hD1)
          refine ⟨_, _, rfl, _, rfl, _, rfl, _, rfl, D1, _, rfl, .inl (SqL.of hD12), _, _, rfl, rfl, ?_⟩
          refine ⟨D1, _, _, _, rfl, rfl, SqL.of hD12, gx, ?_⟩
          refine ex_put (put1 (by omega) ok2 (nms_ok (nmO z1 m1)) (nmO z0 m0) S2 K2 hD2 _ fun G3 tb3 hD3 ok3 lt3 S3 K3 _ => ?_)
          exact ⟨rfl, done (by omega) ok3 S3 K3 hD3⟩
        · refine ⟨_, rfl, rfl, _, rfl, ?_⟩
          rw [no 1 (by decide)]
          refine iteF (iteF ?_)
          refine ⟨_, rfl, rfl, _, rfl, ?_⟩
          rw [no 2 (by decide)]
          refine iteF ?_
          refine ⟨_, rfl, rfl, _, rfl, ?_⟩
          rw [no 3 (by decide)]
          exact iteF (skip (Same.refl _))
      · refine iteF ?_
        refine ⟨_, rfl, rfl, _, rfl, ite2 (fun c => ?_) fun c => ?_⟩
        · have e1 := zk c
          have no : ∀ m : Int, m ≠ 1 → decide (V.int kd = V.int m) = false := fun m hm => decide_eq_false fun h => by injection h with h; omega
          refine ⟨_, rfl, tail_ne hD1 (fok_names fun z hz => nms_ok (nmO z hz)) fun G1 s1 => ⟨_, rfl, ite2 (fun c2 => ?_) fun c2 => ?_⟩⟩
          · have l0 : 0 < own.length := by
              cases own with
              | nil => cases c2
              | cons x r => exact Nat.succ_pos _
            have hD11 := s1 _ _ hD1
            refine ⟨_, rfl, _, rfl, rfl, fun l G2 s2 nl hl => ?_⟩
            refine ⟨D1, l, _, _, rfl, rfl, s2 _ _ hD11, hl, ?_, fun l2 nl2 => ?_⟩
            · rw [List.length_map, List.length_map]
              exact Nat.le_trans (show own.length + SHEET.length ≤ 100 by have : SHEET.length = 5 := rfl; omega) (by decide)
            have e2 : own.map V.str ++ SHEET.map V.str = (own ++ SHEET).map V.str := by rw [List.map_append]
            rw [e2]
            have s12 := s1.trans s2
            have s3 := same_upd (o := .lst ((own ++ SHEET).map V.str)) nl2
            have s13 := s12.trans s3
            have S3 := SG.same s13
            obtain ⟨ol2, _⟩ := (SG.same s12).new nl2
            refine pick (u := 9 + own.length) (S3.more (by omega)) (by omega) upd_same ol2 (by rw [List.length_append]; omega) (by rw [List.length_append]; have : SHEET.length = 5 := rfl; omega) _ fun z G4 hz S4 K4 => ?_
            have K14 := (Kp.of s13 (xs := [a, lw])).trans K4
            refine ⟨_, rfl, _, rfl, _, rfl, pick (u := 10 + own.length) (ns := own) (S4.more (by omega)) (by omega) (K14 _ _ hD1 oD1) oD1 l0 (by omega) _ fun z2 G5 hz2 S5 K5 => ?_⟩
            have K15 := K14.trans K5
            refine ex_put (put1 (by omega) okT (nms_ok (nmO z2 hz2)) ?_ (S5.more (by omega)) (KG.trans K15) (K15 _ _ hD oD) _ fun G6 tb6 hD6 ok6 lt6 S6 K6 _ => done (by omega) ok6 S6 K6 hD6)
            rcases List.mem_append.mp hz with h | h
            · exact nmO z h
            · exact sheet_nms z h
          · refine ⟨_, rfl, rfl, _, rfl, ?_⟩
            rw [no 2 (by decide)]
            refine iteF ?_
            refine ⟨_, rfl, rfl, _, rfl, ?_⟩
            rw [no 3 (by decide)]
            exact iteF (skip s1)
        · refine iteF ?_
          refine ⟨_, rfl, rfl, _, rfl, ite2 (fun c => ?_) fun c => ?_⟩
          · refine ⟨_, rfl, _, rfl, rfl, fun l G2 s2 nl hl => ?_⟩
            obtain ⟨ol, _⟩ := SG.new nl
            refine pick (u := 9 + own.length) ((SG.same s2).more (by omega)) (by omega) hl ol (by decide) (by decide) _ fun z G4 hz S4 K4 => ?_
            have K14 := (Kp.of s2 (xs := [a, lw])).trans K4
            exact ex_put (put1 (by omega) okT (nms_ok (sheet_nms z hz)) (spare_nms _ (by decide)) (S4.more (by omega)) (KG.trans K14) (K14 _ _ hD oD) _ fun G6 tb6 hD6 ok6 lt6 S6 K6 _ => done (by omega) ok6 S6 K6 hD6)
          · refine ⟨_, rfl, rfl, _, rfl, ite2 (fun c => ?_) fun c => ?_⟩
            · refine ⟨_, rfl, _, rfl, (by show 1 ≤ sizeLine; decide), fun l nl => ?_⟩
              have s2 := same_upd (o := .lst [V.str "o"]) nl
              refine ⟨D1, l, _, _, rfl, rfl, s2 _ _ hD1, upd_same, ?_, fun l2 nl2 => ?_⟩
              · rw [List.length_map]
                exact Nat.le_trans (show own.length + 1 ≤ 100 by omega) (by decide)
              have e2 : own.map V.str ++ [V.str "o"] = (own ++ (["o"] : List Str)).map V.str := by rw [List.map_append]; rfl
              rw [e2]
              have s3 := same_upd (o := .lst ((own ++ (["o"] : List Str)).map V.str)) nl2
              have s13 := s2.trans s3
              obtain ⟨ol2, _⟩ := (SG.same s2).new nl2
              refine pick (u := 9 + own.length) ((SG.same s13).more (by omega)) (by omega) upd_same ol2 (by rw [List.length_append]; show 0 < own.length + 1; omega) (by rw [List.length_append]; show own.length + 1 ≤ 100; omega) _ fun z G4 hz S4 K4 => ?_
              have K14 := (Kp.of s13 (xs := [a, lw])).trans K4
              refine ⟨_, rfl, ?_⟩
              refine ex_put (put1 (by omega) okT (by decide +kernel) ?_ (S4.more (by omega)) (KG.trans K14) (K14 _ _ hD oD) _ fun G6 tb6 hD6 ok6 lt6 S6 K6 _ => done (by omega) ok6 S6 K6 hD6)
              rcases List.mem_append.mp hz with h | h
              · exact nmO z h
              · rw [List.mem_singleton.mp h]
                exact sheet_nms _ (by decide)
            · exact skip (Same.refl _)
end
end Own
set_option Elab.async false
set_option linter.all false
set_option maxRecDepth 100000
set_option maxHeartbeats 1000000
namespace Own
open PySem PySem.Spec PyProof.Rows L2 LamX
/-! ### drawings, bent -/
theorem goes_cons {kn : List Str} {s : Str × Deed} {r : List (Str × Deed)} : goesB kn ((s :: r).map stepPy) = true ↔ StepOk kn s.1 s.2.py ∧ goesB (kn ++ [s.1]) (r.map stepPy) = true := by
  by_cases h : StepOk kn s.1 s.2.py
  · have e : goesB kn ((s :: r).map stepPy) = goesB (kn ++ [s.1]) (r.map stepPy) := goes_good h
    rw [e]
    exact ⟨fun q => ⟨h, q⟩, fun q => q.2⟩
  · have e : goesB kn ((s :: r).map stepPy) = false := goes_bad (show (if StepOk kn s.1 s.2.py then some s.1 else none) = none from if_neg h)
    rw [e]
    exact ⟨(fun q => Bool.noConfusion q), fun q => absurd q.1 h⟩
theorem goes_app : ∀ {xs ys : List (Str × Deed)} {kn : List Str}, goesB kn ((xs ++ ys).map stepPy) = true ↔ goesB kn (xs.map stepPy) = true ∧ goesB (kn ++ xs.map (·.1)) (ys.map stepPy) = true
  | [], ys, kn => by
    show goesB kn (ys.map stepPy) = true ↔ goesB kn [] = true ∧ goesB (kn ++ []) (ys.map stepPy) = true
    rw [List.append_nil]
    exact ⟨fun h => ⟨rfl, h⟩, fun h => h.2⟩
  | s :: xs, ys, kn => by
    rw [List.cons_append, goes_cons, goes_cons, goes_app, List.map_cons, and_assoc, List.append_assoc]
    rfl
theorem StepOk.congr {kn kn' : List Str} {n : Str} {e : PyData} (h : ∀ z, z ∈ kn ↔ z ∈ kn') (q : StepOk kn n e) : StepOk kn' n e := ⟨q.1, fun z => q.2.1 ((h n).mpr z), q.2.2.1, fun z hz => (h z).mp (q.2.2.2 z hz)⟩
theorem goes_congr : ∀ {xs : List (Str × Deed)} {kn kn' : List Str}, (∀ z, z ∈ kn ↔ z ∈ kn') → goesB kn (xs.map stepPy) = true → goesB kn' (xs.map stepPy) = true
  | [], _, _, _, _ => rfl
  | s :: xs, kn, kn', h, q => by
    rw [goes_cons] at q ⊢
    refine ⟨q.1.congr h, goes_congr (fun z => ?_) q.2⟩
    rw [List.mem_append, List.mem_append, h z]
theorem step_of {kn : List Str} {n : Str} {d : Deed} (h1 : NameOk n) (h2 : n ∉ kn) (h3 : DeedOk d) (h4 : ∀ z ∈ d.names, z ∈ kn) : StepOk kn n d.py := ⟨h1, h2, deedB_of h3, fun z hz => h4 z (by rw [dnames_py h3] at hz; exact hz)⟩
theorem StepOk.names {kn : List Str} {n : Str} {d : Deed} (h3 : DeedOk d) (h : StepOk kn n d.py) : ∀ z ∈ d.names, z ∈ kn := fun z hz => h.2.2.2 z (by rw [dnames_py h3]; exact hz)
theorem split_at {α : Type} {ds : List α} {i : Nat} {s : α} (h : ds[i]? = some s) : ds = ds.take i ++ s :: ds.drop (i + 1) := by rw [← drop_at h, List.take_append_drop]
theorem StepsOk.at_ {ds : List (Str × Deed)} (h : StepsOk ds) {i : Nat} {s : Str × Deed} (hs : ds[i]? = some s) : StepOk (SHEET ++ (ds.take i).map (·.1)) s.1 s.2.py := by
  have g := h.goes
  rw [split_at hs, goes_app, goes_cons] at g
  exact g.2.1
theorem StepsOk.set {ds : List (Str × Deed)} (h : StepsOk ds) {i : Nat} {n : Str} {d d' : Deed} (hs : ds[i]? = some (n, d)) (h1 : DeedOk d') (h2 : ∀ z ∈ d'.names, z ∈ SHEET ++ (ds.take i).map (·.1)) : StepsOk (ds.set i (n, d')) := by
  have li := (List.getElem?_eq_some_iff.mp hs).1
  have e : ds.set i (n, d') = ds.take i ++ (n, d') :: ds.drop (i + 1) := List.set_eq_take_append_cons_drop.trans (if_pos li)
  have nms : ∀ z ∈ SHEET ++ (ds.take i).map (·.1), z ∈ NMS := fun z hz => by
    rcases List.mem_append.mp hz with hz | hz
    · exact sheet_nms z hz
    · obtain ⟨s, hs, rfl⟩ := List.mem_map.mp hz
      exact h.name s (List.mem_of_mem_take hs)
  refine ⟨by rw [List.length_set]; exact h.len, ?_, fun s hm => ?_, fun s hm => ?_⟩
  · have g := h.goes
    rw [split_at hs, goes_app, goes_cons] at g
    rw [e, goes_app, goes_cons]
    exact ⟨g.1, step_of g.2.1.1 g.2.1.2.1 h1 h2, g.2.2⟩
  · rcases List.mem_or_eq_of_mem_set hm with hm | rfl
    · exact h.name s hm
    · exact h.name (n, d) (List.mem_of_getElem? hs)
  · rcases List.mem_or_eq_of_mem_set hm with hm | rfl
    · exact h.deed s hm
    · exact ⟨h1, fun z hz => nms z (h2 z hz)⟩
theorem StepsOk.take {ds : List (Str × Deed)} (h : StepsOk ds) (i : Nat) : StepsOk (ds.take i) := by
  refine ⟨Nat.le_trans (by rw [List.length_take]; omega) h.len, ?_, fun s hm => h.name s (List.mem_of_mem_take hm), fun s hm => h.deed s (List.mem_of_mem_take hm)⟩
  have g := h.goes
  rw [← List.take_append_drop i ds, goes_app] at g
  exact g.1
theorem StepsOk.swap {ds : List (Str × Deed)} (h : StepsOk ds) {i : Nat} {s t : Str × Deed} (hs : ds[i]? = some s) (ht : ds[i + 1]? = some t) (no : s.1 ∉ t.2.names) : StepsOk ((ds.set i t).set (i + 1) s) := by
  have li := (List.getElem?_eq_some_iff.mp ht).1
  have e0 : ds = ds.take i ++ s :: t :: ds.drop (i + 2) := by
    have a1 := split_at hs
    have a2 : ds.drop (i + 1) = t :: ds.drop (i + 2) := drop_at ht
    rw [a2] at a1
    exact a1
  have lt : (ds.take i).length = i := by rw [List.length_take]; omega
  have e1 : (ds.set i t).set (i + 1) s = ds.take i ++ t :: s :: ds.drop (i + 2) := by
    generalize ds.take i = pre at e0 lt
    generalize ds.drop (i + 2) = post at e0
    subst e0
    rw [List.set_append_right _ _ (by omega), List.set_append_right _ _ (by omega), lt]
    simp
  have okS := h.deed s (List.mem_of_getElem? hs)
  have okT := h.deed t (List.mem_of_getElem? ht)
  have g := h.goes
  rw [e0, goes_app, goes_cons, goes_cons] at g
  obtain ⟨g1, g2, g3, g4⟩ := g
  have mem : ∀ u ∈ (ds.set i t).set (i + 1) s, u ∈ ds := fun u hu => by
    rcases List.mem_or_eq_of_mem_set hu with hu | rfl
    · rcases List.mem_or_eq_of_mem_set hu with hu | rfl
      · exact hu
      · exact List.mem_of_getElem? ht
    · exact List.mem_of_getElem? hs
  refine ⟨by rw [List.length_set, List.length_set]; exact h.len, ?_, fun u hu => h.name u (mem u hu), fun u hu => h.deed u (mem u hu)⟩
  rw [e1, goes_app, goes_cons, goes_cons]
  have nt : t.1 ∉ (SHEET ++ (ds.take i).map (·.1)) ++ [s.1] := g3.2.1
  have ns := g2.2.1
  refine ⟨g1, step_of g3.1 (fun z => nt (List.mem_append_left _ z)) okT.1 (fun z hz => ?_), step_of g2.1 (fun z => ?_) okS.1 (fun z hz => List.mem_append_left _ (g2.names okS.1 z hz)), goes_congr (fun z => ?_) g4⟩
  · rcases List.mem_append.mp (g3.names okT.1 z hz) with q | q
    · exact q
    · rw [List.mem_singleton.mp q] at hz
      exact absurd hz no
  · rcases List.mem_append.mp z with q | q
    · exact ns q
    · exact nt (by rw [← List.mem_singleton.mp q]; simp)
  · simp only [List.mem_append, List.mem_singleton]
    constructor
    · rintro ((q | q) | q)
      · exact .inl (.inl q)
      · exact .inr q
      · exact .inl (.inr q)
    · rintro ((q | q) | q)
      · exact .inl (.inl q)
      · exact .inr q
      · exact .inl (.inr q)
end Own
set_option Elab.async false
set_option linter.all false
set_option maxRecDepth 100000
set_option maxHeartbeats 1000000
namespace Own
open PySem PySem.Spec PyProof.Rows L2 LamX
/-! ### bent drawings -/
theorem ixN_at {n i : Nat} (h : i < n) : ixN n (i : Int) = some i := by
  unfold ixN
  rw [if_pos (by omega), if_pos (by omega)]
  rfl
theorem F2.set {α β : Type} {R : α → β → Prop} : ∀ {as : List α} {bs : List β} {i : Nat} {a : α} {b : β}, F2 R as bs → R a b → F2 R (as.set i a) (bs.set i b)
  | _, _, _, _, _, .nil, _ => .nil
  | _, _, 0, _, _, .cons _ h, r => .cons r h
  | _, _, _ + 1, _, _, .cons q h, r => .cons q (F2.set h r)
theorem inV_mem {z : Str} : ∀ {xs : List V}, V.str z ∈ xs → inV (.str z) xs = true
  | [], h => by cases h
  | y :: r, h => by
    rcases List.mem_cons.mp h with e | h
    · subst e
      show ((z == z) || inV (.str z) r) = true
      simp
    · have := inV_mem h
      unfold inV at this ⊢
      rw [List.any_cons, this, Bool.or_true]
theorem steps_a : StepsOk [("a", ⟨"meet", ["o", "u", "v", "vv"], []⟩)] := by
  have hd : DeedOk ⟨"meet", ["o", "u", "v", "vv"], []⟩ := ⟨4, 0, by decide +kernel, rfl, by decide +kernel, rfl, fun z h => by cases h⟩
  refine ⟨by decide, goes_cons.mpr ⟨step_of (by decide +kernel) (by decide +kernel) hd (by decide +kernel), rfl⟩, fun s hs => ?_, fun s hs => ?_⟩
  · rw [List.mem_singleton.mp hs]
    exact (by decide +kernel : ("a" : Str) ∈ NMS)
  · rw [List.mem_singleton.mp hs]
    exact ⟨hd, by decide +kernel⟩
def spBent : Sp := fun vs H Q _ => ∃ (a lw lc : Addr) (t : Nat) (p : Addr) (xs : List V) (sts : List (Str × Deed)), vs = [.ref a, .ref p] ∧ StA H a lw lc t ∧ t < 2 ^ 37 ∧ H p = some (.lst xs) ∧ p ∉ [a, lw] ∧ F2 (Dq [a, lw] H) xs (sts.map stepPy) ∧ StepsOk sts ∧ sts.length ≤ 6 ∧
  ∀ (l : Addr) (ws : List V) (ds : List (Str × Deed)) H', StepsOk ds → ds.length ≤ 6 → F2 (Dq [a, lw] H') ws (ds.map stepPy) → H l = none → H' l = some (.lst ws) → StA H' a lw lc (t + 60) → Kp [a, lw] H H' → Q (.ref l) H'
section
variable {NOW : List Str} {P : Program} {w : World} {K : PySem.W.Frag} {mg : Str → Option Value} {base : Heap} {f : Addr} {fd2 dD dP dE dN dM dW : FuncData}
abbrev nsBent : List Str := ["_law_state", "_law_steps", "_law_found", "_law_kind", "_law_at", "_law_ahead", "_law_name_here", "_law_deed_here", "_law_names"]
theorem scBent : FnScope nsBent ["_law_state", "_law_steps"] (defScope sBent) := ⟨rfl, rfl, rfl, by decide +kernel, rfl, by decide +kernel, by decide +kernel⟩
theorem ok_bent (F : FnP K "_law_bent" sBent f fd2) (KD : Fk P w K mg base CX0 2 "_law_draw" dD ["_law_state", "_law_room"] spDraw) (KP : Fk P w K mg base CX0 3 "_law_pick" dP ["_law_state", "_law_some"] (spPick K)) (KE : Fk P w K mg base CX0 4 "_law_deed" dE ["_law_state", "_law_word", "_law_names"] spLDeed)
    (KN : Fk P w K mg base CX0 1 "_law_sheet_names" dN [] spShN) (KM : Fk P w K mg base CX0 2 "_law_deed_names" dM ["_law_deed_here"] spDNames) (KW : Fk P w K mg base CX0 1 "_law_has_way" dW ["_law_word"] spHasWay) (T : Txt K mg) : FnOk P w K mg base CX0 5 f fd2 ["_law_state", "_law_steps"] spBent := by
  refine F.ok scBent (fun vs H Q E h => ?_) (fun cdv A outer s H vs Q E hr h => ?_)
  · obtain ⟨a, lw, lc, t, p, xs, sts, rfl, _⟩ := h
    rfl
  · obtain ⟨a, lw, lc, t, p, xs, sts, rfl, S, ht, hp, np, f2, ok, l6, k⟩ := h
    have hu := hu_of hr
    have hr1 := hr.mono (show 1 ≤ 4 by decide)
    have hr2 := hr.mono (show 2 ≤ 4 by decide)
    have hr3 := hr.mono (show 3 ≤ 4 by decide)
    refine ⟨_, PSs.nox (pss_cons (ps_set (i := 2) scBent.nd rfl (.inl rfl) (pe_callTy call_list_of (by rfl) T.list (by decide +kernel) (pa_cons (pv 1) pa_nil)))
      (pss_cons (ps_if (pt_cmpR (op_eqD hr.units) (pv 2) (pe_lst pa_nil) (nomark _)) (pss_one (ps_ret (pe_lst (pa_cons (pe_tup (pa_cons pe_str (pa_cons (pe_tup (pa_cons pe_str (pa_cons pe_str (pa_cons pe_str (pa_cons pe_str (pa_cons pe_str pa_nil)))))) pa_nil))) pa_nil)))) pss_nil)
      (pss_cons (ps_par (i := 3) (j := 4) (by rfl) scBent.nd rfl rfl (by decide) rfl rfl (pa_cons (pe_call KD.ok hr2 (by rfl) KD.g KD.kp KD.b .nil pass0 (pa_cons (pv 0) (pa_cons pe_int pa_nil))) (pa_cons (pe_call KD.ok hr2 (by rfl) KD.g KD.kp KD.b .nil pass0 (pa_cons (pv 0) (pa_cons (pe_callB call_len_seq (by rfl) T.len PySem.boot_len (pa_cons (pv 2) pa_nil)) pa_nil))) pa_nil)) (by rfl))
      (pss_cons (ps_set (i := 5) scBent.nd rfl (.inl rfl) (pe_op op_cat (pe_call0 KN.ok hr1 (by rfl) KN.g KN.kp KN.b .nil pass0) (pe_lc (own := [("_law_name_here", 6), ("_law_deed_here", 7)]) (g := gTup K 2 (gCons (gName 6) (gCons (gName 7) gNil))) (tt := tYes) (by rfl) scBent.nd (pi_list (pe_slice sl_list (pv 2) po_none (po_some (pv 4)))) (blkOk_by (own := [("_law_name_here", 6), ("_law_deed_here", 7)]) (N := nsBent) (sc := defScope sBent) (by decide +kernel))
          (fun _ _ _ _ _ => pg_tup rfl (pgs_cons (pg_name (i := 6) scBent.nd rfl (.inl rfl)) (pgs_cons (pg_name (i := 7) scBent.nd rfl (.inl rfl)) pgs_nil))) (fun _ _ _ _ _ => pts_nil) (fun _ _ _ _ _ => pv 6))))
      (pss_cons (ps_asg (pe_ix ix_list (pv 2) (pv 4) (fun _ _ => rfl)) (pg_tup rfl (pgs_cons (pg_name (i := 6) scBent.nd rfl (.inl rfl)) (pgs_cons (pg_name (i := 7) scBent.nd rfl (.inl rfl)) pgs_nil))))
      (pss_cons (ps_if (pt_cmpR op_eq (pv 3) pe_int (nomark _))
          (pss_one (ps_asg (pe_tup (pa_cons (pv 6) (pa_cons (pe_call KE.ok hr (by rfl) KE.g KE.kp KE.b .nil pass0 (pa_cons (pv 0) (pa_cons (pe_ix ix_tup (pv 7) pe_int (fun _ _ => rfl)) (pa_cons (pv 5) pa_nil)))) pa_nil))) (pg_sub (pv 2) (pv 4) set_list)))
          (pss_one (ps_if (PW.pt (pw_and (pt_cmpR op_eq (pv 3) pe_int (nomark _)) (pw_and1 (pt_val (pe_call KW.ok hr1 (by rfl) KW.g KW.kp KW.b .nil pass0 (pa_cons (pe_ix ix_tup (pv 7) pe_int (fun _ _ => rfl)) pa_nil))))))
            (pss_one (ps_asg (pe_tup (pa_cons (pv 6) (pa_cons (pe_op op_catA (pe_slice sl_tup (pv 7) po_none (po_some (pe_op op_sub (pe_callB call_len_seq (by rfl) T.len PySem.boot_len (pa_cons (pv 7) pa_nil)) pe_int))) (pe_tup (pa_cons (pe_op op_sub pe_int (pe_ix ix_tup (pv 7) (pe_op op_sub (pe_callB call_len_seq (by rfl) T.len PySem.boot_len (pa_cons (pv 7) pa_nil)) pe_int) (fun _ _ => rfl))) pa_nil))) pa_nil))) (pg_sub (pv 2) (pv 4) set_list)))
            (pss_one (ps_if (pt_cmpR op_eq (pv 3) pe_int (nomark _))
              (pss_cons (ps_set (i := 8) scBent.nd rfl (.inl rfl) (pe_call KM.ok hr2 (by rfl) KM.g KM.kp KM.b .nil pass0 (pa_cons (pv 7) pa_nil)))
              (pss_cons (ps_asg (pe_call KP.ok hr3 (by rfl) KP.g KP.kp KP.b .nil pass0 (pa_cons (pv 0) (pa_cons (pv 5) pa_nil))) (pg_sub (pv 8) (pe_call KD.ok hr2 (by rfl) KD.g KD.kp KD.b .nil pass0 (pa_cons (pv 0) (pa_cons (pe_callB call_len_seq (by rfl) T.len PySem.boot_len (pa_cons (pv 8) pa_nil)) pa_nil))) set_list))
              (pss_one (ps_asg (pe_tup (pa_cons (pv 6) (pa_cons (pe_op op_catA (pe_tup (pa_cons (pe_ix ix_tup (pv 7) pe_int (fun _ _ => rfl)) pa_nil)) (pe_tupleOf (by rfl) T.tuple (pv 8))) pa_nil))) (pg_sub (pv 2) (pv 4) set_list)))))
              (pss_one (ps_if (pt_cmpR op_eq (pv 3) pe_int (nomark _))
                (pss_one (ps_set (i := 2) scBent.nd rfl (.inl rfl) (pe_slice sl_list (pv 2) po_none (po_some (pe_op op_sub (pe_callB call_len_seq (by rfl) T.len PySem.boot_len (pa_cons (pv 2) pa_nil)) pe_int)))))
                (pss_one (ps_if (PW.pt (pw_and (pt_cmpR op_gt (pv 4) pe_int (nomark _)) (pw_and1 (pt_cmpR op_notIn_seq (pe_ix ix_tup (pe_ix ix_list (pv 2) (pe_op op_sub (pv 4) pe_int) (fun _ _ => rfl)) pe_int (fun _ _ => rfl)) (pv 7) (by rfl)))))
                  (pss_one (ps_asg (pe_tup (pa_cons (pe_ix ix_list (pv 2) (pv 4) (fun _ _ => rfl)) (pa_cons (pe_ix ix_list (pv 2) (pe_op op_sub (pv 4) pe_int) (fun _ _ => rfl)) pa_nil)))
                    (pg_tup rfl (pgs_cons (pg_sub (pv 2) (pe_op op_sub (pv 4) pe_int) set_list) (pgs_cons (pg_sub (pv 2) (pv 4) set_list) pgs_nil)))))
                  pss_nil)))))))))
      (pss_one (ps_ret (pv 2))))))))), ?_⟩
    have lxs := f2.len
    rw [List.length_map] at lxs
    refine ⟨_, rfl, p, _, rfl, .inl (SqL.of hp), fun L nL => ?_⟩
    have s1 := same_upd (o := .lst xs) nL
    have hL := upd_same (H := H) (a := L) (o := .lst xs)
    obtain ⟨oL, oLc⟩ := S.new nL
    generalize L2.upd H L (.lst xs) = H1 at s1 hL
    refine ⟨_, rfl, tail_eqD hL (f2.mono fun _ _ q => q.same s1) ok.gdb fun H2 s2 => ⟨_, rfl, ite2 (fun c => ?_) fun c => ?_⟩⟩
    · have s12 := s1.trans s2
      refine ⟨(by show 5 ≤ sizeLine; decide), fun t1 n1 => ⟨(by show 2 ≤ sizeLine; decide), fun t2 n2 => ⟨(by show 1 ≤ sizeLine; decide), fun l nl => ?_⟩⟩⟩
      have e1 := same_upd (o := .tup [V.str "meet", .str "o", .str "u", .str "v", .str "vv"]) n1
      have e2 := same_upd (o := .tup [V.str "a", .ref t1]) n2
      have e3 := same_upd (o := .lst [V.ref t2]) nl
      have o1 := ((S.same s12).new n1).1
      have o2 := ((S.same (s12.trans e1)).new n2).1
      have h1 := e3 _ _ (e2 _ _ (upd_same (a := t1) (o := .tup [V.str "meet", .str "o", .str "u", .str "v", .str "vv"])))
      have h2 := e3 _ _ (upd_same (a := t2) (o := .tup [V.str "a", .ref t1]))
      have sA := ((s12.trans e1).trans e2).trans e3
      refine k l _ _ _ steps_a (by decide) (.cons ?_ .nil) (((s12.trans e1).trans e2).free nl) upd_same ((S.same sA).more (by omega)) (Kp.of sA)
      exact .tup o2 h2 (.cons (.str _) (.cons (Dq.of_deed (d := ⟨"meet", ["o", "u", "v", "vv"], []⟩) o1 h1) .nil))
    have l0 : 0 < xs.length := by
      cases xs with
      | nil => exact absurd rfl c
      | cons x r => exact Nat.succ_pos _
    have s12 := s1.trans s2
    have S2 := S.same s12
    have hL2 := s2 _ _ hL
    refine ⟨_, rfl, a, lw, lc, _, _, rfl, S2, by omega, by decide, by decide, fun kd H3 kd0 kd1 S3 K3 => ?_⟩
    have hL3 := K3 _ _ hL2 oL
    refine ⟨_, rfl, _, rfl, L, _, rfl, .inl (SqL.of hL3), a, lw, lc, _, _, rfl, S3, by omega, by omega, by omega, fun ai H4 a0 a1 S4 K4 => ⟨_, _, rfl, ?_⟩⟩
    obtain ⟨i, rfl⟩ : ∃ i : Nat, ai = (i : Int) := ⟨ai.toNat, by omega⟩
    have li : i < xs.length := by omega
    have hL4 := K4 _ _ hL3 oL
    have K04 := ((Kp.of s12 (xs := [a, lw])).trans K3).trans K4
    refine ⟨rfl, fun l1 H5 s5 nl1 hl1 => ?_⟩
    have hL5 := s5 _ _ hL4
    refine ⟨_, rfl, _, rfl, _, rfl, L, _, rfl, SqL.of hL5, fun q nq => ?_⟩
    have ec : cutV xs none (some ((i : Nat) : Int)) = xs.take i := cut_to (by omega)
    rw [ec]
    have s6 := same_upd (o := .lst (xs.take i)) nq
    have hq := upd_same (H := H5) (a := q) (o := .lst (xs.take i))
    have hL6 := s6 _ _ hL5
    have hl16 := s6 _ _ hl1
    have s56 := s5.trans s6
    generalize L2.upd H5 q (.lst (xs.take i)) = H6 at s6 hq hL6 hl16 s56
    have K06 := K04.trans (Kp.of s56)
    have f26 := f2.mono fun _ _ z => Dq.keep (KpE.of K06) _ _ z
    have tkF : ∀ (i : Nat) {us : List V} {ds : List (Str × Deed)}, F2 (Dq [a, lw] H6) us (ds.map stepPy) → F2 (Dq [a, lw] H6) (us.take i) ((ds.take i).map stepPy) := fun i => by
      induction i with
      | zero => intro us ds _; exact .nil
      | succ i ih =>
        intro us ds h
        cases us with
        | nil => cases ds with
          | nil => exact .nil
          | cons d ds => cases h
        | cons u us => cases ds with
          | nil => cases h
          | cons d ds =>
            cases h with
            | cons h1 h2 => exact .cons h1 (ih h2)
    refine ⟨q, rfl, ⟨_, SqL.of hq⟩, fun D nD => ?_⟩
    refine lc_names walk_list nD (fun G sG => SqL.of (sG _ _ hq)) (f2_name (tkF i f26)) (by rw [List.length_take]; omega) (fun _ _ => rfl) (fun _ _ => rfl) fun H7 s7 hD => ?_
    have hl17 := s7 _ _ hl16
    refine ⟨l1, D, _, _, rfl, rfl, hl17, hD, ?_, fun A nA => ?_⟩
    · rw [List.length_map, List.length_map, List.length_map, List.length_take]
      exact Nat.le_trans (show SHEET.length + min i sts.length ≤ 100 by have : SHEET.length = 5 := rfl; omega) (by decide)
    have eA : SHEET.map V.str ++ ((sts.take i).map (·.1)).map V.str = (SHEET ++ (sts.take i).map (·.1)).map V.str := by rw [List.map_append]
    rw [eA]
    have s8 := same_upd (o := .lst ((SHEET ++ (sts.take i).map (·.1)).map V.str)) nA
    have hA := upd_same (H := H7) (a := A) (o := .lst ((SHEET ++ (sts.take i).map (·.1)).map V.str))
    have hL8 := s8 _ _ (s7 _ _ hL6)
    have s58 := (s56.trans s7).trans s8
    obtain ⟨oA, _⟩ := ((S4.same s56).same s7).new nA
    generalize L2.upd H7 A (.lst ((SHEET ++ (sts.take i).map (·.1)).map V.str)) = H8 at s8 hA hL8 s58
    have S8 := S4.same s58
    have K08 := K04.trans (Kp.of s58)
    have dqG : ∀ {G : Hp}, Kp [a, lw] H G → F2 (Dq [a, lw] G) xs (sts.map stepPy) := fun KG => f2.mono fun _ _ z => Dq.keep (KpE.of KG) _ _ z
    obtain ⟨st, hst⟩ : ∃ st, sts[i]? = some st := ⟨_, List.getElem?_eq_getElem (by omega)⟩
    obtain ⟨w0, hw0⟩ : ∃ w0, xs[i]? = some w0 := ⟨_, List.getElem?_eq_getElem li⟩
    have stp : ∀ {G : Hp} {j : Nat} {w0 : V}, Kp [a, lw] H G → xs[j]? = some w0 → ∃ s b p, sts[j]? = some s ∧ w0 = .ref b ∧ b ∉ [a, lw] ∧ G b = some (.tup [.str s.1, .ref p]) ∧ p ∉ [a, lw] ∧ G p = some (.tup s.2.vs) := fun {G j w0} KG hw => by
      obtain ⟨e, he, hq0⟩ := (dqG KG).at_ hw
      rw [List.getElem?_map] at he
      cases ez : sts[j]? with
      | none => rw [ez] at he; cases he
      | some s =>
        rw [ez] at he
        cases he
        obtain ⟨b, p, e, n, hb, np, hp⟩ := dq_stepA hq0
        exact ⟨s, b, p, rfl, e, n, hb, np, hp⟩
    obtain ⟨st', b, pd, hst', rfl, nb, hb, npd, hpd⟩ := stp K08 hw0
    rw [hst] at hst'
    cases hst'
    obtain ⟨n, d⟩ := st
    refine ⟨_, rfl, _, rfl, L, _, _, _, rfl, rfl, SqL.of hL8, at_nat hw0, ?_⟩
    refine ⟨b, _, rfl, SqT.of hb, rfl, _, _, rfl, _, _, rfl, rfl, ?_⟩
    have ms : (n, d) ∈ sts := List.mem_of_getElem? hst
    obtain ⟨okd, nmd⟩ := ok.deed _ ms
    have inA := ok.at_ hst
    have inN : ∀ z ∈ d.names, z ∈ SHEET ++ (sts.take i).map (·.1) := inA.names okd
    refine nx_seq ?_
    refine seq_post (fun σ' H' => ∃ l ws ds, σ'[2]? = some (some (V.ref l)) ∧ StepsOk ds ∧ ds.length ≤ 6 ∧ F2 (Dq [a, lw] H') ws (ds.map stepPy) ∧ H l = none ∧ H' l = some (.lst ws) ∧ StA H' a lw lc (t + 60) ∧ Kp [a, lw] H H') (fun D' hD' => ?_) (fun σ' H' ⟨l, ws, ds, e, h1, h2, h3, h4, h5, h6, h7⟩ => ⟨_, e, k l ws ds H' h1 h2 h3 h4 h5 h6 h7⟩)
    have keepL : ∀ {G : Hp}, Kp [a, lw] H8 G → G L = some (.lst xs) := fun KG => KG _ _ hL8 oL
    have setd : ∀ {G : Hp} {r tt : Addr} {d' : Deed}, StA G a lw lc (t + 60) → Kp [a, lw] H8 G → G r = some (.tup d'.vs) → r ∉ [a, lw] → DeedOk d' → (∀ z ∈ d'.names, z ∈ SHEET ++ (sts.take i).map (·.1)) → G tt = none → ∀ σ' : L2.St, σ'[2]? = some (some (V.ref L)) → D'.nx σ' (L2.upd (L2.upd G tt (.tup [.str n, .ref r])) L (.lst (xs.set i (.ref tt)))) := fun {G r tt d'} SG KG hr nr ok' in' nt σ' e2 => by
      have sT := same_upd (o := .tup [V.str n, .ref r]) nt
      have hT := upd_same (H := G) (a := tt) (o := .tup [V.str n, .ref r])
      have oT := (SG.new nt).1
      have hr' := sT _ _ hr
      have hL' := sT _ _ (keepL KG)
      have SG' := SG.same sT
      have KG' := KG.trans (Kp.of sT)
      generalize L2.upd G tt (.tup [.str n, .ref r]) = G1 at sT hT hr' hL' SG' KG'
      have nTL : tt ≠ L := ne_of hT hL' (by intro z; cases z)
      have nrL : r ≠ L := ne_of hr' hL' (by intro z; cases z)
      have K9 : Kp [a, lw] H (L2.upd G1 L (.lst (xs.set i (.ref tt)))) := fun c o e nc => by
        rw [upd_ne (ne_of_none e nL)]
        exact K08.trans KG' _ _ e nc
      refine hD' _ _ ⟨L, xs.set i (.ref tt), sts.set i (n, d'), e2, ok.set hst ok' in', by rw [List.length_set]; exact l6, ?_, nL, upd_same, SG'.put oL oLc _, K9⟩
      have := F2.set (dqG K9) (i := i) (a := V.ref tt) (b := stepPy (n, d')) (.tup oT (by rw [upd_ne nTL]; exact hT) (.cons (.str _) (.cons (Dq.of_deed nr (by rw [upd_ne nrL]; exact hr')) .nil)))
      rw [List.map_set]
      exact this
    obtain ⟨m, kk, hm, nm, okN, nk, okW⟩ := id okd
    have m5 : m ≤ 5 := (form_facts _ hm).2.2.1
    have dl := deed_len d
    obtain ⟨d1, d7⟩ := deed_max okd
    have l5 : (SHEET ++ (sts.take i).map (·.1)).length ≤ 11 := by
      rw [List.length_append, List.length_map, List.length_take]
      have : SHEET.length = 5 := rfl
      omega
    have l5' : 0 < (SHEET ++ (sts.take i).map (·.1)).length := by
      rw [List.length_append]
      have : SHEET.length = 5 := rfl
      omega
    have ahN : ∀ z ∈ SHEET ++ (sts.take i).map (·.1), NameOk z := fun z hz => by
      rcases List.mem_append.mp hz with hz | hz
      · exact nms_ok (sheet_nms z hz)
      · obtain ⟨s, hs, rfl⟩ := List.mem_map.mp hz
        exact nms_ok (ok.name s (List.mem_of_mem_take hs))
    have hS8 : SqT K H8 pd d.vs := SqT.of hpd
    have cat3 : ∀ {G : Hp} {x y : Addr} {us vs : List V} {Q1 : VK}, G x = some (.tup us) → G y = some (.tup vs) → us.length + vs.length ≤ 100 → (∀ r G', Same G G' → G' r = some (.tup (us ++ vs)) → Q1 (.ref r) G') → rCatA K (.ref x) (.ref y) G Q1 := fun h1 h2 h3 k => cat_readV h1 h2 (Nat.le_trans h3 (by decide)) k
    refine ⟨_, rfl, rfl, _, rfl, ite2 (fun c => ?_) fun c => ?_⟩
    · -- another deed
      refine ⟨_, rfl, _, rfl, _, rfl, pd, _, _, _, rfl, rfl, hS8, deed_head d, _, rfl, a, lw, lc, _, d.word, m, kk, A, _, rfl, S8, by omega, hm, hA, oA, l5', by omega, ahN, fun r d' G dw ok' in' SG KG nr hr => ?_⟩
      refine ⟨(by show 2 ≤ sizeLine; decide), fun tt nt => ?_⟩
      refine ⟨_, rfl, _, rfl, L, _, _, i, rfl, rfl, same_upd nt _ _ (keepL KG), ixN_at li, ?_⟩
      exact setd (SG.more (by omega)) KG hr (S8.new nr).1 ok' in' nt _ rfl
    refine ⟨_, rfl, rfl, _, rfl, ite2 (fun c1 => ?_) fun c1 => ?_⟩
    · -- kind 1
      refine ⟨_, rfl, pd, _, _, _, rfl, rfl, hS8, deed_head d, d.word, rfl, fun G sG => ⟨_, rfl, ?_⟩⟩
      rw [fk_way _ hm]
      have hpG := sG _ _ hpd
      have S9 := S8.same sG
      have KG8 := Kp.of sG (xs := [a, lw])
      have hSG : SqT K G pd d.vs := SqT.of hpG
      by_cases hk : kk = 1
      · subst hk
        refine iteT ?_
        obtain ⟨z, ez⟩ : ∃ z, d.way = [z] := by
          match e : d.way, nk with
          | [z], _ => exact ⟨z, rfl⟩
        have hz := okW z (by rw [ez]; simp)
        have ln : d.vs.length = m + 2 := by rw [dl, nm, nk]; omega
        have ev : d.vs = (V.str d.word :: d.names.map V.str) ++ [V.int z] := by
          unfold Deed.vs
          rw [ez]
          rfl
        have l1 : (V.str d.word :: d.names.map V.str).length = m + 1 := by rw [List.length_cons, List.length_map, nm]
        have el : ((d.vs.length : Nat) : Int) - 1 = ((m + 1 : Nat) : Int) := by rw [ln]; omega
        have ec : cutV d.vs none (some (((d.vs.length : Nat) : Int) - 1)) = V.str d.word :: d.names.map V.str := by
          rw [el, cut_to (by omega), ev]
          exact List.take_left' l1
        have ea : atI d.vs (((d.vs.length : Nat) : Int) - 1) = some (.int z) := by
          rw [el]
          refine at_nat ?_
          rw [ev, List.getElem?_append_right (by omega), l1]
          simp
        refine ⟨_, rfl, _, rfl, _, rfl, pd, _, rfl, .inr hSG, _, _, rfl, rfl, _, rfl, pd, _, rfl, hSG, ?_, fun p3 n3 => ?_⟩
        · rintro ⟨_, h⟩
          rw [el, HT.sIx_nat] at h
          omega
        rw [ec]
        have s3 := same_upd (o := .tup (V.str d.word :: d.names.map V.str)) n3
        have h3 := upd_same (H := G) (a := p3) (o := .tup (V.str d.word :: d.names.map V.str))
        generalize L2.upd G p3 (.tup (V.str d.word :: d.names.map V.str)) = G3 at s3 h3
        have hS3 : SqT K G3 pd d.vs := seqT s3 hSG
        refine ⟨_, rfl, _, rfl, pd, _, rfl, .inr hS3, _, _, rfl, rfl, pd, _, _, _, rfl, rfl, hS3, ea, _, _, rfl, rfl, (by show 1 ≤ sizeLine; decide), fun p4 n4 => ?_⟩
        have s4 := same_upd (o := .tup [V.int (3 - z)]) n4
        have h4 := upd_same (H := G3) (a := p4) (o := .tup [V.int (3 - z)])
        refine cat3 (s4 _ _ h3) h4 (by rw [l1]; show m + 1 + 1 ≤ 100; omega) fun r G5 s5 h5 => ?_
        have sA := (s3.trans s4).trans s5
        have hr5 : G5 r = some (.tup (Deed.vs ⟨d.word, d.names, [3 - z]⟩)) := by
          rw [h5]
          rfl
        have ok' : DeedOk ⟨d.word, d.names, [3 - z]⟩ := ⟨m, 1, hm, nm, okN, rfl, fun y hy => by
          rw [List.mem_singleton.mp hy]
          omega⟩
        have S5 := S9.same sA
        refine ⟨(by show 2 ≤ sizeLine; decide), fun tt nt => ?_⟩
        refine ⟨_, rfl, _, rfl, L, _, _, i, rfl, rfl, same_upd nt _ _ (keepL (KG8.trans (Kp.of sA))), ixN_at li, ?_⟩
        exact setd (S5.more (by omega)) (KG8.trans (Kp.of sA)) hr5 (S5.off hr5 (fun _ z => by cases z) (fun _ z => by cases z)) ok' inN nt _ rfl
      · have e0 : (kk == 1) = false := by simpa using hk
        rw [e0]
        refine iteF ?_
        have k0 : kk = 0 := by
          have : kk ≤ 1 := (form_facts _ hm).2.2.2
          omega
        subst k0
        have ew : d.way = [] := List.eq_nil_of_length_eq_zero nk
        have m0 : 0 < m := by
          have h1 : ∀ t ∈ FORM, 0 < t.2.1 := by decide +kernel
          exact h1 _ hm
        refine ⟨_, rfl, rfl, _, rfl, ?_⟩
        refine ite2 (fun _ => ?_) fun cc => absurd c1 cc
        refine ⟨_, rfl, pd, d, rfl, hpG, okd, fun l G1 s1' nl hl => ?_⟩
        have S10 := S9.same s1'
        obtain ⟨ol, _⟩ := S9.new nl
        have KG1 := KG8.trans (Kp.of s1' (xs := [a, lw]))
        refine ⟨_, rfl, _, rfl, a, lw, lc, _, A, _, rfl, S10, by omega, KG1 _ _ hA oA, fun z => oA (by simp [z]), by rw [List.length_map]; exact l5', by rw [List.length_map]; omega, fun j x G2 hx S11 K11 => ?_⟩
        obtain ⟨z, hz, rfl⟩ := List.mem_map.mp (List.mem_of_getElem? hx)
        have hl2 := K11 _ _ hl ol
        refine ⟨_, rfl, _, rfl, _, rfl, l, _, rfl, .inl (SqL.of hl2), a, lw, lc, _, _, rfl, S11, by omega, by rw [List.length_map, nm]; omega, by rw [List.length_map, nm]; omega, fun ai G3 a0 a1 S12 K12 => ?_⟩
        obtain ⟨j2, rfl⟩ : ∃ j : Nat, ai = (j : Int) := ⟨ai.toNat, by omega⟩
        have lj : j2 < (d.names.map V.str).length := by omega
        have hl3 := K12 _ _ hl2 ol
        have KG3 := (KG1.trans K11).trans K12
        refine ⟨l, _, _, j2, rfl, rfl, hl3, ixN_at lj, ?_⟩
        have eset : (d.names.map V.str).set j2 (.str z) = (d.names.set j2 z).map V.str := by rw [List.map_set]
        rw [eset]
        have hpd3 := KG3 _ _ hpd npd
        have S13 := S12.put ol (S9.new nl).2 (.lst ((d.names.set j2 z).map V.str))
        have h13 := upd_same (H := G3) (a := l) (o := .lst ((d.names.set j2 z).map V.str))
        have hpd4 : (L2.upd G3 l (.lst ((d.names.set j2 z).map V.str))) pd = some (.tup d.vs) := by
          rw [upd_ne (ne_of hpd3 hl3 (by intro z; cases z))]
          exact hpd3
        have KG4 : Kp [a, lw] H8 (L2.upd G3 l (.lst ((d.names.set j2 z).map V.str))) := fun c o e n => by
          rw [upd_ne (ne_of_none e (sG.free nl))]
          exact KG3 _ _ e n
        generalize L2.upd G3 l (.lst ((d.names.set j2 z).map V.str)) = G4 at S13 h13 hpd4 KG4
        refine ⟨_, rfl, _, rfl, pd, _, _, _, rfl, rfl, SqT.of hpd4, deed_head d, (by show 1 ≤ sizeLine; decide), fun t1 n1 => ?_⟩
        have s14 := same_upd (o := .tup [V.str d.word]) n1
        have h14 := upd_same (H := G4) (a := t1) (o := .tup [V.str d.word])
        generalize L2.upd G4 t1 (.tup [V.str d.word]) = G5 at s14 h14
        refine ⟨_, rfl, .inl ⟨l, _, rfl, SqL.of (s14 _ _ h13), fun t2 n2 => ?_⟩⟩
        have s15 := same_upd (o := .tup ((d.names.set j2 z).map V.str)) n2
        have h15 := upd_same (H := G5) (a := t2) (o := .tup ((d.names.set j2 z).map V.str))
        refine cat3 (s15 _ _ h14) h15 (by rw [List.length_map, List.length_set, nm]; show 1 + m ≤ 100; omega) fun r G6 s16 h16 => ?_
        have sA := (s14.trans s15).trans s16
        have hr6 : G6 r = some (.tup (Deed.vs ⟨d.word, d.names.set j2 z, []⟩)) := by
          rw [h16]
          unfold Deed.vs
          simp
        have ok' : DeedOk ⟨d.word, d.names.set j2 z, []⟩ := ⟨m, 0, hm, by rw [List.length_set]; exact nm, fun y hy => by
          rcases List.mem_or_eq_of_mem_set hy with hy | rfl
          · exact okN y hy
          · exact ahN _ hz, rfl, fun y hy => by cases hy⟩
        have S16 := S13.same sA
        have KG6 := KG4.trans (Kp.of sA)
        refine ⟨(by show 2 ≤ sizeLine; decide), fun tt nt => ?_⟩
        refine ⟨_, rfl, _, rfl, L, _, _, i, rfl, rfl, same_upd nt _ _ (keepL KG6), ixN_at li, ?_⟩
        refine setd (S16.more (by omega)) KG6 hr6 (S16.off hr6 (fun _ z => by cases z) (fun _ z => by cases z)) ok' (fun y hy => ?_) nt _ rfl
        rcases List.mem_or_eq_of_mem_set hy with hy | rfl
        · exact inN y hy
        · exact hz
    · refine iteF ?_
      refine ⟨_, rfl, rfl, _, rfl, ?_⟩
      refine ite2 (fun cc => absurd cc c1) fun _ => ?_
      have endL : ∀ {G : Hp} (σ' : L2.St), StA G a lw lc (t + 60) → Kp [a, lw] H8 G → σ'[2]? = some (some (V.ref L)) → D'.nx σ' G := fun {G} σ' SG KG e2 => hD' _ _ ⟨L, xs, sts, e2, ok, l6, dqG (K08.trans KG), nL, keepL KG, SG, K08.trans KG⟩
      refine ⟨_, rfl, rfl, _, rfl, ite2 (fun c2 => ?_) fun c2 => ?_⟩
      · -- one less
        refine ⟨_, rfl, _, rfl, L, _, rfl, .inl (SqL.of hL8), _, _, rfl, rfl, _, rfl, L, _, rfl, SqL.of hL8, fun q2 nq2 => ?_⟩
        have ec : cutV xs none (some (((xs.length : Nat) : Int) - 1)) = xs.take (xs.length - 1) := by
          rw [show (((xs.length : Nat) : Int) - 1) = ((xs.length - 1 : Nat) : Int) by omega]
          exact cut_to (by omega)
        rw [ec]
        have sQ := same_upd (o := .lst (xs.take (xs.length - 1))) nq2
        have nqH : H q2 = none := by
          cases e : H q2 with
          | none => rfl
          | some o => have := K08 _ _ e (S8.new nq2).1; rw [nq2] at this; cases this
        have K9 := K08.trans (Kp.of sQ)
        refine hD' _ _ ⟨q2, xs.take (xs.length - 1), sts.take (xs.length - 1), rfl, ok.take _, by rw [List.length_take]; omega, ?_, nqH, upd_same, (S8.same sQ).more (by omega), K9⟩
        rw [List.map_take]
        exact F2.take _ (dqG K9)
      · refine ⟨_, rfl, _, _, rfl, rfl, _, rfl, ite2 (fun c3 => ?_) fun c3 => ?_⟩
        · have i0 : 0 < i := by
            have := of_decide_eq_true c3
            omega
          obtain ⟨j, rfl⟩ : ∃ j, i = j + 1 := ⟨i - 1, by omega⟩
          have ej : (((j + 1 : Nat) : Int) - 1) = ((j : Nat) : Int) := by omega
          obtain ⟨w1, hw1⟩ : ∃ w1, xs[j]? = some w1 := ⟨_, List.getElem?_eq_getElem (by omega)⟩
          obtain ⟨s1', b1, p1, hs1, rfl, nb1, hb1, np1, hp1⟩ := stp K08 hw1
          have aj : atI xs (((j + 1 : Nat) : Int) - 1) = some (.ref b1) := by
            rw [ej]
            exact at_nat hw1
          have flN : d.vs.all flatV = true := by
            rw [List.all_eq_true]
            intro v hv
            unfold Deed.vs at hv
            rcases List.mem_cons.mp hv with rfl | hv
            · rfl
            rcases List.mem_append.mp hv with hv | hv
            · obtain ⟨z, _, rfl⟩ := List.mem_map.mp hv
              rfl
            · obtain ⟨z, _, rfl⟩ := List.mem_map.mp hv
              rfl
          refine ⟨_, rfl, _, rfl, _, _, rfl, rfl, L, _, _, _, rfl, rfl, SqL.of hL8, aj, b1, _, _, _, rfl, rfl, SqT.of hb1, at_nat (k := 0) rfl, _, rfl, pd, _, rfl, .inr hS8, rfl, flN, _, rfl, ite2 (fun c4 => ?_) fun c4 => endL _ (S8.more (by omega)) (Kp.refl _ _) rfl⟩
          have no : s1'.1 ∉ d.names := fun z => by
            have : inV (.str s1'.1) d.vs = true := inV_mem (List.mem_cons_of_mem _ (List.mem_append_left _ (List.mem_map.mpr ⟨_, z, rfl⟩)))
            rw [this] at c4
            exact absurd c4 (by decide)
          refine ⟨_, rfl, _, rfl, L, _, _, _, rfl, rfl, SqL.of hL8, at_nat hw0, _, rfl, _, rfl, _, _, rfl, rfl, L, _, _, _, rfl, rfl, SqL.of hL8, aj, (by show 2 ≤ sizeLine; decide), fun tt nt => ?_⟩
          have sT := same_upd (o := .tup [V.ref b, .ref b1]) nt
          have hLT := sT _ _ hL8
          have ST := S8.same sT
          have KT := Kp.of sT (xs := [a, lw])
          have hTT := upd_same (H := H8) (a := tt) (o := .tup [V.ref b, .ref b1])
          generalize L2.upd H8 tt (.tup [V.ref b, .ref b1]) = G1 at hTT sT hLT ST KT
          refine ⟨tt, _, rfl, SqT.of hTT, rfl, _, _, rfl, _, rfl, _, rfl, _, _, rfl, rfl, L, _, _, j, rfl, rfl, hLT, by rw [ej]; exact ixN_at (by omega), ?_⟩
          refine ⟨_, _, rfl, _, rfl, _, rfl, L, _, _, j + 1, rfl, rfl, upd_same, by rw [List.length_set]; exact ixN_at (by omega), rfl, ?_⟩
          have K9 : Kp [a, lw] H (L2.upd (L2.upd G1 L (.lst (xs.set j (.ref b)))) L (.lst ((xs.set j (.ref b)).set (j + 1) (.ref b1)))) := fun c o e nc => by
            rw [upd_ne (ne_of_none e nL), upd_ne (ne_of_none e nL)]
            exact K08.trans KT _ _ e nc
          refine hD' _ _ ⟨L, _, (sts.set j (n, d)).set (j + 1) s1', rfl, ok.swap hs1 hst no, by rw [List.length_set, List.length_set]; exact l6, ?_, nL, upd_same, ((ST.put oL oLc _).put oL oLc _).more (by omega), K9⟩
          have g := dqG K9
          have q1 : Dq [a, lw] (L2.upd (L2.upd G1 L (.lst (xs.set j (.ref b)))) L (.lst ((xs.set j (.ref b)).set (j + 1) (.ref b1)))) (.ref b) (stepPy (n, d)) := by
            obtain ⟨e, he, hq0⟩ := g.at_ hw0
            rw [List.getElem?_map, hst] at he
            cases he
            exact hq0
          have q2 : Dq [a, lw] (L2.upd (L2.upd G1 L (.lst (xs.set j (.ref b)))) L (.lst ((xs.set j (.ref b)).set (j + 1) (.ref b1)))) (.ref b1) (stepPy s1') := by
            obtain ⟨e, he, hq0⟩ := g.at_ hw1
            rw [List.getElem?_map, hs1] at he
            cases he
            exact hq0
          rw [List.map_set, List.map_set]
          exact (g.set q1).set q2
        · refine iteF ?_
          exact endL _ (S8.more (by omega)) (Kp.refl _ _) rfl
end
end Own
set_option Elab.async false
set_option linter.all false
set_option maxRecDepth 100000
set_option maxHeartbeats 400000
namespace Own
open PySem PySem.Spec PyProof.Rows L2 LamX
/-! ### repr of (data, dict of names) -/
def tbD (tb : List (Str × Str)) : PyData := .dict (tb.map fun e => (.str e.1, .str e.2))
theorem reads_kv {P : Program} {w : World} {h : Heap} : ∀ {tb : List (Str × Str)} {vs : List (Key × Value)} {es : List DictEntry}, KV (tbK tb) vs → Pairs (mixKind P w) es vs → ReadsAll h (es.map (·.key)) (tb.map fun e => PyData.str e.1) [] ∧ ReadsAll h (es.map (·.val)) (tb.map fun e => PyData.str e.2) []
  | [], _, _, .nil, .nil => ⟨.nil, .nil⟩
  | (z, v) :: tb, _, _, .cons ⟨k1, k2⟩ kr, .cons h1 h2 hr => by
    obtain ⟨a, b⟩ := reads_kv kr hr
    have h1 : keyIs _ _ = true := h1
    rw [← k1] at h1
    obtain ⟨t, e1⟩ := relV_key h1
    obtain ⟨t2, e2⟩ := k2
    rw [← h2] at e2
    constructor
    · rw [List.map_cons, List.map_cons, e1]
      exact .cons (as := []) (.str z t) a
    · rw [List.map_cons, List.map_cons, e2]
      exact .cons (as := []) (.str v t2) b
/-- repr of a pair of data and a dict of names -/
def rReprTD (K : PySem.W.Frag) : List V → Hp → VK → Prop := fun vs H Q => ∃ (t b : Addr) (x : V) (d : PyData) (tb : List (Str × Str)), vs = [.ref t] ∧ H t = some (.tup [x, .ref b]) ∧ H b = some (.dK (tbK tb)) ∧ Dp K H x d ∧ d.showable = true ∧ d.hasDict = false ∧ d.depth ≤ 60 ∧ d.shown.length ≤ sizeLine ∧ (tbD tb).shown.length ≤ sizeLine ∧ (PyData.tuple [d, tbD tb]).shown.length ≤ sizeLine ∧
  Q (.str (PyData.tuple [d, tbD tb]).shown) H
theorem showKv : ∀ tb : List (Str × Str), PyData.showableKv (tb.map fun e => (PyData.str e.1, PyData.str e.2)) = true
  | [] => rfl
  | _ :: tb => showKv tb
theorem depKv : ∀ tb : List (Str × Str), PyData.depthKv (tb.map fun e => (PyData.str e.1, PyData.str e.2)) = 0
  | [] => rfl
  | _ :: tb => by
    show max (max 0 0) (PyData.depthKv _) = 0
    rw [depKv tb]
    rfl
section
variable {X : Cx}
theorem call_reprTD (hg : X.A.guards = some []) (hu : X.A.units + 100 < cLine) : CallR X (.builtin "repr") (rReprTD X.K) := by
  intro pins s σ H xs us Q I r h
  obtain ⟨t, b, x, d, tb, rfl, ht, hb, hd, h1, h2, h3, h4, h5, h6, q⟩ := h
  obtain ⟨u, rfl, ru⟩ := vals1 r
  cases ru
  obtain ⟨its, rv, ⟨o, ho, hc, n, hdat⟩, _⟩ := I.tuple (SqT.of ht)
  obtain ⟨ux, rfl, rx⟩ : ∃ ux, its = [ux, .ref b] ∧ RelV x ux := by
    cases rv with
    | cons p q =>
      cases q with
      | cons p' q' =>
        cases q'
        cases p'
        exact ⟨_, rfl, p⟩
  obtain ⟨as1, r1⟩ := Dp.reads I _ _ _ hd rx
  obtain ⟨_, hsy, vs, kv, od, es, ep, e1, e2, e3, _, e5, _⟩ := dk_of I.hok hb
  obtain ⟨ra, rb⟩ := reads_kv kv e5
  have r2 : Reads s.heap (.ref b) (tbD tb) [b] := by
    refine Reads.dict (as := []) (bs := []) e1 e2.1 e3 ?_ ?_
    · rw [List.map_map]
      exact ra
    · rw [List.map_map]
      exact rb
  have rT : Reads s.heap (.ref t) (.tuple [d, tbD tb]) (as1 ++ ([b] ++ [])) := Reads.tuple ho hc hdat (.cons r1 (.cons r2 .nil))
  obtain ⟨b1, hb1, k1⟩ := ReprK.of_reads (prog := X.prog) (w := X.w) r1 h1 (PyData.noDict_hsm h2) h4
  obtain ⟨b2, hb2, k2⟩ := ReprK.of_reads (prog := X.prog) (w := X.w) r2 (showKv tb) (fun _ hm => by
    rw [List.mem_singleton.mp hm] at hsy
    simp at hsy) h5
  have dd : (tbD tb).depth = 1 := by
    show PyData.depthKv _ + 1 = 1
    rw [depKv]
  have le2 : (tbD tb).depth ≤ 61 := by omega
  have kk : ReprAllK X.prog X.w (b1 ++ b2) s.heap (PyData.depthAll [d, tbD tb]) [ux, .ref b] [d.shown, (tbD tb).shown] := by
    refine .cons ((k1.more fun b hb => List.mem_append_left _ hb).level_le ?_) (.cons ((k2.more fun b hb => List.mem_append_right _ hb).level_le ?_) .nil)
    · exact Nat.le_max_left _ _
    · exact Nat.le_trans (Nat.le_max_left _ _) (Nat.le_max_right _ _)
  have hm : ReadAtMost s.heap (PyData.depthAll [d, tbD tb]) (b1 ++ b2) := fun c hc => by
    rcases List.mem_append.mp hc with hc | hc
    · obtain ⟨d', as', r', q⟩ := hb1 c hc
      exact ⟨d', as', r', Nat.le_trans q (Nat.le_max_left _ _)⟩
    · obtain ⟨d', as', r', q⟩ := hb2 c hc
      exact ⟨d', as', r', Nat.le_trans q (Nat.le_trans (Nat.le_max_left _ _) (Nat.le_max_right _ _))⟩
  have dA : PyData.depthAll [d, tbD tb] ≤ 61 := depth_all fun e he => by
    simp only [List.mem_cons, List.not_mem_nil, or_false] at he
    rcases he with rfl | rfl
    · omega
    · exact le2
  have hna : t ∉ b1 ++ b2 := not_mem_of_deeper rT (by show PyData.depthAll [d, tbD tb] < PyData.depthAll [d, tbD tb] + 1; omega) hm
  refine call_repr_slot (by omega) ⟨o, ho, hc⟩ PySem.F.slot_tuple_repr ?_
  exact call_tuple_reprK ho hc hdat hna kk hg (fun b _ => Clear.nil b) (by show X.A.units + 1 + (PyData.depthAll [d, tbD tb] + 1) < cLine; omega) (fun _ _ e => e) (fun h' u tk hk => ⟨_, _, rfl, .str _, H, I.kept (t' := tk) hk, ⟨u, rfl⟩, q⟩) h6
end
end Own
set_option Elab.async false
set_option linter.all false
set_option maxRecDepth 100000
set_option maxHeartbeats 400000
namespace Own
open PySem PySem.Spec PyProof.Rows L2 LamX
/-! ### lambdas handed to _law_caught -/
theorem kit_self {K : PySem.W.Frag} (t : Value) : PySem.W.kitOne K t t = some true := by
  unfold PySem.W.kitOne
  rw [if_pos (beq_self_eq_true t)]
theorem scCaught : FnScope ["_law_action", "_law_found", "_law_error"] ["_law_action"] (defScope sCaught) := ⟨rfl, rfl, rfl, by decide +kernel, rfl, by decide +kernel, by decide +kernel⟩
theorem pe_caught {X : Cx} {k : Nat} {c : Addr} {tb fC CR : Addr} {dC : FuncData} {TT : List (Addr × Str)} {params : Arguments} {body : Expr} {scope : Scope} {t : XK → TE} {p lpos pos : Pos} (FC : FnP X.K "_law_caught" sCaught fC dC) (gC : X.mg "_law_caught" = some (.ref fC)) (hg : Gl X "_law_caught") (gR : X.mg "RulerError" = some (.ref CR))
    (TB : TabB X.base X.mg c tb) (hcode : X.env.code = .ref c) (hm : (tb, X.env.qual ++ "<lambda>") ∈ TT) (hun : ∀ p ∈ TT, p.1 = tb → p.2 = X.env.qual ++ "<lambda>") (hr : Room (k + 2) X.A) {sc : Scope} (hsc : X.env.scope = sc) (L : LamS sc scope) (hdef : defaultsOf params X.env = ([], []))
    (hbind : ∀ (q : Str) (cl : List (Str × Addr)) (pm cv ctv : Value), bindArgs (PySem.W.kla_fn "<lambda>" q params body scope cl pm cv ctv) ⟨[], []⟩ = pure [])
    (hbody : ∀ (A : Around) (outer : List Env) (s : Shared) (H : Hp) (E : XK) (f c' : Addr), Room k (A.deeper (lamEnv X scope s.heap.objs.size f c')) → PE (lamCx X A outer s H E scope f c') body (t E)) :
    PE X (.Call (.Name "_law_caught" p) [.Lambda params body scope lpos] [] pos) (tLam TT (TKeep X.K CR) t) := by
  have bC : Binds X.K dC ["_law_action"] [] := FC.bindsN fun _ _ _ _ _ _ us hl => match us, hl with | [_], _ => rfl
  have kp := FC.kp
  obtain ⟨oc, od, dV, kV, doc, pm, an, cdv, ct, osl, rfl, lk, hcd, hdf, _⟩ := FC.ex
  exact pe_lamcall hg gC kp lk hcd bC scCaught rfl (Or.inl rfl) (keep_gives rfl scCaught.nd rfl rfl rfl gR (by decide) (by decide) (by decide) (by decide) (by decide)) TB hcode hm hun hr (hsc ▸ L) hdef hbind hbody
theorem code_is {K : PySem.W.Frag} {x qual : Str} {params : Arguments} {body : List Stmt} {scope : Scope} {f : Addr} {cdv : Value} {d : Str × Option Str} (hf : f = He.fAd K d)
    (h : ∃ (oc : Value) (od : Option Addr) (dV kV doc pm : Value) (an : Option Addr) (ct : Value) (osl : Array (Option Value)), K.lookup f = some ⟨oc, od, .func (PySem.W.fnOf x qual params body scope dV kV doc pm an cdv ct), osl⟩) (hc : PySem.W.codeIn K cdv qual = true) : cdv = .ref (He.codeOf K d) := by
  obtain ⟨oc, od, dV, kV, doc, pm, an, ct, osl, lk⟩ := h
  obtain ⟨c, rfl⟩ := He.codeIn_ref hc
  have e : He.codeOf K d = c := He.codeOf_eq (by rw [← hf]; exact lk) rfl
  rw [e]
theorem StA.extN {H H' : Hp} {a lw lc : Addr} {t : Nat} (S : StA H a lw lc t) (e : ExtN H H') : StA H' a lw lc t := by
  obtain ⟨⟨ws, cs, r, u, h1, h2, h3, h4⟩, ne⟩ := S
  exact ⟨⟨ws, cs, r, u, e _ _ h1 (fun _ q => by cases q), e _ _ h2 (fun _ q => by cases q), e _ _ h3 (fun _ q => by cases q), h4⟩, ne⟩
theorem Tabs.kp {TT : List (Addr × Str)} {H H' : Hp} {a lw lc : Addr} {t : Nat} (T : Tabs TT H) (S : StA H a lw lc t) (k : Kp [a, lw] H H') : Tabs TT H' := by
  obtain ⟨⟨ws, cs, r, u, g1, g2, _⟩, _⟩ := S
  intro p hp
  obtain ⟨ps, h1, h2, h3⟩ := T p hp
  have off : ∀ {b : Addr} {o : HO}, H b = some o → (∀ kvs, o ≠ .dK kvs) → (∀ xs, o ≠ .lst xs) → b ∉ [a, lw] := fun {b o} hb n1 n2 => by
    have q1 : b ≠ a := ne_of hb g1 (n1 _)
    have q2 : b ≠ lw := ne_of hb g2 (n2 _)
    simp [q1, q2]
  refine ⟨ps, k _ _ h1 (off h1 (fun _ z => by cases z) (fun _ z => by cases z)), h2, fun pos cv hc => ?_⟩
  obtain ⟨c, e1, e2⟩ := h3 pos cv hc
  exact ⟨c, e1, k _ _ e2 (off e2 (fun _ z => by cases z) (fun _ z => by cases z))⟩
def TupK (H H' : Hp) : Prop := ∀ b ys, H b = some (.tup ys) → H' b = some (.tup ys)
theorem TupK.refl (H : Hp) : TupK H H := fun _ _ h => h
theorem TupK.trans {H H1 H2 : Hp} (a : TupK H H1) (b : TupK H1 H2) : TupK H H2 := fun c ys h => b c ys (a c ys h)
theorem TupK.of {H H' : Hp} (e : Same H H') : TupK H H' := fun b ys h => e b _ h
theorem TupK.kp {H H' : Hp} {a lw lc : Addr} {t : Nat} (S : StA H a lw lc t) (k : Kp [a, lw] H H') : TupK H H' := fun _ _ h => S.tupK k h
theorem TupK.put {H : Hp} {b : Addr} {l : List V} (e : H b = some (.lst l)) (o : HO) : TupK H (L2.upd H b o) := fun c ys h => by
  rw [upd_ne (ne_of h e (by intro z; cases z))]
  exact h
theorem TupK.ext {H H' : Hp} (e : ExtN H H') : TupK H H' := fun b ys h => e b _ h fun _ z => by cases z
theorem kb_two {K : PySem.W.Frag} {x qual : Str} {params : Arguments} {body : List Stmt} {scope : Scope} {kws : List (Str × V)} {f : Addr} {fd : FuncData} {p q : Str} (F : FunD K x qual params body scope [] kws f fd)
    (h : ∀ (kV doc pm : Value) (an : Option Addr) (cdv ct u v : Value), bindArgs (PySem.W.fnOf x qual params body scope .none kV doc pm an cdv ct) ⟨[], [(p, u), (q, v)]⟩ = pure [(p, u), (q, v)]) : KBn K fd [p, q] 0 [p, q] (fun _ ws => ws) (fun _ zs => zs) := by
  obtain ⟨oc, od, dV, kV, doc, pm, an, cdv, ct, osl, rfl, lk, hcd, hD, hK⟩ := F.ex
  refine ⟨fun s us ws X l1 l2 => ?_, fun _ r => r⟩
  match us, ws, l1, l2 with
  | [], [u, v], _, _ =>
    rcases hD with ⟨_, rfl⟩ | ⟨e, _⟩
    · exact .of_eq (h kV doc pm an cdv ct u v)
    · exact absurd rfl e
theorem call_isXK {X : Cx} {K : PySem.W.Frag} (h : X.K = K) : CallR X (.builtin "isinstance") (rIsX K) := h ▸ call_isX
abbrev qTR : Str := ("_law_renamed_right" : Str) ++ ".<locals>." ++ "<lambda>"
abbrev qER : Str := ("law" : Str) ++ ".<locals>." ++ "<lambda>"
/-- the two tables -/
abbrev TTs (tt te : Addr) : List (Addr × Str) := [(tt, qTR), (te, qER)]
theorem TTs.cases {tt te : Addr} {p : Addr × Str} (h : p ∈ TTs tt te) : p = (tt, qTR) ∨ p = (te, qER) := by simpa using h
theorem TTs.t {tt te : Addr} (A : tt ≠ te) : ∀ p ∈ TTs tt te, p.1 = tt → p.2 = qTR := fun p hp e => by
  rcases TTs.cases hp with rfl | rfl
  · rfl
  · exact absurd e.symm A
theorem TTs.e {tt te : Addr} (A : tt ≠ te) : ∀ p ∈ TTs tt te, p.1 = te → p.2 = qER := fun p hp e => by
  rcases TTs.cases hp with rfl | rfl
  · exact absurd e A
  · rfl
theorem KpE.ext {xs : List Addr} {H H' : Hp} (k : ExtN H H') : KpE xs H H' := fun b o e _ n => k b o e n
/-- all but the state and the tables is as it was -/
structure Stay (a lw lc : Addr) (t : Nat) (TT : List (Addr × Str)) (H H' : Hp) : Prop where
  s : StA H' a lw lc t
  t : Tabs TT H'
  k : KpE [a, lw] H H'
theorem Stay.same {a lw lc : Addr} {t : Nat} {TT : List (Addr × Str)} {H H1 H2 : Hp} (h : Stay a lw lc t TT H H1) (e : Same H1 H2) : Stay a lw lc t TT H H2 := ⟨h.s.same e, h.t.ext e, h.k.trans (KpE.same e _)⟩
theorem Stay.ext {a lw lc : Addr} {t : Nat} {TT : List (Addr × Str)} {H H1 H2 : Hp} (h : Stay a lw lc t TT H H1) (e : ExtN H1 H2) (T : Tabs TT H2) : Stay a lw lc t TT H H2 := ⟨h.s.extN e, T, h.k.trans (KpE.ext e)⟩
theorem Stay.kp {a lw lc : Addr} {t t' : Nat} {TT : List (Addr × Str)} {H H1 H2 : Hp} (h : Stay a lw lc t TT H H1) (S : StA H2 a lw lc t') (k : Kp [a, lw] H1 H2) : Stay a lw lc t' TT H H2 := ⟨S, Tabs.kp h.t h.s k, h.k.trans (KpE.of k)⟩
theorem Stay.more {a lw lc : Addr} {t t' : Nat} {TT : List (Addr × Str)} {H H1 : Hp} (h : Stay a lw lc t TT H H1) (l : t ≤ t') : Stay a lw lc t' TT H H1 := ⟨h.s.more l, h.t, h.k⟩
theorem Stay.dq {a lw lc : Addr} {t : Nat} {TT : List (Addr × Str)} {H H1 : Hp} (h : Stay a lw lc t TT H H1) {x : V} {d : PyData} (q : Dq [a, lw] H x d) : Dq [a, lw] H1 x d := Dq.keep h.k _ _ q
theorem Stay.tup {a lw lc : Addr} {t : Nat} {TT : List (Addr × Str)} {H H1 : Hp} (h : Stay a lw lc t TT H H1) {b : Addr} {xs : List V} (n : b ∉ [a, lw]) (q : H b = some (.tup xs)) : H1 b = some (.tup xs) := h.k _ _ q n fun _ z => by cases z
theorem Stay.lst {a lw lc : Addr} {t : Nat} {TT : List (Addr × Str)} {H H1 : Hp} (h : Stay a lw lc t TT H H1) {b : Addr} {xs : List V} (n : b ∉ [a, lw]) (q : H b = some (.lst xs)) : H1 b = some (.lst xs) := h.k _ _ q n fun _ z => by cases z
structure ErrK (K : PySem.W.Frag) (mg : Str → Option Value) (CR : Addr) (x : Str) (C : Addr) : Prop where
  e : ExcT K mg x C
  c : ExcC K C
  x : PySem.W.exmOne K (.ref C) (.ref CR) = some true
theorem FunD.okC {P : Program} {w : World} {K : PySem.W.Frag} {mg : Str → Option Value} {base : Heap} {x qual : Str} {params : Arguments} {body : List Stmt} {scope : Scope} {dvs : List V} {kws : List (Str × V)} {f : Addr} {fd : FuncData} {CX : CXT} {N ps : List Str} {k : Nat} {sp : Sp} {d : Str × Option Str}
    (F : FunD K x qual params body scope dvs kws f fd) (hf : f = He.fAd K d) (S : FnScope N ps scope) (len : ∀ vs H Q E, sp vs H Q E → vs.length = ps.length)
    (hbody : ∀ (A : Around) (outer : List Env) (s : Shared) (H : Hp) (vs : List V) (Q : VK) (E : XK), Room k (A.deeper (envOfC qual scope s.heap.objs.size f (.ref (He.codeOf K d)))) → sp vs H Q E →
      ∃ t, PSs (cxOf CX P w K mg base N qual scope f (.ref (He.codeOf K d)) A outer s H E) body t ∧ t { nx := fun _ H' => Q .non H', rt := Q } (L2.start N vs) H) : FnOk P w K mg base CX (k + 1) f fd ps sp := by
  obtain ⟨oc, od, dV, kV, doc, pm, an, cdv, ct, osl, rfl, lk, hcd, _, _⟩ := F.ex
  obtain ⟨c, rfl⟩ := He.codeIn_ref hcd
  have e : He.codeOf K d = c := He.codeOf_eq (by rw [← hf]; exact lk) rfl
  refine fn_of lk hcd S len fun A outer s H vs Q E hr hsp => ?_
  have := hbody A outer s H vs Q E (by rw [e]; exact hr) hsp
  rw [e] at this
  exact this
theorem sl_tupK {X : Cx} {K : PySem.W.Frag} (h : X.K = K) : SlR X (rSlT K) := h ▸ sl_tup
end Own
set_option Elab.async false
set_option linter.all false
set_option maxRecDepth 100000
set_option maxHeartbeats 400000
namespace Own
open PySem PySem.Spec PyProof.Rows L2 LamX
/-! ### data whose repr is short -/
structure Rp (n m : Nat) (d : PyData) : Prop where
  lay : d.canLay0 = true
  sh : d.showable = true
  is : d.intsShort 13 = true
  w : d.weight ≤ n
  dp : d.depth ≤ m
theorem rp_all {n : Nat} : ∀ {ds : List PyData}, (∀ d ∈ ds, ∃ m, Rp n m d) → PyData.canLayAll0 ds = true ∧ PyData.showableAll ds = true ∧ PyData.intsShortAll 13 ds = true ∧ PyData.weightAll ds ≤ ds.length * (n + 1)
  | [], _ => ⟨rfl, rfl, rfl, Nat.zero_le _⟩
  | d :: ds, h => by
    obtain ⟨m, r⟩ := h d List.mem_cons_self
    obtain ⟨a1, a2, a3, a4⟩ := rp_all (ds := ds) fun e he => h e (List.mem_cons_of_mem _ he)
    refine ⟨?_, ?_, ?_, ?_⟩
    · show (d.canLay0 && PyData.canLayAll0 ds) = true
      rw [r.lay, a1]
      rfl
    · show (d.showable && PyData.showableAll ds) = true
      rw [r.sh, a2]
      rfl
    · show (d.intsShort 13 && PyData.intsShortAll 13 ds) = true
      rw [r.is, a3]
      rfl
    · show d.weight + 1 + PyData.weightAll ds ≤ (ds.length + 1) * (n + 1)
      have := r.w
      rw [Nat.add_mul, Nat.one_mul]
      omega
theorem Rp.seq {n m k : Nat} {ds : List PyData} (h : ∀ d ∈ ds, Rp n m d) (hk : ds.length ≤ k) : Rp (k * (n + 1)) (m + 1) (.list ds) ∧ Rp (k * (n + 1)) (m + 1) (.tuple ds) := by
  obtain ⟨a1, a2, a3, a4⟩ := rp_all (n := n) fun d hd => ⟨m, h d hd⟩
  have a5 := depth_all fun d hd => (h d hd).dp
  have a6 : PyData.weightAll ds ≤ k * (n + 1) := Nat.le_trans a4 (Nat.mul_le_mul_right _ hk)
  exact ⟨⟨a1, a2, a3, a6, by show PyData.depthAll ds + 1 ≤ m + 1; omega⟩, ⟨a1, a2, a3, a6, by show PyData.depthAll ds + 1 ≤ m + 1; omega⟩⟩
theorem Rp.more {n m n' m' : Nat} {d : PyData} (h : Rp n m d) (hn : n ≤ n') (hm : m ≤ m') : Rp n' m' d := ⟨h.lay, h.sh, h.is, Nat.le_trans h.w hn, Nat.le_trans h.dp hm⟩
theorem Rp.fits {n m : Nat} {d : PyData} (h : Rp n m d) (hn : n ≤ 2 ^ 20) : d.shown.length ≤ sizeLine ∧ d.hasDict = false :=
  ⟨PyData.shown_fits (B := 13) (by decide) (by decide) (PyData.leavesShort_of_canLay0 13 d h.lay h.is) (Nat.le_trans h.w hn), PyData.hasDict_of_canLay d h.lay⟩
theorem Rp.str {z : Str} (h : fok (.str z) = true) (l : z.length ≤ 100) : Rp 100 0 (.str z) := ⟨h, rfl, rfl, l, Nat.le_refl _⟩
theorem Rp.way {i : Int} (h1 : 1 ≤ i) (h2 : i ≤ 2) : Rp 100 0 (.int i) := by
  have e : i = 1 ∨ i = 2 := by omega
  rcases e with rfl | rfl
  · exact ⟨rfl, by decide +kernel, by decide +kernel, by decide +kernel, Nat.le_refl _⟩
  · exact ⟨rfl, by decide +kernel, by decide +kernel, by decide +kernel, Nat.le_refl _⟩
theorem Rp.bool (b : Bool) : Rp 100 0 (.bool b) := ⟨rfl, rfl, rfl, Nat.zero_le _, Nat.le_refl _⟩
theorem Rp.name {z : Str} (h : NameOk z) : Rp 100 0 (.str z) := Rp.str (fok_name h) (Nat.le_trans h.1 (by decide))
theorem form_len : ∀ t ∈ FORM, t.1.length ≤ 100 := by decide +kernel
theorem Rp.deed {d : Deed} (ok : DeedOk d) : Rp 707 1 d.py := by
  refine (Rp.seq (n := 100) (m := 0) (k := 7) (fun e he => ?_) (pys_len ok)).2
  obtain ⟨m, k, hm, nm, okN, nk, okW⟩ := ok
  unfold Deed.pys at he
  rcases List.mem_cons.mp he with rfl | he
  · exact Rp.str (form_facts _ hm).2.1 (form_len _ hm)
  rcases List.mem_append.mp he with he | he
  · obtain ⟨z, hz, rfl⟩ := List.mem_map.mp he
    exact Rp.name (okN z hz)
  · obtain ⟨z, hz, rfl⟩ := List.mem_map.mp he
    exact Rp.way (okW z hz).1 (okW z hz).2
theorem Rp.step {s : Str × Deed} (hn : NameOk s.1) (ok : DeedOk s.2) : Rp 1416 2 (stepPy s) := (Rp.seq (n := 707) (m := 1) (k := 2) (ds := [.str s.1, s.2.py]) (fun e he => by
  simp only [List.mem_cons, List.not_mem_nil, or_false] at he
  rcases he with rfl | rfl
  · exact (Rp.name hn).more (by decide) (by decide)
  · exact Rp.deed ok) (Nat.le_refl _)).2
theorem Rp.steps {sts : List (Str × Deed)} (h : ∀ s ∈ sts, NameOk s.1 ∧ DeedOk s.2) (l : sts.length ≤ 50) : Rp 70850 3 (.list (sts.map stepPy)) := (Rp.seq (n := 1416) (m := 2) (k := 50) (fun e he => by
  obtain ⟨s, hs, rfl⟩ := List.mem_map.mp he
  exact Rp.step (h s hs).1 (h s hs).2) (by rw [List.length_map]; exact l)).1
theorem Rp.names {ns : List Str} (h : ∀ z ∈ ns, NameOk z) (l : ns.length ≤ 50) : Rp 5050 1 (.list (ns.map PyData.str)) := (Rp.seq (n := 100) (m := 0) (k := 50) (fun e he => by
  obtain ⟨z, hz, rfl⟩ := List.mem_map.mp he
  exact Rp.name (h z hz)) (by rw [List.length_map]; exact l)).1
theorem Rp.pair {sts : List (Str × Deed)} {ns : List Str} (h : ∀ s ∈ sts, NameOk s.1 ∧ DeedOk s.2) (l : sts.length ≤ 50) (hn : ∀ z ∈ ns, NameOk z) (ln : ns.length ≤ 50) : Rp 141702 4 (.tuple [.list (sts.map stepPy), .list (ns.map PyData.str)]) := (Rp.seq (n := 70850) (m := 3) (k := 2) (fun e he => by
  simp only [List.mem_cons, List.not_mem_nil, or_false] at he
  rcases he with rfl | rfl
  · exact Rp.steps h l
  · exact (Rp.names hn ln).more (by decide) (by decide)) (Nat.le_refl _)).2
/-- repr of such -/
theorem rp_read {K : PySem.W.Frag} {H : Hp} {x : V} {d : PyData} {n m : Nat} {Q : VK} (hx : Dq [] H x d) (h : Rp n m d) (hn : n ≤ 2 ^ 20) (hm : m ≤ 64) (k : Q (.str d.shown) H) : rReprA K [x] H Q :=
  ⟨x, d, rfl, Dq.dp _ _ hx h.lay, h.sh, (h.fits hn).2, Nat.le_trans h.dp hm, (h.fits hn).1, k⟩
theorem Dq.names {N : List Addr} {H : Hp} {a : Addr} {ns : List Str} (n : a ∉ N) (h : H a = some (.lst (ns.map V.str))) : Dq N H (.ref a) (.list (ns.map PyData.str)) := .lst n h (by
  have := dq_str_of (N := N) (H := H) ns (xs := []) (ds := []) .nil
  rw [List.append_nil, List.append_nil] at this
  exact this)
theorem Dq.namesT {N : List Addr} {H : Hp} {a : Addr} {ns : List Str} (n : a ∉ N) (h : H a = some (.tup (ns.map V.str))) : Dq N H (.ref a) (.tuple (ns.map PyData.str)) := .tup n h (by
  have := dq_str_of (N := N) (H := H) ns (xs := []) (ds := []) .nil
  rw [List.append_nil, List.append_nil] at this
  exact this)
theorem wdb_names {ns : List Str} (h : ∀ z ∈ ns, NameOk z) (l : ns.length ≤ 1000) : wdb (.list (ns.map PyData.str)) = true ∧ wdb (.tuple (ns.map PyData.str)) = true := by
  have q : (decide ((ns.map PyData.str).length ≤ 1000) && (ns.map PyData.str).all vdb) = true := by
    rw [List.length_map, decide_eq_true l, Bool.true_and, List.all_eq_true]
    intro e he
    obtain ⟨z, hz, rfl⟩ := List.mem_map.mp he
    have f := fok_name (h z hz)
    have l8 := (h z hz).1
    refine vdb_of ?_
    show (_ && (decide ((0 : Nat) ≤ 50) && decide (z.length ≤ 1000))) = true
    rw [decide_eq_true (by omega : z.length ≤ 1000), Bool.and_true, Bool.and_eq_true]
    exact ⟨f, rfl⟩
  exact ⟨q, q⟩
end Own
set_option Elab.async false
set_option linter.all false
set_option maxRecDepth 100000
set_option maxHeartbeats 1000000
namespace Own
open PySem PySem.Spec PyProof.Rows L2 LamX
/-! ### names exchanged: the plain law -/
theorem exch_inr {f : Str → Str} : ∀ {sts : List (Str × Deed)} {tk : List Str} {l : List (Str × Deed)}, exch f tk sts = .inr l → l = sts.map (renS f) ∧ (sts.map fun s => f s.1).Nodup ∧ ∀ s ∈ sts, f s.1 ∉ tk
  | [], tk, l, h => by
    injection h with h
    exact ⟨h.symm, List.nodup_nil, fun s hs => by cases hs⟩
  | s :: r, tk, l, h => by
    by_cases c : f s.1 ∈ tk
    · rw [exch_hit c] at h
      cases h
    · rw [exch_go c] at h
      cases e : exch f (tk ++ [f s.1]) r with
      | inl z => rw [e] at h; cases h
      | inr l' =>
        rw [e] at h
        injection h with h
        obtain ⟨h1, h2, h3⟩ := exch_inr e
        refine ⟨by rw [← h, h1]; rfl, ?_, fun t ht => ?_⟩
        · rw [List.map_cons, List.nodup_cons]
          refine ⟨fun hm => ?_, h2⟩
          obtain ⟨t, ht, q⟩ := List.mem_map.mp hm
          exact h3 t ht (by rw [q]; simp)
        · rcases List.mem_cons.mp ht with rfl | ht
          · exact c
          · exact fun q => h3 t ht (List.mem_append_left _ q)
theorem exch_of {f : Str → Str} : ∀ {sts : List (Str × Deed)} {tk : List Str}, (sts.map fun s => f s.1).Nodup → (∀ s ∈ sts, f s.1 ∉ tk) → exch f tk sts = .inr (sts.map (renS f))
  | [], tk, _, _ => rfl
  | s :: r, tk, nd, h => by
    rw [exch_go (h s List.mem_cons_self)]
    rw [List.map_cons, List.nodup_cons] at nd
    rw [exch_of nd.2 fun t ht q => ?_]
    · rfl
    · rcases List.mem_append.mp q with q | q
      · exact h t (List.mem_cons_of_mem _ ht) q
      · exact nd.1 (List.mem_map.mpr ⟨t, ht, List.mem_singleton.mp q⟩)
theorem goes_ren {f : Str → Str} (hf : ∀ z, NameOk z → NameOk (f z)) : ∀ {xs : List (Str × Deed)} {kn kn' : List Str}, goesB kn (xs.map stepPy) = true → (∀ s ∈ xs, DeedOk s.2) → (∀ z ∈ kn, f z ∈ kn') → (xs.map fun s => f s.1).Nodup → (∀ s ∈ xs, f s.1 ∉ kn') → goesB kn' ((xs.map (renS f)).map stepPy) = true
  | [], _, _, _, _, _, _, _ => rfl
  | s :: r, kn, kn', g, od, hk, nd, hn => by
    rw [goes_cons] at g
    rw [List.map_cons, List.nodup_cons] at nd
    have okd := od s List.mem_cons_self
    rw [List.map_cons, goes_cons]
    refine ⟨step_of (hf _ g.1.1) (hn s List.mem_cons_self) (renD_ok okd hf) (fun z hz => ?_), goes_ren hf g.2 (fun t ht => od t (List.mem_cons_of_mem _ ht)) (fun z hz => ?_) nd.2 fun t ht q => ?_⟩
    · obtain ⟨y, hy, rfl⟩ := List.mem_map.mp hz
      exact hk y (g.1.names okd y hy)
    · rcases List.mem_append.mp hz with hz | hz
      · exact List.mem_append_left _ (hk z hz)
      · rw [List.mem_singleton.mp hz]
        exact List.mem_append_right _ (List.mem_singleton.mpr rfl)
    · rcases List.mem_append.mp q with q | q
      · exact hn t (List.mem_cons_of_mem _ ht) q
      · exact nd.1 (List.mem_map.mpr ⟨t, ht, List.mem_singleton.mp q⟩)
theorem StepsOk.off {sts : List (Str × Deed)} (h : StepsOk sts) : ∀ s ∈ sts, s.1 ∉ SHEET := fun s hs q => by
  obtain ⟨i, hi⟩ := List.mem_iff_getElem?.mp hs
  exact (h.at_ hi).2.1 (List.mem_append_left _ q)
theorem goes_nd : ∀ {xs : List (Str × Deed)} {kn : List Str}, goesB kn (xs.map stepPy) = true → (xs.map (·.1)).Nodup ∧ ∀ s ∈ xs, s.1 ∉ kn
  | [], _, _ => ⟨List.nodup_nil, fun s hs => by cases hs⟩
  | s :: r, kn, g => by
    rw [goes_cons] at g
    obtain ⟨h1, h2⟩ := goes_nd g.2
    refine ⟨?_, fun t ht q => ?_⟩
    · rw [List.map_cons, List.nodup_cons]
      refine ⟨fun hm => ?_, h1⟩
      obtain ⟨t, ht, q⟩ := List.mem_map.mp hm
      exact h2 t ht (by rw [q]; simp)
    · rcases List.mem_cons.mp ht with rfl | ht
      · exact g.1.2.1 q
      · exact h2 t ht (List.mem_append_left _ q)
theorem StepsOk.nd {sts : List (Str × Deed)} (h : StepsOk sts) : (sts.map (·.1)).Nodup := (goes_nd h.goes).1
theorem StepsOk.like {sts : List (Str × Deed)} (h : StepsOk sts) : LikeOk sts := ⟨fun s hs => ⟨nms_ok (h.name s hs), (h.deed s hs).1⟩, h.nd, Nat.le_trans h.len (by decide)⟩
theorem StepsOk.names_in {sts : List (Str × Deed)} (h : StepsOk sts) {s : Str × Deed} (hs : s ∈ sts) : ∀ z ∈ s.2.names, z ∈ SHEET ∨ z ∈ sts.map (·.1) := fun z hz => by
  obtain ⟨i, hi⟩ := List.mem_iff_getElem?.mp hs
  rcases List.mem_append.mp ((h.at_ hi).names (h.deed s hs).1 z hz) with q | q
  · exact .inl q
  · refine .inr ?_
    obtain ⟨t, ht, rfl⟩ := List.mem_map.mp q
    exact List.mem_map.mpr ⟨t, List.mem_of_mem_take ht, rfl⟩
theorem turnF_off {sts : List (Str × Deed)} {tb : List (Str × Str)} {z : Str} (h : z ∉ sts.map (·.1)) : turnF sts tb z = z := if_neg h
theorem StepsOk.sheetF {sts : List (Str × Deed)} (h : StepsOk sts) (tb : List (Str × Str)) : ∀ z ∈ SHEET, turnF sts tb z = z := fun z hz => turnF_off fun q => by
  obtain ⟨s, hs, rfl⟩ := List.mem_map.mp q
  exact h.off s hs hz
theorem turnF_nms {sts : List (Str × Deed)} {tb : List (Str × Str)} (ht : TbOk tb) {z : Str} (hz : z ∈ NMS) : turnF sts tb z ∈ NMS := by
  unfold turnF
  split
  · cases e : tb.lookup z with
    | none => exact hz
    | some v => exact (ht _ (look_mem e)).2
  · exact hz
theorem turnF_ok {sts : List (Str × Deed)} {tb : List (Str × Str)} (ht : TbOk tb) {z : Str} (hz : NameOk z) : NameOk (turnF sts tb z) := by
  unfold turnF
  split
  · exact meanF_ok (fun e he => nms_ok (ht e he).2) hz
  · exact hz
/-- what is due is a drawing -/
theorem StepsOk.ren {sts due : List (Str × Deed)} {tb : List (Str × Str)} (h : StepsOk sts) (ht : TbOk tb) (e : exch (turnF sts tb) SHEET sts = .inr due) : StepsOk due := by
  obtain ⟨rfl, nd, off⟩ := exch_inr e
  refine ⟨by rw [List.length_map]; exact h.len, goes_ren (fun z hz => turnF_ok ht hz) h.goes (fun s hs => (h.deed s hs).1) (fun z hz => by rw [h.sheetF tb z hz]; exact hz) nd off, fun s hs => ?_, fun s hs => ?_⟩
  · obtain ⟨t, ht', rfl⟩ := List.mem_map.mp hs
    exact turnF_nms ht (h.name t ht')
  · obtain ⟨t, ht', rfl⟩ := List.mem_map.mp hs
    refine ⟨renD_ok (h.deed t ht').1 fun z hz => turnF_ok ht hz, fun z hz => ?_⟩
    obtain ⟨y, hy, rfl⟩ := List.mem_map.mp hz
    exact turnF_nms ht ((h.deed t ht').2 y hy)
theorem look_map {f : Str → Str} {z : Str} : ∀ {ns : List Str}, (ns.zip (ns.map f)).lookup z = if z ∈ ns then some (f z) else none
  | [] => rfl
  | n :: ns => by
    rw [List.map_cons, List.zip_cons_cons]
    by_cases c : z = n
    · subst c
      simp [List.lookup]
    · have c' : (z == n) = false := by simpa using c
      simp only [List.lookup, c']
      rw [look_map]
      simp [c]
theorem tbOf_ren (sts : List (Str × Deed)) (f : Str → Str) : tbOf sts (sts.map (renS f)) = (sts.map (·.1)).zip ((sts.map (·.1)).map f) := by
  unfold tbOf
  rw [List.map_map, List.map_map]
  rfl
/-- the dict found means what was exchanged -/
theorem mean_turn {sts : List (Str × Deed)} {tb : List (Str × Str)} (z : Str) : meanF (tbOf sts (sts.map (renS (turnF sts tb)))) z = turnF sts tb z := by
  unfold meanF
  rw [tbOf_ren, look_map]
  by_cases c : z ∈ sts.map (·.1)
  · rw [if_pos c]
    rfl
  · rw [if_neg c, turnF_off c]
    rfl
theorem turn_turn {sts : List (Str × Deed)} {tb : List (Str × Str)} : turnF sts (tbOf sts (sts.map (renS (turnF sts tb)))) = turnF sts tb := funext fun z => by
  by_cases c : z ∈ sts.map (·.1)
  · have := mean_turn (sts := sts) (tb := tb) z
    unfold meanF at this
    exact Eq.trans (show turnF sts _ z = _ from if_pos c) this
  · rw [turnF_off c, turnF_off c]
theorem like_due {sts : List (Str × Deed)} {tb : List (Str × Str)} : likeB sts (sts.map (renS (turnF sts tb))) = true := by
  unfold likeB
  rw [List.length_map, decide_eq_true rfl, Bool.true_and, decide_eq_true_iff]
  unfold madeL
  have e : meanF (tbOf sts (sts.map (renS (turnF sts tb)))) = turnF sts tb := funext mean_turn
  rw [e]
  have gen : ∀ (f : Str → Str) (xs : List (Str × Deed)), ((xs.zip (xs.map (renS f))).map fun q => (q.2.1, renD f q.1.2)) = xs.map (renS f) := fun f xs => by
    induction xs with
    | nil => rfl
    | cons x xs ih =>
      rw [List.map_cons, List.zip_cons_cons, List.map_cons, ih]
      rfl
  exact gen _ _
theorem look_app {z : Str} : ∀ {xs ys : List (Str × Str)}, (xs ++ ys).lookup z = (xs.lookup z).or (ys.lookup z)
  | [], _ => rfl
  | (a, b) :: xs, ys => by
    by_cases c : z = a
    · subst c
      simp [List.lookup]
    · have c' : (z == a) = false := by simpa using c
      rw [List.cons_append]
      simp only [List.lookup, c']
      exact look_app
theorem look_some {z : Str} {tb : List (Str × Str)} (h : z ∈ tb.map (·.1)) : ∃ v, tb.lookup z = some v := by
  induction tb with
  | nil => cases h
  | cons e tb ih =>
    obtain ⟨a, b⟩ := e
    by_cases c : z = a
    · subst c
      exact ⟨b, by simp [List.lookup]⟩
    · have c' : (z == a) = false := by simpa using c
      simp only [List.lookup, c']
      exact ih (by simpa [c] using h)
theorem match_gen : ∀ (r r' : List (Str × Deed)) (pre : List (Str × Str)), r.length = r'.length → (∀ j s, r[j]? = some s → ∀ z ∈ s.2.names, meanF (pre ++ (tbOf r r').take j) z = meanF (pre ++ tbOf r r') z) →
    matchF pre r r' = if (∀ q ∈ r.zip r', renD (meanF (pre ++ tbOf r r')) q.1.2 = q.2.2) then some (pre ++ tbOf r r') else none
  | [], [], pre, _, _ => by
    rw [if_pos (fun q hq => by cases hq)]
    show some pre = some (pre ++ [])
    rw [List.append_nil]
  | [], _ :: _, _, h, _ => by cases h
  | _ :: _, [], _, h, _ => by cases h
  | s :: r, t :: r', pre, h, hc => by
    have e0 : pre ++ tbOf (s :: r) (t :: r') = (pre ++ [(s.1, t.1)]) ++ tbOf r r' := by
      rw [List.append_assoc]
      rfl
    have e1 : renD (meanF pre) s.2 = renD (meanF (pre ++ tbOf (s :: r) (t :: r'))) s.2 := by
      unfold renD
      congr 1
      refine List.map_congr_left fun z hz => ?_
      have := hc 0 s rfl z hz
      rw [List.take_zero, List.append_nil] at this
      exact this
    show (if renD (meanF pre) s.2 = t.2 then matchF (pre ++ [(s.1, t.1)]) r r' else none) = _
    rw [e1]
    have ih := match_gen r r' (pre ++ [(s.1, t.1)]) (by simpa using h) fun j u hu z hz => by
      have := hc (j + 1) u hu z hz
      rw [← e0]
      have e2 : pre ++ (tbOf (s :: r) (t :: r')).take (j + 1) = (pre ++ [(s.1, t.1)]) ++ (tbOf r r').take j := by
        rw [List.append_assoc]
        rfl
      rw [e2] at this
      exact this
    rw [ih, ← e0]
    by_cases c : renD (meanF (pre ++ tbOf (s :: r) (t :: r'))) s.2 = t.2
    · rw [if_pos c]
      by_cases c2 : ∀ q ∈ r.zip r', renD (meanF (pre ++ tbOf (s :: r) (t :: r'))) q.1.2 = q.2.2
      · rw [if_pos c2, if_pos]
        intro q hq
        rw [List.zip_cons_cons] at hq
        rcases List.mem_cons.mp hq with rfl | hq
        · exact c
        · exact c2 q hq
      · rw [if_neg c2, if_neg]
        exact fun q => c2 fun u hu => q u (List.mem_cons_of_mem _ hu)
    · rw [if_neg c, if_neg]
      exact fun q => c (q (s, t) List.mem_cons_self)
theorem made_iff {g : Str → Str} : ∀ {one other : List (Str × Deed)}, one.length = other.length → (((one.zip other).map fun q => (q.2.1, renD g q.1.2)) = other ↔ ∀ q ∈ one.zip other, renD g q.1.2 = q.2.2)
  | [], [], _ => ⟨(fun _ q hq => by cases hq), fun _ => rfl⟩
  | [], _ :: _, h => by cases h
  | _ :: _, [], h => by cases h
  | s :: r, t :: r', h => by
    rw [List.zip_cons_cons, List.map_cons, List.cons.injEq, made_iff (by simpa using h)]
    constructor
    · rintro ⟨h1, h2⟩ q hq
      rcases List.mem_cons.mp hq with rfl | hq
      · exact congrArg Prod.snd h1
      · exact h2 q hq
    · intro h1
      exact ⟨Prod.ext rfl (h1 (s, t) List.mem_cons_self), fun q hq => h1 q (List.mem_cons_of_mem _ hq)⟩
theorem match_like {one other : List (Str × Deed)} (ok : StepsOk one) (hl : one.length = other.length) : matchF [] one other = if likeB one other = true then some (tbOf one other) else none := by
  have kt := tb_keys hl
  rw [match_gen one other [] hl fun j s hj z hz => ?_, List.nil_append]
  · have e : likeB one other = true ↔ ∀ q ∈ one.zip other, renD (meanF (tbOf one other)) q.1.2 = q.2.2 := by
      rw [← made_iff hl]
      unfold likeB
      rw [decide_eq_true hl, Bool.true_and, decide_eq_true_iff]
      rfl
    by_cases c : likeB one other = true
    · rw [if_pos c, if_pos (e.mp c)]
    · rw [if_neg c, if_neg fun q => c (e.mpr q)]
  · rw [List.nil_append, List.nil_append]
    have okd := ok.deed s (List.mem_of_getElem? hj)
    unfold meanF
    have sp : tbOf one other = (tbOf one other).take j ++ (tbOf one other).drop j := (List.take_append_drop j _).symm
    rcases List.mem_append.mp ((ok.at_ hj).names okd.1 z hz) with q | q
    · have no : z ∉ (tbOf one other).map (·.1) := fun h => by
        rw [kt] at h
        obtain ⟨u, hu, rfl⟩ := List.mem_map.mp h
        exact ok.off u hu q
      rw [look_none no, look_none fun h => no (by
        obtain ⟨e, he, q2⟩ := List.mem_map.mp h
        exact List.mem_map.mpr ⟨e, List.mem_of_mem_take he, q2⟩)]
    · have yes : z ∈ ((tbOf one other).take j).map (·.1) := by
        rw [List.map_take, kt, ← List.map_take]
        exact q
      obtain ⟨v, hv⟩ := look_some yes
      conv => rhs; rw [sp, look_app, hv]
      rw [hv]
      rfl
/-- and back -/
theorem back_turn {sts due : List (Str × Deed)} {tb : List (Str × Str)} (h : StepsOk sts) (ht : TbOk tb) (e : exch (turnF sts tb) SHEET sts = .inr due) : exch (turnF due (tbOf due sts)) SHEET due = .inr sts := by
  have hd := h.ren ht e
  obtain ⟨rfl, nd, off⟩ := exch_inr e
  have nz : ∀ z, z ∈ sts.map (·.1) → turnF (sts.map (renS (turnF sts tb))) (tbOf (sts.map (renS (turnF sts tb))) sts) (turnF sts tb z) = z := fun z hz => by
    obtain ⟨s, hs, rfl⟩ := List.mem_map.mp hz
    obtain ⟨i, hi⟩ := List.mem_iff_getElem?.mp hs
    have hi2 : (sts.map (renS (turnF sts tb)))[i]? = some (renS (turnF sts tb) s) := by rw [List.getElem?_map, hi]; rfl
    have l := look_at (by rw [tb_keys (by rw [List.length_map])]; exact hd.nd) (tb_at hi2 hi)
    have m : turnF sts tb s.1 ∈ (sts.map (renS (turnF sts tb))).map (·.1) := List.mem_map.mpr ⟨_, List.mem_map.mpr ⟨s, hs, rfl⟩, rfl⟩
    refine Eq.trans (show turnF (sts.map (renS (turnF sts tb))) _ _ = _ from if_pos m) ?_
    have l : (tbOf (sts.map (renS (turnF sts tb))) sts).lookup (turnF sts tb s.1) = some s.1 := l
    rw [l]
    rfl
  have sz : ∀ z, z ∈ SHEET → turnF (sts.map (renS (turnF sts tb))) (tbOf (sts.map (renS (turnF sts tb))) sts) (turnF sts tb z) = z := fun z hz => by
    rw [h.sheetF tb z hz]
    exact hd.sheetF _ z hz
  generalize hg : turnF (sts.map (renS (turnF sts tb))) (tbOf (sts.map (renS (turnF sts tb))) sts) = g at nz sz
  have e1 : (sts.map (renS (turnF sts tb))).map (renS g) = sts := by
    rw [List.map_map]
    refine (List.map_congr_left fun s hs => ?_).trans (List.map_id _)
    have a1 : g (turnF sts tb s.1) = s.1 := nz _ (List.mem_map.mpr ⟨s, hs, rfl⟩)
    have a2 : (s.2.names.map (turnF sts tb)).map g = s.2.names := by
      rw [List.map_map]
      refine (List.map_congr_left fun z hz => ?_).trans (List.map_id _)
      rcases h.names_in hs z hz with q | q
      · exact sz z q
      · exact nz z q
    show (g (turnF sts tb s.1), (⟨s.2.word, (s.2.names.map (turnF sts tb)).map g, s.2.way⟩ : Deed)) = s
    rw [a1, a2]
  have e2 : ((sts.map (renS (turnF sts tb))).map fun s => g s.1) = sts.map (·.1) := by
    have := congrArg (List.map (·.1)) e1
    rw [List.map_map] at this
    exact this
  have := exch_of (f := g) (tk := SHEET) (sts := sts.map (renS (turnF sts tb))) (by rw [e2]; exact h.nd) fun s hs q => ?_
  · rw [e1] at this
    exact this
  · have m : g s.1 ∈ sts.map (·.1) := by
      rw [← e2]
      exact List.mem_map.mpr ⟨s, hs, rfl⟩
    obtain ⟨t, ht2, q2⟩ := List.mem_map.mp m
    rw [← q2] at q
    exact h.off t ht2 q
theorem chest_ren (f : Str → Str) (sts : List (Str × Deed)) : chestOf (sts.map (renS f)) = chestOf sts := by
  unfold chestOf
  rw [List.map_map]
  rfl
theorem tb_flip {one other : List (Str × Deed)} : (tbOf one other).map (fun e => (e.2, e.1)) = tbOf other one := by
  unfold tbOf
  generalize one.map (·.1) = xs
  generalize other.map (·.1) = ys
  induction xs generalizing ys with
  | nil => cases ys <;> rfl
  | cons x xs ih =>
    cases ys with
    | nil => rfl
    | cons y ys => rw [List.zip_cons_cons, List.map_cons, ih, List.zip_cons_cons]
end Own
set_option Elab.async false
set_option linter.all false
set_option maxRecDepth 100000
set_option maxHeartbeats 1000000
namespace Own
open PySem PySem.Spec PyProof.Rows L2 LamX
/-! ### the exchange judged -/
def swp {α : Type} : List α → List α
  | [u, v] => [v, u]
  | w => w
theorem kb_swap {K : PySem.W.Frag} {x qual : Str} {params : Arguments} {body : List Stmt} {scope : Scope} {kws : List (Str × V)} {f : Addr} {fd : FuncData} {p q : Str} (F : FunD K x qual params body scope [] kws f fd)
    (h : ∀ (kV doc pm : Value) (an : Option Addr) (cdv ct u v : Value), bindArgs (PySem.W.fnOf x qual params body scope .none kV doc pm an cdv ct) ⟨[], [(q, u), (p, v)]⟩ = pure [(p, v), (q, u)]) : KBn K fd [p, q] 0 [q, p] (fun _ ws => swp ws) (fun _ zs => swp zs) := by
  obtain ⟨oc, od, dV, kV, doc, pm, an, cdv, ct, osl, rfl, lk, hcd, hD, hK⟩ := F.ex
  refine ⟨fun s us ws X l1 l2 => ?_, fun {vs us zs ws} _ r => ?_⟩
  · match us, ws, l1, l2 with
    | [], [u, v], _, _ =>
      rcases hD with ⟨_, rfl⟩ | ⟨e, _⟩
      · exact .of_eq (h kV doc pm an cdv ct u v)
      · exact absurd rfl e
  · cases r with
    | nil => exact .nil
    | cons r1 r =>
      cases r with
      | nil => exact .cons r1 .nil
      | cons r2 r =>
        cases r with
        | nil => exact .cons r2 (.cons r1 .nil)
        | cons r3 r => exact .cons r1 (.cons r2 (.cons r3 r))
theorem pe_bmK {X : Cx} {K : PySem.W.Frag} {T id : String} {name : Str} {r : V → List V → Hp → VK → Prop} {o e : Expr} {es : List Expr} {to : TE} {t : TA} {apos cpos : Pos} (hK : X.K = K) (pa : PlainAttrs T) (slot : Slot T name id) (hty : typeOf (.builtin id) = pure (.type "method_descriptor")) (hm : MtR X id r) (ho : PE X o to) (ha : PA X (e :: es) t)
    (hbase : attributeBase o name X.env (eval o X.env) = eval o X.env := by rfl)
    (hfew : ((backTo cpos (starEach (e :: es) X.env)).all (fun x => !x.1) && (backToKw cpos (keywordEach [] X.env)).all (fun x => x.1.isSome)
      && decide ((e :: es).length + ([] : List Keyword).length + (if ([] : List Keyword).isEmpty then 0 else 1) < 30)) = true := by rfl)
    (hline : (apos.endLine == cpos.line) = true := by rfl) (hs : starEach (e :: es) X.env = (false, eval e X.env) :: starEach es X.env := by rfl) (hplain : (backTo cpos (starEach es X.env)).any (·.1) = false := by rfl) :
    PE X (.Call (.Attribute o name apos) (e :: es) [] cpos) (tBM K T r to t) := hK ▸ pe_bm pa slot hty hm ho ha hbase hfew hline hs hplain
/-! #### repr of both -/
theorem leaves_name {z : Str} (h : NameOk z) : (PyData.str z).leavesShort 13 = true := PyData.leavesShort_of_canLay0 13 (.str z) (fok_name h) rfl
theorem tb_leaves : ∀ {tb : List (Str × Str)}, (∀ e ∈ tb, NameOk e.1 ∧ NameOk e.2) → PyData.leavesShortKv 13 (tb.map fun e => (PyData.str e.1, PyData.str e.2)) = true ∧ PyData.weightKv (tb.map fun e => (PyData.str e.1, PyData.str e.2)) ≤ 18 * tb.length
  | [], _ => ⟨rfl, Nat.le_refl _⟩
  | e :: tb, h => by
    obtain ⟨h1, h2⟩ := h e List.mem_cons_self
    obtain ⟨a, b⟩ := tb_leaves (tb := tb) fun x hx => h x (List.mem_cons_of_mem _ hx)
    constructor
    · show ((PyData.str e.1).leavesShort 13 && (PyData.str e.2).leavesShort 13 && PyData.leavesShortKv 13 _) = true
      rw [leaves_name h1, leaves_name h2, a]
      rfl
    · show (PyData.str e.1).weight + (PyData.str e.2).weight + 2 + PyData.weightKv _ ≤ 18 * (tb.length + 1)
      have w1 : (PyData.str e.1).weight ≤ 8 := h1.1
      have w2 : (PyData.str e.2).weight ≤ 8 := h2.1
      omega
def keptS (sts : List (Str × Deed)) (tb : List (Str × Str)) : Str := (PyData.tuple [.list (sts.map stepPy), tbD tb]).shown
theorem td_read {K : PySem.W.Frag} {H : Hp} {t b l : Addr} {ws : List V} {sts : List (Str × Deed)} {tb : List (Str × Str)} {Q : VK} (ht : H t = some (.tup [.ref l, .ref b])) (hl : H l = some (.lst ws)) (f2 : F2 (Dq [] H) ws (sts.map stepPy)) (rp : ∀ s ∈ sts, NameOk s.1 ∧ DeedOk s.2) (l50 : sts.length ≤ 50)
    (hb : H b = some (.dK (tbK tb))) (nm : ∀ e ∈ tb, NameOk e.1 ∧ NameOk e.2) (lt : tb.length ≤ 50) (k : Q (.str (keptS sts tb)) H) : rReprTD K [.ref t] H Q := by
  have R := Rp.steps rp l50
  obtain ⟨a, b'⟩ := tb_leaves nm
  have wd := R.w
  have ls := PyData.leavesShort_of_canLay0 13 _ R.lay R.is
  have l2 : (tbD tb).leavesShort 13 = true := a
  have w2 : (tbD tb).weight ≤ 900 := Nat.le_trans b' (by omega)
  have e20 : (2 : Nat) ^ 20 = 1048576 := by decide
  refine ⟨t, b, .ref l, _, tb, rfl, ht, hb, Dq.dp _ _ (.lst (by simp) hl (DqAll.of f2)) R.lay, R.sh, (R.fits (by decide)).2, Nat.le_trans R.dp (by decide), (R.fits (by decide)).1, PyData.shown_fits (B := 13) (by decide) (by decide) l2 (by omega), PyData.shown_fits (B := 13) (by decide) (by decide) ?_ ?_, k⟩
  · show (PyData.leavesShort 13 (.list (sts.map stepPy)) && ((tbD tb).leavesShort 13 && true)) = true
    rw [ls, l2]
    rfl
  · show (PyData.list (sts.map stepPy)).weight + 1 + ((tbD tb).weight + 1 + 0) ≤ 2 ^ 20
    omega
theorem Tabs.offL {TT : List (Addr × Str)} {H : Hp} {b : Addr} {l : List V} (T : Tabs TT H) (hb : H b = some (.lst l)) (o : HO) : Tabs TT (L2.upd H b o) := by
  intro p hp
  obtain ⟨ps, h1, h2, h3⟩ := T p hp
  refine ⟨ps, by rw [upd_ne (ne_of h1 hb (by intro z; cases z))]; exact h1, h2, fun pos cv hc => ?_⟩
  obtain ⟨c, e1, e2⟩ := h3 pos cv hc
  exact ⟨c, e1, by rw [upd_ne (ne_of e2 hb (by intro z; cases z))]; exact e2⟩
theorem Tabs.offD {TT : List (Addr × Str)} {H : Hp} {b : Addr} {l : List (Key × V)} (T : Tabs TT H) (hb : H b = some (.dK l)) (o : HO) : Tabs TT (L2.upd H b o) := by
  intro p hp
  obtain ⟨ps, h1, h2, h3⟩ := T p hp
  refine ⟨ps, by rw [upd_ne (ne_of h1 hb (by intro z; cases z))]; exact h1, h2, fun pos cv hc => ?_⟩
  obtain ⟨c, e1, e2⟩ := h3 pos cv hc
  exact ⟨c, e1, by rw [upd_ne (ne_of e2 hb (by intro z; cases z))]; exact e2⟩
theorem f2_off {H : Hp} {b : Addr} {u : HO} (hb : H b = some u) (nu : ∀ l, u ≠ .tup l) (o : HO) : ∀ {us : List V} {sts : List (Str × Deed)}, F2 (Dq [] H) us (sts.map stepPy) → F2 (Dq [] (L2.upd H b o)) us (sts.map stepPy)
  | [], [], _ => .nil
  | [], _ :: _, h => by cases h
  | _ :: _, [], h => by cases h
  | _ :: _, _ :: _, .cons h1 h2 => by
    obtain ⟨c, p, rfl, _, hc, _, hp⟩ := dq_stepA h1
    refine .cons (.tup (by simp) (by rw [upd_ne (ne_of hc hb (nu _).symm)]; exact hc) (.cons (.str _) (.cons (Dq.of_deed (by simp) ?_) .nil))) (f2_off hb nu o h2)
    rw [upd_ne (ne_of hp hb (nu _).symm)]
    exact hp
theorem rp_ok {K : PySem.W.Frag} {H : Hp} {x : V} {d : PyData} {n m : Nat} (hx : Dq [] H x d) (h : Rp n m d) (hn : n ≤ 2 ^ 20) (hm : m ≤ 64) : Dp K H x d ∧ d.showable = true ∧ d.hasDict = false ∧ d.depth ≤ 64 ∧ d.shown.length ≤ sizeLine :=
  ⟨Dq.dp _ _ hx h.lay, h.sh, (h.fits hn).2, Nat.le_trans h.dp hm, (h.fits hn).1⟩
theorem inj_nd {α β : Type} {g : α → β} : ∀ {l : List α}, (l.map g).Nodup → ∀ a ∈ l, ∀ b ∈ l, g a = g b → a = b
  | [], _, a, h, _, _, _ => by cases h
  | x :: l, nd, a, ha, b, hb, e => by
    rw [List.map_cons, List.nodup_cons] at nd
    rcases List.mem_cons.mp ha with ea | ha'
    · rcases List.mem_cons.mp hb with eb | hb'
      · rw [ea, eb]
      · exact absurd (List.mem_map.mpr ⟨b, hb', by rw [← e, ea]⟩) nd.1
    · rcases List.mem_cons.mp hb with eb | hb'
      · exact absurd (List.mem_map.mpr ⟨a, ha', by rw [e, eb]⟩) nd.1
      · exact inj_nd nd.2 a ha' b hb' e
theorem turn_lay {sts due : List (Str × Deed)} {tb : List (Str × Str)} (ok : StepsOk sts) (ed : exch (turnF sts tb) SHEET sts = .inr due) : (layAll due).2 = (layAll sts).2.map (renS (turnF sts tb)) := by
  obtain ⟨rfl, nd, off⟩ := exch_inr ed
  refine ren_lay (S := fun z => z ∈ SHEET ∨ z ∈ sts.map (·.1)) (fun x y hx hy e => ?_) (fun z hz => ⟨.inl hz, ok.sheetF tb z hz⟩) fun s hs => ⟨.inr (List.mem_map.mpr ⟨s, hs, rfl⟩), fun z hz => ok.names_in hs z hz⟩
  rcases hx with hx | hx
  · rcases hy with hy | hy
    · rwa [ok.sheetF tb x hx, ok.sheetF tb y hy] at e
    · obtain ⟨t, ht, rfl⟩ := List.mem_map.mp hy
      rw [ok.sheetF tb x hx] at e
      exact absurd hx (by rw [e]; exact off t ht)
  · obtain ⟨s, hs, rfl⟩ := List.mem_map.mp hx
    rcases hy with hy | hy
    · rw [ok.sheetF tb y hy] at e
      exact absurd hy (by rw [← e]; exact off s hs)
    · obtain ⟨t, ht, rfl⟩ := List.mem_map.mp hy
      have := inj_nd nd s hs t ht e
      rw [this]
theorem layFold_sub : ∀ (sts : List (Str × Deed)) (st : LaySt), ∀ s ∈ (sts.foldl layStep st).2, s ∈ st.2 ∨ s ∈ sts
  | [], _, s, h => .inl h
  | t :: sts, st, s, h => by
    rcases layFold_sub sts (layStep st t) s h with q | q
    · unfold layStep at q
      split at q
      · split at q
        · rcases List.mem_append.mp q with q | q
          · exact .inl q
          · exact .inr (by rw [List.mem_singleton.mp q]; exact List.mem_cons_self)
        · exact .inl q
      · exact .inl q
    · exact .inr (List.mem_cons_of_mem _ q)
theorem layAll_sub {sts : List (Str × Deed)} : ∀ s ∈ (layAll sts).2, s ∈ sts := fun s hs => by
  rcases layFold_sub sts _ s hs with q | q
  · cases q
  · exact q
theorem layFold_len : ∀ (sts : List (Str × Deed)) (st : LaySt), (sts.foldl layStep st).2.length ≤ st.2.length + sts.length
  | [], _ => Nat.le_refl _
  | t :: sts, st => by
    have h1 := layFold_len sts (layStep st t)
    have h2 := (layStep_len st t).2
    show ((sts.foldl layStep (layStep st t)).2).length ≤ _
    rw [List.length_cons]
    omega
theorem layAll_len (sts : List (Str × Deed)) : (layAll sts).2.length ≤ sts.length := by
  have := layFold_len sts (SHEET.zip SHP, [])
  exact Nat.le_trans this (by show 0 + sts.length ≤ sts.length; omega)
theorem zip_in {f : Str → Str} {z : Str} : ∀ {ns : List Str}, z ∈ ns → (z, f z) ∈ ns.zip (ns.map f)
  | n :: ns, h => by
    rw [List.map_cons, List.zip_cons_cons]
    rcases List.mem_cons.mp h with rfl | h
    · exact List.mem_cons_self
    · exact List.mem_cons_of_mem _ (zip_in h)
theorem tnil_in {σ : L2.St} {H : Hp} {Q : List V → Hp → Prop} (h : Q [] H) : tNil σ H Q := h
theorem par_gen {i j : Nat} {te : TE} {ta : TA} {D : Ends} {σ : L2.St} {H : Hp} (C : V → Hp → Prop) (h : ∀ Q : VK, (∀ x H, C x H → Q x H) → te σ H Q) (k : ∀ x H1, C x H1 → ta σ H1 fun vs H2 => ∃ v w, x :: vs = [v, w] ∧ D.nx ((σ.set i (some v)).set j (some w)) H2) : tPar i j (tCons te ta) D σ H := h _ k
theorem call_str {K : PySem.W.Frag} {H : Hp} {z : Str} {d : PyData} {N : List Addr} {v : V} (h : Dq N H v d) : TyX K H v (.type (tyOf d)) := h.ty
/-- what it calls -/
structure RRK (P : Program) (w : World) (K : PySem.W.Frag) (mg : Str → Option Value) (base : Heap) (CB CT CC CR fC fI : Addr) (dE dM dR dL dH dY dC : FuncData) : Prop where
  e : Fk P w K mg base CX0 4 "_law_exchanged" dE ["_law_steps", "_law_table_here"] spExch
  m : Fk P w K mg base CX0 4 "_law_matched" dM ["_law_one", "_law_other"] spMatched
  fn : FnP K "renamed" sRenamed (He.ga K "renamed") dR
  r : Fk P w K mg base (L2.CX P w) 8 "renamed" dR ["steps", "table"] (spRenamed NOW CB CT CC)
  l : Fk P w K mg base (L2.CX P w) 8 "like" dL ["one", "other"] (spLike NOW CB)
  c : Fk P w K mg base CX0 8 "chest_of" dH ["steps"] (spChest NOW)
  y : Fk P w K mg base CX0 10 "layable" dY ["steps"] (spLayable NOW)
  fc : FnP K "_law_caught" sCaught fC dC
  gc : mg "_law_caught" = some (.ref fC)
  gr : mg "RulerError" = some (.ref CR)
  sn : SupX.Has P K mg tCl CC fI
  cs : ExcC K CC
  xfs : XfC K CC
  xs : PySem.W.exmOne K (.ref CC) (.ref CR) = some true
  gt : mg "BadTable" = some (.ref CT)
  no : PySem.W.kitOne K (.ref CC) (.ref CT) = some false
  t : Txt K mg
abbrev nsRR : List Str := ["_law_state", "_law_steps", "_law_table_here", "_law_due", "_law_kept", "_law_found", "_law_error", "_law_turn", "_law_back", "_law_name_here", "_law_deed_here"]
abbrev envRR (K : PySem.W.Frag) (s : Shared) : Env := envOfC "_law_renamed_right" (defScope sRenR) s.heap.objs.size (He.ga K "_law_renamed_right") (.ref (He.codeOf K ("_law_renamed_right", none)))
section
variable {P : Program} {w : World} {K : PySem.W.Frag} {mg : Str → Option Value} {base : Heap} {CB CT CC CR fC fI tn tl : Addr} {fd2 dE dM dR dL dH dY dC : FuncData}
theorem scRR : FnScope nsRR ["_law_state", "_law_steps", "_law_table_here"] (defScope sRenR) := ⟨rfl, rfl, rfl, by decide +kernel, rfl, by decide +kernel, by decide +kernel⟩
theorem rr_term (Z : RRK P w K mg base CB CT CC CR fC fI dE dM dR dL dH dY dC) (TB : TabB base mg (He.codeOf K ("_law_renamed_right", none)) tn) (A2 : tn ≠ tl) (A : Around) (outer : List Env) (s : Shared) (H : Hp) (E : XK) (hg : (A.deeper (envRR K s)).guards = some []) (hr : Room 10 (A.deeper (envRR K s))) :
    ∃ u, PSs (cxOf CX0 P w K mg base nsRR "_law_renamed_right" (defScope sRenR) (He.ga K "_law_renamed_right") (.ref (He.codeOf K ("_law_renamed_right", none))) A outer s H E).nox (defBody sRenR) u ∧
      ∀ (D : Ends) (G : Hp) (v0 : Option V) (l b : Addr) (ws : List V) (sts : List (Str × Deed)) (tb : List (Str × Str)), G l = some (.lst ws) → F2 (Dq [] G) ws (sts.map stepPy) → StepsOk sts → sts.length ≤ 5 → G b = some (.dK (tbK tb)) → tb.length ≤ 12 → TbOk tb → Tabs (TTs tn tl) G →
        (∀ G', ExtN G G' → Tabs (TTs tn tl) G' → D.rt (.bl true) G') → u D [v0, some (.ref l), some (.ref b), none, none, none, none, none, none, none, none] G := by
  have T := Z.t
  have hu := hu_of hr
  have hu1 : (A.deeper (envRR K s)).units + 100 < cLine := by have := hr.un; omega
  have hr4 := hr.mono (show 4 ≤ 10 by decide)
  have hr8 := hr.mono (show 8 ≤ 10 by decide)
  have mtn : (tn, qTR) ∈ TTs tn tl := List.mem_cons_self
  have kN := kb_swap Z.fn (p := "steps") (q := "table") fun _ _ _ _ _ _ _ _ => rfl
  refine ⟨_, pss_cons (ps_par (i := 3) (j := 4) (by rfl) scRR.nd rfl rfl (by decide) rfl rfl (pa_cons (pe_call Z.e.ok hr4 (by rfl) Z.e.g Z.e.kp Z.e.b .nil pass0 (pa_cons (pv 1) (pa_cons (pv 2) pa_nil))) (pa_cons (pe_callB (call_reprTD hg hu1) (by rfl) T.repr (by decide +kernel) (pa_cons (pe_tup (pa_cons (pv 1) (pa_cons (pv 2) pa_nil))) pa_nil)) pa_nil)) (by rfl))
    (pss_cons (ps_set (i := 5) scRR.nd rfl (.inr rfl) (pe_lst pa_nil))
    (pss_cons (ps_set (i := 6) scRR.nd rfl (.inl rfl) (pe_caught (k := 8) Z.fc Z.gc (by rfl) Z.gr TB rfl mtn (TTs.t A2) hr (sc := defScope sRenR) rfl (lamS_by (by decide +kernel)) rfl (fun _ _ _ _ _ => rfl)
            (fun A' outer' s' H' E' f' c' hrr => pe_bmK (K := K) rfl PySem.F.plainAttrs_list PySem.F.slot_list_append PySem.F.type_list_append mt_append (pv 5) (pa_cons (pe_kw0 Z.r.ok hrr (by rfl) Z.r.g Z.r.kp kN (passes_call (takes_of rfl rfl rfl rfl) fun _ _ _ _ h => h) (pk_cons (pv 2) (pk_cons (pv 1) pk_nil))) pa_nil))))
    (pss_cons (ps_if (pt_cmpR op_ne (pe_callB (call_reprTD hg hu1) (by rfl) T.repr (by decide +kernel) (pa_cons (pe_tup (pa_cons (pv 1) (pa_cons (pv 2) pa_nil))) pa_nil)) (pv 4) (nomark _)) (pss_one (ps_ret pe_bl)) pss_nil)
    (pss_cons (ps_if (pt_val (pe_callB call_isi (by rfl) T.isi boot_isinstance (pa_cons (pv 3) (pa_cons (pe_bltn (v := .ty "str") (by rfl) T.str (by decide +kernel) rfl) pa_nil)))) (pss_one (ps_ret (pe_and (pe_callB call_isD (by rfl) T.isi boot_isinstance (pa_cons (pv 6) (pa_cons (pe_glob (v := .ref CC) (by rfl) Z.sn.gC rfl) pa_nil)))
        (pe_and (pe_cmpR op_eq (pe_kf (pv 6)) (pv 3) (nomark _)) (pe_one (pe_not (pe_callB call_isD (by rfl) T.isi boot_isinstance (pa_cons (pv 6) (pa_cons (pe_glob (v := .ref CT) (by rfl) Z.gt rfl) pa_nil))))))))) pss_nil)
    (pss_cons (ps_if (PW.pt (pw_or (pt_cmpR op_notN (pv 6) pe_non (nomark _)) (pw_or (pt_not (pt_val (pe_callB call_isi (by rfl) T.isi boot_isinstance (pa_cons (pe_ix ix_list (pv 5) pe_int (fun _ _ => rfl)) (pa_cons (pe_bltn (v := .ty "list") (by rfl) T.list (by decide +kernel) rfl) pa_nil)))))
        (pw_or1 (pt_cmpR op_ne (pe_callB (call_reprA hg hu1) (by rfl) T.repr (by decide +kernel) (pa_cons (pe_ix ix_list (pv 5) pe_int (fun _ _ => rfl)) pa_nil)) (pe_callB (call_reprA hg hu1) (by rfl) T.repr (by decide +kernel) (pa_cons (pv 3) pa_nil)) (nomark _)))))) (pss_one (ps_ret pe_bl)) pss_nil)
    (pss_cons (ps_set (i := 7) scRR.nd rfl (.inr rfl) (pe_call Z.l.ok hr8 (by rfl) Z.l.g Z.l.kp Z.l.b .nil passL (pa_cons (pv 1) (pa_cons (pe_ix ix_list (pv 5) pe_int (fun _ _ => rfl)) pa_nil))))
    (pss_cons (ps_if (PW.pt (pw_or (pt_not (pt_val (pe_callB call_isi (by rfl) T.isi boot_isinstance (pa_cons (pv 7) (pa_cons (pe_bltn (v := .ty "dict") (by rfl) T.dict (by decide +kernel) rfl) pa_nil))))) (pw_or (pt_cmpR (op_ne_dictA (Nat.lt_of_succ_lt hu)) (pv 7) (pe_call Z.m.ok hr4 (by rfl) Z.m.g Z.m.kp Z.m.b .nil pass0 (pa_cons (pv 1) (pa_cons (pv 3) pa_nil))) (nomark _))
        (pw_or1 (pt_cmpR (op_neD hr.units) (pe_call Z.r.ok hr8 (by rfl) Z.r.g Z.r.kp Z.r.b .nil passL (pa_cons (pv 1) (pa_cons (pv 7) pa_nil))) (pe_op op_cat (pe_slice sl_list (pv 1) po_none (po_some pe_int)) (pv 3)) (nomark _)))))) (pss_one (ps_ret pe_bl)) pss_nil)
    (pss_cons (ps_set (i := 8) scRR.nd rfl (.inl rfl) (pe_callTy (call_dictP rfl) (by rfl) T.dict (by decide +kernel) (pa_cons (pe_lc (own := [("_law_name_here", 9)]) (g := gName 9) (tt := tYes) (by rfl) scRR.nd (pi_keysF (pv 7)) (blkOk_by (own := [("_law_name_here", 9)]) (N := nsRR) (sc := defScope sRenR) (by decide +kernel))
          (fun _ _ _ _ _ => pg_name (i := 9) scRR.nd rfl (Or.inl rfl)) (fun _ _ _ _ _ => pts_nil) (fun _ _ _ _ _ => pe_tup (pa_cons (pe_dget hu (pv 7) (pv 9) (fun _ _ => rfl)) (pa_cons (pv 9) pa_nil)))) pa_nil)))
    (pss_cons (ps_if (PW.pt (pw_or (pt_cmpR op_ne (pe_callB (call_reprA hg hu1) (by rfl) T.repr (by decide +kernel) (pa_cons (pe_call Z.r.ok hr8 (by rfl) Z.r.g Z.r.kp Z.r.b .nil passL (pa_cons (pv 3) (pa_cons (pv 8) pa_nil))) pa_nil)) (pe_callB (call_reprA hg hu1) (by rfl) T.repr (by decide +kernel) (pa_cons (pv 1) pa_nil)) (nomark _))
        (pw_or1 (pt_cmpR (op_neD hr.units) (pe_call Z.c.ok hr8 (by rfl) Z.c.g Z.c.kp Z.c.b .nil pass0 (pa_cons (pv 3) pa_nil)) (pe_call Z.c.ok hr8 (by rfl) Z.c.g Z.c.kp Z.c.b .nil pass0 (pa_cons (pe_tupleOf (by rfl) T.tuple (pv 1)) pa_nil)) (nomark _))))) (pss_one (ps_ret pe_bl)) pss_nil)
    (pss_cons (ps_if (pt_cmpR (op_neD hr.units) (pe_lc (own := [("_law_name_here", 9), ("_law_deed_here", 10)]) (g := gTup K 2 (gCons (gName 9) (gCons (gName 10) gNil))) (by rfl) scRR.nd (pi_list (pv 1)) (blkOk_by (own := [("_law_name_here", 9), ("_law_deed_here", 10)]) (N := nsRR) (sc := defScope sRenR) (by decide +kernel))
          (fun _ _ _ _ _ => pg_tup rfl (pgs_cons (pg_name (i := 9) scRR.nd rfl (.inl rfl)) (pgs_cons (pg_name (i := 10) scRR.nd rfl (.inl rfl)) pgs_nil))) (fun _ _ _ _ _ => pts_one (pt_cmpR (op_notInK (K := K) rfl) (pe_ix (ix_tupK (K := K) rfl) (pv 10) pe_int (fun _ _ => rfl)) (pe_lst (pa_cons pe_str (pa_cons pe_str pa_nil))) (by rfl))) (fun _ _ _ _ _ => pv 9)) (pe_lst pa_nil) (nomark _)) (pss_one (ps_ret pe_bl)) pss_nil)
    (pss_one (ps_ret (pe_cmpR (op_eqD hr.units) (pe_lc (own := [("_law_name_here", 9), ("_law_deed_here", 10)]) (g := gTup K 2 (gCons (gName 9) (gCons (gName 10) gNil))) (tt := tYes) (by rfl) scRR.nd (pi_list (pe_call Z.y.ok hr (by rfl) Z.y.g Z.y.kp Z.y.b .nil pass0 (pa_cons (pv 1) pa_nil))) (blkOk_by (own := [("_law_name_here", 9), ("_law_deed_here", 10)]) (N := nsRR) (sc := defScope sRenR) (by decide +kernel))
          (fun _ _ _ _ _ => pg_tup rfl (pgs_cons (pg_name (i := 9) scRR.nd rfl (.inl rfl)) (pgs_cons (pg_name (i := 10) scRR.nd rfl (.inl rfl)) pgs_nil))) (fun _ _ _ _ _ => pts_nil) (fun _ _ _ _ _ => pe_dget hu (pv 7) (pv 9) (fun _ _ => rfl)))
        (pe_lc (own := [("_law_name_here", 9), ("_law_deed_here", 10)]) (g := gTup K 2 (gCons (gName 9) (gCons (gName 10) gNil))) (tt := tYes) (by rfl) scRR.nd (pi_list (pe_call Z.y.ok hr (by rfl) Z.y.g Z.y.kp Z.y.b .nil pass0 (pa_cons (pv 3) pa_nil))) (blkOk_by (own := [("_law_name_here", 9), ("_law_deed_here", 10)]) (N := nsRR) (sc := defScope sRenR) (by decide +kernel))
          (fun _ _ _ _ _ => pg_tup rfl (pgs_cons (pg_name (i := 9) scRR.nd rfl (.inl rfl)) (pgs_cons (pg_name (i := 10) scRR.nd rfl (.inl rfl)) pgs_nil))) (fun _ _ _ _ _ => pts_nil) (fun _ _ _ _ _ => pv 9)) (nomark _)))))))))))))), ?_⟩
  intro D G v0 l b ws sts tb hl f2 ok l5 hb lt okT hT k
  have nmT : ∀ e ∈ tb, NameOk e.1 ∧ NameOk e.2 := fun e he => ⟨(okT e he).1, nms_ok (okT e he).2⟩
  have rp := ok.like.nm
  have DL := DrawD.list (es := sts.map stepPy) (by rw [List.length_map]; omega) ok.g
  have le : ∀ n : Nat, n ≤ 1000 → n ≤ sizeLine := fun n h => Nat.le_trans h (by decide)
  have kept : ∀ {G1 : Hp} {Q : VK}, ExtN G G1 → (∀ G2, Same G1 G2 → Q (.str (keptS sts tb)) G2) → ∀ t, G1 t = none → rReprTD K [.ref t] (L2.upd G1 t (.tup [.ref l, .ref b])) Q := fun {G1 Q} e1 q t nt => by
    have s := same_upd (o := .tup [V.ref l, .ref b]) nt
    refine td_read upd_same (s _ _ (e1 _ _ hl fun _ z => by cases z)) (f2.mono fun _ _ q => (Dq.keep (KpE.ext (xs := []) e1) _ _ q).same s) rp (by omega) (s _ _ (e1 _ _ hb fun _ z => by cases z)) nmT (by omega) (q _ s)
  refine par_gen (fun x G1 => Same G G1 ∧ ((∃ z, exch (turnF sts tb) SHEET sts = .inl z ∧ x = .str z) ∨ ∃ due d ds, exch (turnF sts tb) SHEET sts = .inr due ∧ x = .ref d ∧ G1 d = some (.lst ds) ∧ F2 (Dq [] G1) ds (due.map stepPy))) (fun Q q => ?_) ?_
  · exact ⟨_, rfl, _, rfl, l, b, ws, sts, tb, rfl, hl, f2, ok.like, hb, nmT, fun z e G1 s1 => q _ _ ⟨s1, .inl ⟨z, e, rfl⟩⟩, fun rs e d ds G1 s1 nd hd fd => q _ _ ⟨s1, .inr ⟨rs, d, ds, e, rfl, hd, fd⟩⟩⟩
  rintro x G1 ⟨s1, hx⟩
  refine ⟨_, rfl, _, rfl, le 2 (by decide), fun t1 n1 => ?_⟩
  refine tnil_in ?_
  refine kept (ExtN.of s1) (fun G2 s2 => ?_) t1 n1
  refine ⟨_, _, rfl, ?_⟩
  have s12 := s1.trans s2
  refine ⟨le 0 (by decide), fun fl nfl => ?_⟩
  have s3 := same_upd (o := .lst []) nfl
  have hfl := upd_same (H := G2) (a := fl) (o := .lst [])
  have s13 := s12.trans s3
  have nflG : G fl = none := s12.free nfl
  have hx3 : (∃ z, exch (turnF sts tb) SHEET sts = .inl z ∧ x = .str z) ∨ ∃ due d ds, exch (turnF sts tb) SHEET sts = .inr due ∧ x = .ref d ∧ (L2.upd G2 fl (.lst [])) d = some (.lst ds) ∧ F2 (Dq [] (L2.upd G2 fl (.lst []))) ds (due.map stepPy) := by
    rcases hx with h | ⟨due, d, ds, h1, h2, h3, h4⟩
    · exact .inl h
    · exact .inr ⟨due, d, ds, h1, h2, (s2.trans s3) _ _ h3, h4.mono fun _ _ q => Dq.same q (s2.trans s3)⟩
  have nfx : ∀ d, x = .ref d → d ≠ fl := fun d e h => by
    rcases hx with ⟨z, _, q⟩ | ⟨due, d', ds, _, q, h3, _⟩
    · rw [q] at e
      cases e
    · rw [q] at e
      cases e
      rw [h, s2.free nfl] at h3
      cases h3
  generalize L2.upd G2 fl (.lst []) = G3 at s3 hfl s13 hx3
  refine ⟨Tabs.ext hT s13, fun N1 e1 T1 => ?_⟩
  have eN : ExtN G N1 := (ExtN.of s13).trans e1
  have hflN : N1 fl = some (.lst []) := e1 _ _ hfl fun _ z => by cases z
  have f2N := f2.mono fun _ _ q => Dq.keep (KpE.ext (xs := []) eN) _ _ q
  have hlN := eN _ _ hl fun _ z => by cases z
  have hbN := eN _ _ hb fun _ z => by cases z
  have dokN : DrawOk NOW N1 (.ref l) sts (.list (sts.map stepPy)) := ⟨⟨.lst (fun z => by cases z) hlN (DqAll.of f2N), DL.w, DL.r⟩, rfl, ok.goes, fun s hs => (ok.deed s hs).1⟩
  have hxN : (∃ z, exch (turnF sts tb) SHEET sts = .inl z ∧ x = .str z) ∨ ∃ due d ds, exch (turnF sts tb) SHEET sts = .inr due ∧ x = .ref d ∧ N1 d = some (.lst ds) ∧ F2 (Dq [] N1) ds (due.map stepPy) := by
    rcases hx3 with h | ⟨due, d, ds, h1, h2, h3, h4⟩
    · exact .inl h
    · exact .inr ⟨due, d, ds, h1, h2, e1 _ _ h3 (fun _ z => by cases z), h4.mono fun _ _ q => Dq.keep (KpE.ext (xs := []) e1) _ _ q⟩
  refine ⟨_, rfl, .inl ⟨rfl, _, .inl (.inl hflN)⟩, ?_⟩
  refine ⟨_, rfl, _, rfl, rfl, .ref l, .ref b, _, rfl, dokN.i, .inr ⟨sts, dokN, fun s hs => (rp s hs).1, by omega, .inr ⟨b, tb, rfl, hbN, by omega, nmT, fun z ez o H5 s5 ho => ?_, fun rs er l2 ws2 H5 s5 nl2 hl2 f22 => ?_⟩⟩⟩
  · -- a clash
    refine ⟨true, Z.xs, fun _ eb nb => ?_, fun z => by cases z⟩
    have u5 := same_upd (o := Caught (.ref CC) (some o) eb) nb
    have heb := upd_same (H := H5) (a := eb) (o := Caught (.ref CC) (some o) eb)
    have ho5 := u5 _ _ ho
    have e5 : ExtN G (L2.upd H5 eb (Caught (.ref CC) (some o) eb)) := eN.trans (ExtN.of (s5.trans u5))
    have T5 := Tabs.ext T1 (s5.trans u5)
    generalize L2.upd H5 eb (Caught (.ref CC) (some o) eb) = G5 at u5 heb ho5 e5 T5
    refine ⟨_, rfl, _, rfl, le 2 (by decide), fun t2 n2 => ?_⟩
    refine tnil_in ?_
    refine kept e5 (fun G6 s6 => ?_) t2 n2
    refine ⟨_, rfl, rfl, _, rfl, ?_⟩
    rw [decide_eq_true rfl]
    refine iteF ?_
    rcases hx with ⟨z', ez', rfl⟩ | ⟨due, d, ds, h1, _⟩
    · have ezz : z' = z := by
        rw [ez] at ez'
        injection ez' with h
        exact h.symm
      subst ezz
      have heb6 := s6 _ _ heb
      have ho6 := s6 _ _ ho5
      refine ⟨_, rfl, .str z', .ty "str", .type "str", .type "str", true, rfl, .ty _, .base (.str _), kit_ty (by decide +kernel), _, rfl, ?_⟩
      refine iteT ?_
      refine ⟨_, rfl, eb, CC, o, _, .ref CC, .ref CC, true, rfl, heb6, ho6, Z.cs, .own CC, kit_self _, _, rfl, ?_⟩
      refine iteT ?_
      have lk : List.lookup ("name" : Str) [(("name" : Str), V.str z')] = some (.str z') := by simp [List.lookup]
      refine ⟨_, rfl, eb, CC, o, _, .str z', rfl, heb6, Z.xfs, Z.sn.noN, ho6, lk, _, rfl, rfl, _, rfl, ?_⟩
      rw [decide_eq_true rfl]
      refine iteT ?_
      refine ⟨_, rfl, eb, CC, o, _, .ref CT, .ref CT, false, rfl, heb6, ho6, Z.cs, .own CT, Z.no, ?_⟩
      exact ⟨_, rfl, k G6 (e5.trans (ExtN.of s6)) (Tabs.ext T5 s6)⟩
    · rw [ez] at h1
      cases h1
  · -- the drawing
    obtain ⟨due, d, ds, ed, rfl, hd3, fd3⟩ : ∃ due d ds, exch (turnF sts tb) SHEET sts = .inr due ∧ x = .ref d ∧ N1 d = some (.lst ds) ∧ F2 (Dq [] N1) ds (due.map stepPy) := by
      rcases hxN with ⟨z, ez, _⟩ | h
      · rw [ez] at er
        cases er
      · exact h
    have ers : rs = due := by
      rw [ed] at er
      injection er with h
      exact h.symm
    subst ers
    have okd := ok.ren okT ed
    obtain ⟨edue, _, _⟩ := exch_inr ed
    have ld : rs.length = sts.length := by rw [edue, List.length_map]
    refine tnil_in ?_
    have hfl5 := s5 _ _ hflN
    have hd5 := s5 _ _ hd3
    have fd5 := fd3.mono fun _ _ q => Dq.same q s5
    have nfd : d ≠ fl := nfx d rfl
    have nfl2 : l2 ≠ fl := fun e => by rw [e, hflN] at nl2; cases nl2
    refine ⟨fl, _, _, rfl, rfl, hfl5, Nat.lt_of_le_of_lt (Nat.zero_le _ : ([] : List V).length ≤ 0) (by decide), _, rfl, ?_⟩
    have e5 : ExtN G (L2.upd H5 fl (.lst ([] ++ [.ref l2]))) := fun b o e n => by
      rw [upd_ne (ne_of_none e nflG)]
      exact s5 _ _ (eN _ _ e n)
    have T5 : Tabs (TTs tn tl) (L2.upd H5 fl (.lst ([] ++ [.ref l2]))) := by
      exact Tabs.offL (Tabs.ext T1 s5) hfl5 _
    have hflG := upd_same (H := H5) (a := fl) (o := .lst ([] ++ [.ref l2]))
    have hdG : (L2.upd H5 fl (.lst ([] ++ [.ref l2]))) d = some (.lst ds) := by rw [upd_ne nfd]; exact hd5
    have hl2G : (L2.upd H5 fl (.lst ([] ++ [.ref l2]))) l2 = some (.lst ws2) := by rw [upd_ne nfl2]; exact hl2
    have keepD : ∀ {us : List V} {ds : List (Str × Deed)}, F2 (Dq [] H5) us (ds.map stepPy) → F2 (Dq [] (L2.upd H5 fl (.lst ([] ++ [.ref l2])))) us (ds.map stepPy) := fun h => f2_off hfl5 (fun _ z => by cases z) _ h
    have fdG := keepD fd5
    have f22G := keepD f22
    generalize L2.upd H5 fl (.lst ([] ++ [.ref l2])) = G5 at e5 T5 hflG hdG hl2G fdG f22G
    refine ⟨_, rfl, _, rfl, le 2 (by decide), fun t2 n2 => ?_⟩
    refine tnil_in ?_
    refine kept e5 (fun G6 s6 => ?_) t2 n2
    refine ⟨_, rfl, rfl, _, rfl, ?_⟩
    rw [decide_eq_true rfl]
    refine iteF ?_
    refine ⟨_, rfl, .ref d, .ty "str", .type "list", .type "str", false, rfl, .ty _, .base (.lst (s6 _ _ hdG)), kit_ty (by decide +kernel), _, rfl, ?_⟩
    refine iteF ?_
    have hfl6 := s6 _ _ hflG
    have a0 : atI (([] : List V) ++ [V.ref l2]) 0 = some (.ref l2) := at_nat (k := 0) rfl
    refine ⟨_, rfl, rfl, _, rfl, ?_⟩
    refine iteF ?_
    have hl26 := s6 _ _ hl2G
    have hd6 := s6 _ _ hdG
    have f226 := f22G.mono fun _ _ q => Dq.same q s6
    have fd6 := fdG.mono fun _ _ q => Dq.same q s6
    have e6 := e5.trans (ExtN.of s6)
    have T6 := Tabs.ext T5 s6
    have hl6 := e6 _ _ hl fun _ z => by cases z
    have f26 := f2.mono fun _ _ q => Dq.keep (KpE.ext (xs := []) e6) _ _ q
    clear hd3 fd3 fd5 hd5 f22 hl2 hflG hdG hl2G fdG f22G T5 e5
    refine ⟨_, rfl, fl, _, _, _, rfl, rfl, SqL.of hfl6, a0, .ref l2, .ty "list", .type "list", .type "list", true, rfl, .ty _, .base (.lst hl26), kit_ty (by decide +kernel), true, rfl, ?_⟩
    refine iteF ?_
    have rpd := okd.like.nm
    have rdu := Rp.steps rpd (by omega)
    obtain ⟨q1, q2, q3, q4, q5⟩ := rp_ok (K := K) (x := .ref l2) (H := G6) (.lst (fun z => by cases z) hl26 (DqAll.of f226)) rdu (by decide) (by decide)
    obtain ⟨r1, _⟩ := rp_ok (K := K) (x := .ref d) (H := G6) (.lst (fun z => by cases z) hd6 (DqAll.of fd6)) rdu (by decide) (by decide)
    refine ⟨_, rfl, fl, _, _, _, rfl, rfl, SqL.of hfl6, a0, _, _, rfl, q1, q2, q3, q4, q5, ?_⟩
    refine ⟨_, rfl, _, _, rfl, r1, q2, q3, q4, q5, ?_⟩
    refine ⟨rfl, _, rfl, ?_⟩
    rw [decide_eq_true rfl]
    refine iteF ?_
    have DLd := DrawD.list (es := rs.map stepPy) (by rw [List.length_map]; omega) okd.g
    have dokL : ∀ {G' : Hp}, Same G6 G' → DrawOk NOW G' (.ref l) sts (.list (sts.map stepPy)) := fun s' => ⟨⟨.lst (fun z => by cases z) (s' _ _ hl6) (DqAll.of (f26.mono fun _ _ q => q.same s')), DL.w, DL.r⟩, rfl, ok.goes, fun s hs => (ok.deed s hs).1⟩
    have dokD : ∀ {G' : Hp}, Same G6 G' → DrawOk NOW G' (.ref d) rs (.list (rs.map stepPy)) := fun s' => ⟨⟨.lst (fun z => by cases z) (s' _ _ hd6) (DqAll.of (fd6.mono fun _ _ q => q.same s')), DLd.w, DLd.r⟩, rfl, okd.goes, fun s hs => (okd.deed s hs).1⟩
    have dok2 : DrawOk NOW G6 (.ref l2) rs (.list (rs.map stepPy)) := ⟨⟨.lst (fun z => by cases z) hl26 (DqAll.of f226), DLd.w, DLd.r⟩, rfl, okd.goes, fun s hs => (okd.deed s hs).1⟩
    have lkB : likeB sts rs = true := by rw [edue]; exact like_due
    refine ⟨_, rfl, _, rfl, fl, _, _, _, rfl, rfl, SqL.of hfl6, a0, .ref l, .ref l2, _, rfl, (dokL (Same.refl _)).i, .inr ⟨sts, _, dokL (Same.refl _), dok2.i, .inr ⟨rs, dok2, ok.like, okd.like, fun no => (by rw [lkB] at no; cases no), fun _ TD G7 s7 nTD hTD => ?_⟩⟩⟩
    refine ⟨_, rfl, .ref TD, .ty "dict", .type "dict", .type "dict", true, rfl, .ty _, .base (.dK hTD), kit_ty (by decide +kernel), true, rfl, ?_⟩
    refine iteF ?_
    have em : matchF [] sts rs = some (tbOf sts rs) := by rw [match_like ok ld.symm, if_pos lkB]
    have ltT : (tbOf sts rs).length = sts.length := tb_len sts rs ld.symm
    have ktT := tb_keys ld.symm
    have nmTT : ∀ e ∈ tbOf sts rs, NameOk e.1 ∧ NameOk e.2 := fun e he => by
      have h1 : e.1 ∈ sts.map (·.1) := by rw [← ktT]; exact List.mem_map.mpr ⟨e, he, rfl⟩
      have h2 : e.2 ∈ rs.map (·.1) := by rw [← tb_vals ld.symm]; exact List.mem_map.mpr ⟨e, he, rfl⟩
      obtain ⟨s, hs, e1⟩ := List.mem_map.mp h1
      obtain ⟨t, ht, e2⟩ := List.mem_map.mp h2
      rw [← e1, ← e2]
      exact ⟨(rp s hs).1, (rpd t ht).1⟩
    refine ⟨_, rfl, _, rfl, _, rfl, l, d, ws, ds, sts, rs, rfl, s7 _ _ hl6, s7 _ _ hd6, f26.mono fun _ _ q => q.same s7, fd6.mono fun _ _ q => q.same s7, ok.like, okd.like, fun no => ?_, fun hlen tb' em' D2 G8 s8 nD2 hD2 => ?_⟩
    · exfalso
      rcases no with h | h
      · exact h ld.symm
      · rw [em] at h
        cases h
    have etb : tb' = tbOf sts rs := by
      rw [em] at em'
      injection em' with h
      exact h.symm
    subst etb
    have hTD8 := s8 _ _ hTD
    refine ⟨TD, D2, _, _, rfl, rfl, hTD8, hD2, rfl, fun p hp => ?_, _, rfl, ?_⟩
    · obtain ⟨e, he, rfl⟩ := List.mem_map.mp hp
      refine ⟨?_, rfl⟩
      obtain ⟨i, hi⟩ := List.mem_iff_getElem?.mp he
      show valV (tbK (tbOf sts rs)) (Sum.inr e.1) = some (V.str e.2)
      rw [tbK_look, look_at (by rw [ktT]; exact ok.nd) hi]
      rfl
    refine iteF ?_
    have s68 := s7.trans s8
    have ett : turnF sts (tbOf sts rs) = turnF sts tb := by
      have := turn_turn (sts := sts) (tb := tb)
      rw [← edue] at this
      exact this
    refine ⟨_, rfl, _, rfl, .ref l, .ref TD, _, rfl, (dokL s68).i, .inr ⟨sts, dokL s68, fun s hs => (rp s hs).1, by omega, .inr ⟨TD, tbOf sts rs, rfl, hTD8, by omega, nmTT, fun z ez => ?_, fun rs' er' l3 ws3 G9 s9 nl3 hl3 f23 => ?_⟩⟩⟩
    · exfalso
      rw [ett, ed] at ez
      cases ez
    have ers' : rs = rs' := by
      rw [ett, ed] at er'
      injection er' with h
    subst ers'
    have s69 := s68.trans s9
    refine ⟨_, rfl, _, rfl, l, _, rfl, SqL.of (s69 _ _ hl6), fun q0 nq0 => ?_⟩
    have ec : cutV ws none (some 0) = [] := by
      have := cut_to (xs := ws) (k := 0) (Nat.zero_le _)
      rw [List.take_zero] at this
      exact this
    rw [ec]
    have s10 := same_upd (o := .lst []) nq0
    refine ⟨_, rfl, q0, d, [], ds, rfl, rfl, upd_same, s10 _ _ (s69 _ _ hd6), ?_, fun c nc => ?_⟩
    · have := fd6.len
      rw [List.length_map] at this
      exact le _ (by show 0 + ds.length ≤ 1000; omega)
    rw [List.nil_append]
    have s11 := same_upd (o := .lst ds) nc
    have sA := s10.trans s11
    refine ne_steps (sA _ _ hl3) upd_same (f23.mono fun _ _ q => q.same sA) (fd6.mono fun _ _ q => q.same (s69.trans sA)) rpd rpd (by omega) (by omega) ?_
    refine ⟨_, rfl, ?_⟩
    rw [decide_eq_true rfl]
    refine iteF ?_
    have s6A := s69.trans sA
    have hTDA := sA _ _ (s9 _ _ hTD8)
    generalize L2.upd (L2.upd G9 q0 (.lst [])) c (.lst ds) = GA at s6A hTDA
    refine ⟨_, rfl, TD, _, rfl, hTDA, fun od => fun DL2 nDL2 => ?_⟩
    have FZt := upd_same (H := GA) (a := TD) (o := .frz od (.dK (tbK (tbOf sts rs))))
    have offTD : ∀ {b : Addr} {us : List V}, GA b = some (.lst us) → (L2.upd GA TD (.frz od (.dK (tbK (tbOf sts rs))))) b = some (.lst us) := fun {b us} h => by
      rw [upd_ne (ne_of h hTDA (by intro z; cases z))]
      exact h
    have hlF := offTD (s6A _ _ hl6)
    have hdF := offTD (s6A _ _ hd6)
    have f2F := f2_off hTDA (fun _ z => by cases z) (.frz od (.dK (tbK (tbOf sts rs)))) (f26.mono fun _ _ q => q.same s6A)
    have fdF := f2_off hTDA (fun _ z => by cases z) (.frz od (.dK (tbK (tbOf sts rs)))) (fd6.mono fun _ _ q => q.same s6A)
    have TF := Tabs.offD (Tabs.ext T6 s6A) hTDA (.frz od (.dK (tbK (tbOf sts rs))))
    have eF : ExtN G (L2.upd GA TD (.frz od (.dK (tbK (tbOf sts rs))))) := fun b o e n => by
      have h6 := e6 _ _ e n
      rw [upd_ne (ne_of_none h6 nTD)]
      exact s6A _ _ h6
    generalize L2.upd GA TD (.frz od (.dK (tbK (tbOf sts rs)))) = FZ at FZt hlF hdF f2F fdF TF eF nDL2
    have ltK : (tbK (tbOf sts rs)).length = sts.length := by unfold tbK; rw [List.length_map]; exact ltT
    have dgF : ∀ {G' : Hp}, Same FZ G' → ∀ {e : Str × Str}, e ∈ tbOf sts rs → DGet G' TD (.str e.1) (some (.str e.2)) := fun {G'} s' {e} he => by
      obtain ⟨i, hi⟩ := List.mem_iff_getElem?.mp he
      have h : valV (tbK (tbOf sts rs)) (Sum.inr e.1) = some (V.str e.2) := by
        rw [tbK_look, look_at (by rw [ktT]; exact ok.nd) hi]
        rfl
      exact .inl ⟨_, Sum.inr e.1, .inr ⟨od, s' _ _ FZt⟩, rfl, h.symm⟩
    refine lc_it walk_keys (fun i G' => Same FZ G' ∧ ∃ ys, G' DL2 = some (.lst ys) ∧ ys.length = i ∧ F2 (fun y (e : Str × Str) => ∃ t, y = V.ref t ∧ G' t = some (.tup [.str e.2, .str e.1])) ys ((tbOf sts rs).take i)) ⟨same_upd nDL2, [], upd_same, rfl, .nil⟩ (fun i G' _ q => q.1 _ _ FZt) ?_ ?_
    · rintro i y G1 G1' hi ⟨sG1, ys, hys, lys, f2y⟩ ⟨rfl, k0, v0', hk0, rfl⟩
      have hk0' : ((tbOf sts rs).map fun e => ((Sum.inr e.1 : Key), V.str e.2))[i]? = some (k0, v0') := hk0
      rw [List.getElem?_map] at hk0'
      cases ez : (tbOf sts rs)[i]? with
      | none => rw [ez] at hk0'; cases hk0'
      | some e =>
      rw [ez] at hk0'
      cases hk0'
      refine ⟨rfl, yes_if ?_⟩
      refine ⟨_, rfl, _, rfl, TD, .str e.2, rfl, dgF sG1 (List.mem_of_getElem? ez), _, rfl, le 2 (by decide), fun t nt => ?_⟩
      have sT := same_upd (o := .tup [.str e.2, kV (Sum.inr e.1)]) nt
      have hT0 := upd_same (H := G1') (a := t) (o := .tup [.str e.2, kV (Sum.inr e.1)])
      have hysT := sT _ _ hys
      have f2T := f2y.mono fun _ _ ⟨t', q1, q2⟩ => (⟨t', q1, sT _ _ q2⟩ : ∃ t', _ = V.ref t' ∧ _ = some (HO.tup [.str _, .str _]))
      generalize L2.upd G1' t (.tup [.str e.2, kV (Sum.inr e.1)]) = G2' at sT hT0 hysT f2T
      refine ⟨ys, hysT, Nat.lt_of_le_of_lt (show ys.length ≤ 1000 by omega) (by decide), ?_, _, upd_same, by rw [List.length_append, lys]; rfl, ?_⟩
      · intro c o e'
        rw [upd_ne (ne_of_none e' nDL2)]
        exact sT _ _ (sG1 _ _ e')
      · rw [take_snoc ez]
        have off : ∀ {t' : Addr} {us : List V}, G2' t' = some (.tup us) → (L2.upd G2' DL2 (.lst (ys ++ [.ref t]))) t' = some (.tup us) := fun h => by
          rw [upd_ne (ne_of h hysT (by intro z; cases z))]
          exact h
        exact (f2T.mono fun _ _ ⟨t', q1, q2⟩ => ⟨t', q1, off q2⟩).snoc ⟨t, rfl, off hT0⟩
    rintro G1 ⟨sG1, ys, hys, lys, f2y⟩
    have ltF : (tbK (tbOf sts rs)).length = (tbOf sts rs).length := by unfold tbK; rw [List.length_map]
    rw [ltF, List.take_length] at f2y
    have exps : ∃ ps : List Addr, ys = ps.map V.ref ∧ Paired (fun p kv => SqT K G1 p [kV kv.1, kv.2]) ps (tbK (tbOf rs sts)) := by
      rw [← tb_flip]
      generalize tbOf sts rs = tt at f2y
      clear hys lys
      induction f2y with
      | nil => exact ⟨[], rfl, .nil⟩
      | cons h1 h2 ih =>
        obtain ⟨t, rfl, ht⟩ := h1
        obtain ⟨ps, rfl, hp⟩ := ih
        exact ⟨t :: ps, rfl, .cons (SqT.of ht) hp⟩
    obtain ⟨ps, rfl, hps⟩ := exps
    refine tnil_in ?_
    refine ⟨DL2, ps, _, rfl, SqL.of hys, hps, fun DB nDB => ?_⟩
    have ktB := tb_keys ld
    have emr := merge_nd (tbOf rs sts) [] (by rw [List.nil_append, ktB]; exact okd.nd)
    have emr : mergeK [] (tbK (tbOf rs sts)) = tbK (tbOf rs sts) := emr
    rw [emr]
    have sB := same_upd (o := .dK (tbK (tbOf rs sts))) nDB
    have hDB := upd_same (H := G1) (a := DB) (o := .dK (tbK (tbOf rs sts)))
    have sFB := sG1.trans sB
    generalize L2.upd G1 DB (.dK (tbK (tbOf rs sts))) = GB at sB hDB sFB
    have dokDF : ∀ {G' : Hp}, Same FZ G' → DrawOk NOW G' (.ref d) rs (.list (rs.map stepPy)) := fun s' => ⟨⟨.lst (fun z => by cases z) (s' _ _ hdF) (DqAll.of (fdF.mono fun _ _ q => q.same s')), DLd.w, DLd.r⟩, rfl, okd.goes, fun s hs => (okd.deed s hs).1⟩
    have dokLF : ∀ {G' : Hp}, Same FZ G' → DrawOk NOW G' (.ref l) sts (.list (sts.map stepPy)) := fun s' => ⟨⟨.lst (fun z => by cases z) (s' _ _ hlF) (DqAll.of (f2F.mono fun _ _ q => q.same s')), DL.w, DL.r⟩, rfl, ok.goes, fun s hs => (ok.deed s hs).1⟩
    have nmBB : ∀ e ∈ tbOf rs sts, NameOk e.1 ∧ NameOk e.2 := fun e he => by
      rw [← tb_flip] at he
      obtain ⟨u, hu, rfl⟩ := List.mem_map.mp he
      exact ⟨(nmTT u hu).2, (nmTT u hu).1⟩
    have ltB : (tbOf rs sts).length = rs.length := tb_len rs sts ld
    have bk := back_turn ok okT ed
    refine ⟨_, rfl, _, rfl, .ref d, .ref DB, _, rfl, (dokDF sFB).i, .inr ⟨rs, dokDF sFB, fun s hs => (rpd s hs).1, by omega, .inr ⟨DB, tbOf rs sts, rfl, hDB, by omega, nmBB, fun z ez => ?_, fun rs4 er4 l4 ws4 G4 s4 nl4 hl4 f24 => ?_⟩⟩⟩
    · exfalso
      rw [bk] at ez
      cases ez
    have ers4 : sts = rs4 := by
      rw [bk] at er4
      injection er4 with h
    subst ers4
    have rps := Rp.steps rp (by omega)
    obtain ⟨z1, z2, z3, z4, z5⟩ := rp_ok (K := K) (x := .ref l4) (H := G4) (.lst (fun z => by cases z) hl4 (DqAll.of f24)) rps (by decide) (by decide)
    have sF4 := sFB.trans s4
    obtain ⟨y1, _⟩ := rp_ok (K := K) (x := .ref l) (H := G4) (dokLF sF4).i.1 rps (by decide) (by decide)
    refine ⟨_, _, rfl, z1, z2, z3, z4, z5, ?_⟩
    refine ⟨_, rfl, _, _, rfl, y1, z2, z3, z4, z5, ?_⟩
    refine ⟨rfl, _, rfl, ?_⟩
    rw [decide_eq_true rfl]
    refine iteF ?_
    refine ⟨_, rfl, .ref d, _, rs, rfl, dokDF sF4, fun p1 G5' s5' np1 hp1 => ?_⟩
    have sF5 := sF4.trans s5'
    refine ⟨_, rfl, .inl ⟨l, ws, rfl, SqL.of (sF5 _ _ hlF), fun tu ntu => ?_⟩⟩
    have sU := same_upd (o := .tup ws) ntu
    have htu := upd_same (H := G5') (a := tu) (o := .tup ws)
    have sF6 := sF5.trans sU
    have hp16 := sU _ _ hp1
    generalize L2.upd G5' tu (.tup ws) = G6' at sU htu sF6 hp16
    have DT := DrawD.tuple (es := sts.map stepPy) (by rw [List.length_map]; omega) ok.g
    have dokT : DrawOk NOW G6' (.ref tu) sts (.tuple (sts.map stepPy)) := ⟨⟨.tup (fun z => by cases z) htu (DqAll.of (f2F.mono fun _ _ q => q.same sF6)), DT.w, DT.r⟩, rfl, ok.goes, fun s hs => (ok.deed s hs).1⟩
    refine ⟨.ref tu, _, sts, rfl, dokT, fun p2 G7' s7' np2 hp2 => ?_⟩
    have ech : chestOf rs = chestOf sts := by rw [edue]; exact chest_ren _ _
    rw [ech] at hp16
    have fk : ((chestOf sts).map V.str).all fok = true := by
      rw [List.all_map, List.all_eq_true]
      intro z hz
      have : ∀ z ∈ TOOLS, fok (.str z) = true := by decide +kernel
      exact this z (List.mem_filter.mp hz).1
    have shC : SeqAt.shaped (.tuple (((chestOf sts).map V.str).map fd)) = true := shaped_flat K G7' fk
    refine ⟨_, _, .tup (SqT.of (s7' _ _ hp16)) (dp_flat fk).1, .tup (SqT.of hp2) (dp_flat fk).1, shC, shC, ?_⟩
    rw [SeqAt.eqv_refl _ (SeqAt.canLay_of_shaped shC)]
    refine ⟨_, rfl, ?_⟩
    refine iteF ?_
    have sF7 := sF6.trans s7'
    have lws : ws.length = sts.length := by
      have := f2F.len
      rw [List.length_map] at this
      exact this
    refine ⟨_, rfl, l, rfl, ⟨_, SqL.of (sF7 _ _ hlF)⟩, fun DP nDP => ?_⟩
    refine lc_it walk_list (fun i G' => Same G7' G' ∧ G' DP = some (.lst ((((sts.take i).filter fun s => !decide (s.2.word ∈ (["meet", "upright"] : List Str))).map (·.1)).map V.str))) ⟨same_upd nDP, upd_same⟩ (fun i G' _ q => SqL.of (q.1 _ _ (sF7 _ _ hlF))) ?_ ?_
    · rintro i y G8 G8' hi ⟨sG8, hDP⟩ ⟨rfl, hy⟩
      obtain ⟨e, he, hq0⟩ := f2F.at_ hy
      rw [List.getElem?_map] at he
      cases ez : sts[i]? with
      | none => rw [ez] at he; cases he
      | some st =>
      rw [ez] at he
      cases he
      obtain ⟨q, p, rfl, _, hq, _, hp⟩ := dq_stepA (hq0.same (sF7.trans sG8))
      refine ⟨q, _, rfl, SqT.of hq, rfl, _, _, rfl, _, _, rfl, rfl, rfl, ?_⟩
      refine ⟨_, rfl, p, _, _, _, rfl, rfl, SqT.of hp, deed_head st.2, le 2 (by decide), fun lm nlm => ?_⟩
      have sM := same_upd (o := .lst [V.str "meet", .str "upright"]) nlm
      have hDPM := sM _ _ hDP
      refine ⟨lm, _, rfl, .inl (SqL.of upd_same), rfl, rfl, _, rfl, ?_⟩
      have ei : inV (.str st.2.word) [V.str "meet", .str "upright"] = decide (st.2.word ∈ (["meet", "upright"] : List Str)) := inV_str st.2.word ["meet", "upright"]
      show (if (!inV (.str st.2.word) [V.str "meet", .str "upright"]) = true then _ else _)
      rw [ei]
      have sGM := sG8.trans sM
      have tk1 : sts.take (i + 1) = sts.take i ++ [st] := take_snoc ez
      generalize L2.upd G8' lm (.lst [V.str "meet", .str "upright"]) = G9' at sM hDPM sGM
      cases cw : (!decide (st.2.word ∈ (["meet", "upright"] : List Str))) with
      | false =>
        refine iteF ?_
        refine ⟨sGM, ?_⟩
        rw [tk1, List.filter_append, List.filter_cons_of_neg (p := fun s : Str × Deed => !decide (s.2.word ∈ (["meet", "upright"] : List Str))) (by rw [cw]; exact Bool.false_ne_true), List.filter_nil, List.append_nil]
        exact hDPM
      | true =>
        refine iteT ?_
        refine ⟨_, rfl, _, hDPM, ?_, ?_, ?_⟩
        · rw [List.length_map, List.length_map]
          have h1 := List.length_filter_le (fun s : Str × Deed => !decide (s.2.word ∈ (["meet", "upright"] : List Str))) (sts.take i)
          have h2 : (sts.take i).length ≤ 5 := by rw [List.length_take]; omega
          exact Nat.lt_of_le_of_lt (show _ ≤ 1000 by omega) (by decide)
        · intro c o e'
          rw [upd_ne (ne_of_none e' nDP)]
          exact sGM _ _ e'
        · rw [upd_same, tk1, List.filter_append, List.filter_cons_of_pos (p := fun s : Str × Deed => !decide (s.2.word ∈ (["meet", "upright"] : List Str))) cw, List.filter_nil, List.map_append, List.map_append]
          rfl
    rintro G8 ⟨sG8, hDP⟩
    rw [lws, List.take_length] at hDP
    refine tail_ne hDP (fok_names fun z hz => ?_) fun G9' s9' => ⟨_, rfl, ?_⟩
    · obtain ⟨s, hs, rfl⟩ := List.mem_map.mp hz
      exact (rp s (List.mem_filter.mp hs).1).1
    have sF9 := (sF7.trans sG8).trans s9'
    have fin : ∀ {G' : Hp}, Same FZ G' → D.rt (.bl true) G' := fun s' => k _ (eF.trans (ExtN.of s')) (Tabs.ext TF s')
    cases ep : (!((((sts.filter fun s => !decide (s.2.word ∈ (["meet", "upright"] : List Str))).map (·.1)).map V.str)).isEmpty) with
    | true =>
      refine iteT ?_
      exact fin sF9
    | false =>
    refine iteF ?_
    have allP : ∀ s ∈ sts, Plain s.2 := fun s hs => by
      have e0 : (sts.filter fun s => !decide (s.2.word ∈ (["meet", "upright"] : List Str))) = [] := by
        cases h : sts.filter fun s => !decide (s.2.word ∈ (["meet", "upright"] : List Str)) with
        | nil => rfl
        | cons x r => rw [h] at ep; cases ep
      have := List.filter_eq_nil_iff.mp e0 s hs
      simp at this
      exact Decidable.or_iff_not_imp_left.mpr this
    have allR : ∀ s ∈ rs, Plain s.2 := fun s hs => by
      rw [edue] at hs
      obtain ⟨t, ht, rfl⟩ := List.mem_map.mp hs
      exact allP t ht
    have pdS : PlainD sts := ⟨by omega, allP, fun s hs => (rp s hs).1, ok.nd, ok.off⟩
    have pdR : PlainD rs := ⟨by omega, allR, fun s hs => (rpd s hs).1, okd.nd, okd.off⟩
    have lS := layAll_len sts
    have lR := layAll_len rs
    refine ⟨_, rfl, .ref l, _, sts, rfl, dokLF sF9, pdS, lay_ok l5, fun la wsa Ga sa nla hla f2a => ⟨la, rfl, ⟨_, SqL.of hla⟩, fun DX nDX => ?_⟩⟩
    have sFa := sF9.trans sa
    have lwa := f2a.len
    refine lc_it walk_list (fun i G' => Same Ga G' ∧ G' DX = some (.lst ((((layAll sts).2.take i).map fun s => turnF sts tb s.1).map V.str))) ⟨same_upd nDX, upd_same⟩ (fun i G' _ q => SqL.of (q.1 _ _ hla)) ?_ ?_
    · rintro i y Gb Gb' hi ⟨sGb, hDX⟩ ⟨rfl, hy⟩
      obtain ⟨s, hs, t, v, rfl, ht⟩ := f2a.at_ hy
      have ms := layAll_sub s (List.mem_of_getElem? hs)
      have me : (s.1, turnF sts tb s.1) ∈ tbOf sts rs := by
        rw [edue, tbOf_ren]
        exact zip_in (List.mem_map.mpr ⟨s, ms, rfl⟩)
      refine ⟨t, _, rfl, SqT.of (sGb _ _ ht), rfl, _, _, rfl, _, _, rfl, rfl, rfl, yes_if ?_⟩
      refine ⟨_, rfl, _, rfl, TD, .str (turnF sts tb s.1), rfl, dgF (sFa.trans sGb) me, _, hDX, ?_, ?_, ?_⟩
      · rw [List.length_map, List.length_map, List.length_take]
        exact Nat.lt_of_le_of_lt (show min i (layAll sts).2.length ≤ 1000 by omega) (by decide)
      · intro c o e'
        rw [upd_ne (ne_of_none e' nDX)]
        exact sGb _ _ e'
      · rw [upd_same, take_snoc hs, List.map_append, List.map_append]
        rfl
    rintro Gc ⟨sGc, hDX⟩
    rw [lwa, List.take_length] at hDX
    have sFc := sFa.trans sGc
    refine ⟨_, rfl, .ref d, _, rs, rfl, dokDF sFc, pdR, lay_ok (by omega), fun lb wsb Gd sd nlb hlb f2b => ⟨lb, rfl, ⟨_, SqL.of hlb⟩, fun DY nDY => ?_⟩⟩
    refine lc_names walk_list nDY (fun G' s' => SqL.of (s' _ _ hlb)) f2b (by omega) (fun _ _ => rfl) (fun _ _ => rfl) fun Ge se hDY => ?_
    have eL : ((layAll rs).2.map (·.1)) = (layAll sts).2.map fun s => turnF sts tb s.1 := by
      rw [turn_lay ok ed, List.map_map]
      rfl
    rw [eL] at hDY
    have fk2 : ((((layAll sts).2.map fun s => turnF sts tb s.1)).map V.str).all fok = true := fok_names fun z hz => by
      obtain ⟨s, hs, rfl⟩ := List.mem_map.mp hz
      exact turnF_ok okT (rp s (layAll_sub s hs)).1
    have shL := shaped_flat K Ge fk2
    have sce := sd.trans se
    refine ⟨_, _, .lst (SqL.of (sce _ _ hDX)) (dp_flat fk2).1, .lst (SqL.of hDY) (dp_flat fk2).1, shL, shL, ?_⟩
    rw [SeqAt.eqv_refl _ (SeqAt.canLay_of_shaped shL)]
    exact fin (sFc.trans sce)
/-- what is left of the walk's end -/
def spRR (tn tl : Addr) : Sp := fun vs H Q _ => ∃ (v0 : V) (l b : Addr) (ws : List V) (sts : List (Str × Deed)) (tb : List (Str × Str)), vs = [v0, .ref l, .ref b] ∧ H l = some (.lst ws) ∧ F2 (Dq [] H) ws (sts.map stepPy) ∧ StepsOk sts ∧ sts.length ≤ 5 ∧ H b = some (.dK (tbK tb)) ∧ tb.length ≤ 12 ∧ TbOk tb ∧ Tabs (TTs tn tl) H ∧
  ∀ H', ExtN H H' → Tabs (TTs tn tl) H' → Q (.bl true) H'
end
end Own
set_option Elab.async false
set_option linter.all false
set_option maxRecDepth 100000
set_option maxHeartbeats 1000000
namespace Own
open PySem PySem.Spec PyProof.Rows L2 LamX
section
variable {P : Program} {w : World} {K : PySem.W.Frag} {mg : Str → Option Value} {base : Heap} {CB CT CC CR fC fI tn tl : Addr} {fd2 dE dM dR dL dH dY dC : FuncData}
theorem ok_rr (F : FnP K "_law_renamed_right" sRenR (He.ga K "_law_renamed_right") fd2) (hf : He.ga K "_law_renamed_right" = He.fAd K ("_law_renamed_right", none)) (Z : RRK P w K mg base CB CT CC CR fC fI dE dM dR dL dH dY dC) (TB : TabB base mg (He.codeOf K ("_law_renamed_right", none)) tn) (A2 : tn ≠ tl) :
    FnOkG P w K mg base CX0 11 (He.ga K "_law_renamed_right") fd2 ["_law_state", "_law_steps", "_law_table_here"] (spRR tn tl) := by
  refine FunD.okG F scRR rfl (fun vs H Q E h => ?_) (fun cdv A outer s H vs Q E hlk hcd hg hr h => ?_)
  · obtain ⟨v0, l, b, ws, sts, tb, rfl, _⟩ := h
    rfl
  · have ec := code_is hf hlk hcd
    subst ec
    obtain ⟨up, pp, hp⟩ := rr_term Z TB A2 A outer s H E hg hr
    obtain ⟨v0, l, b, ws, sts, tb, rfl, hl, f2, ok, l5, hb, lt, okT, hT, k⟩ := h
    exact ⟨_, PSsT.nox (PSsT.of pp), hp _ H (some v0) l b ws sts tb hl f2 ok l5 hb lt okT hT fun G' e T => k G' e T⟩
end
end Own
set_option Elab.async false
set_option linter.all false
set_option maxRecDepth 100000
set_option maxHeartbeats 1000000
namespace Own
open PySem PySem.Spec PyProof.Rows L2 LamX
/-! ### the law's turn, in parts -/
def forBody : Stmt → List Stmt
  | .For _ _ b _ _ => b
  | _ => []
abbrev lwTurn : List Stmt := forBody ((defBody sLaw).getD 2 (.Pass ⟨0, 0, 0, 0⟩))
abbrev lwOnes : List Stmt := forBody (lwTurn.getD 5 (.Pass ⟨0, 0, 0, 0⟩))
abbrev lwTabs : List Stmt := forBody (lwTurn.getD 6 (.Pass ⟨0, 0, 0, 0⟩))
abbrev lwOdds : List Stmt := forBody (lwTurn.getD 7 (.Pass ⟨0, 0, 0, 0⟩))
abbrev nsLaw : List Str := ["_law_script", "_law_state", "_law_words", "_law_turn", "_law_some", "_law_steps", "_law_other", "_law_fresh", "_law_one", "_law_odd"]
theorem scLaw : FnScope nsLaw ["_law_script"] (defScope sLaw) := ⟨rfl, rfl, rfl, by decide +kernel, rfl, by decide +kernel, by decide +kernel⟩
abbrev envLW (K : PySem.W.Frag) (s : Shared) : Env := envOfC "law" (defScope sLaw) s.heap.objs.size (He.ga K "law") (.ref (He.codeOf K ("law", none)))
theorem op_or {X : Cx} {f : Value → Value → Sem Value} {r1 r2 : R2} (h1 : OpR X f r1) (h2 : OpR X f r2) : OpR X f (fun x y H Q => r1 x y H Q ∨ r2 x y H Q) := by
  intro pins s σ H x y v u Q I rx ry h
  rcases h with h | h
  · exact h1 pins s σ H x y v u Q I rx ry h
  · exact h2 pins s σ H x y v u Q I rx ry h
theorem match_res {one other : List (Str × Deed)} (ok : StepsOk one) : (likeB one other = false → one.length ≠ other.length ∨ matchF [] one other = none) ∧ (likeB one other = true → one.length = other.length ∧ matchF [] one other = some (tbOf one other)) := by
  constructor
  · intro h
    by_cases hl : one.length = other.length
    · right
      rw [match_like ok hl, h]
      rfl
    · exact .inl hl
  · intro h
    have hl : one.length = other.length := by
      unfold likeB at h
      rw [Bool.and_eq_true, decide_eq_true_iff] at h
      exact h.1
    refine ⟨hl, ?_⟩
    rw [match_like ok hl, if_pos h]
theorem tb_same {tb : List (Str × Str)} (nd : (tb.map (·.1)).Nodup) : ∀ p ∈ tbK tb, valV (tbK tb) p.1 = some p.2 ∧ flatB p.2 = true := fun p hp => by
  obtain ⟨e, he, rfl⟩ := List.mem_map.mp hp
  refine ⟨?_, rfl⟩
  obtain ⟨i, hi⟩ := List.mem_iff_getElem?.mp he
  show valV (tbK tb) (Sum.inr e.1) = some (V.str e.2)
  rw [tbK_look, look_at nd hi]
  rfl
/-- what the turn calls -/
structure LWK (P : Program) (w : World) (K : PySem.W.Frag) (mg : Str → Option Value) (base : Heap) (CB CT CC CR fC : Addr) (tn tl : Addr) (dSh dD dCh dTb dRR dBe dEx dM dL dR dC : FuncData) : Prop where
  sh : Fk P w K mg base CX0 3 "_law_shuffled" dSh ["_law_state", "_law_some"] spShuf
  d : Fk P w K mg base CX0 2 "_law_draw" dD ["_law_state", "_law_room"] spDraw
  ch : Fk P w K mg base CX0 5 "_law_chained_steps" dCh ["_law_state", "_law_many", "_law_words", "_law_share"] spChain
  tb : Fk P w K mg base CX0 4 "_law_table" dTb ["_law_state", "_law_steps"] spTable
  rr : FnOkG P w K mg base CX0 11 (He.ga K "_law_renamed_right") dRR ["_law_state", "_law_steps", "_law_table_here"] (spRR tn tl)
  rrb : Binds K dRR ["_law_state", "_law_steps", "_law_table_here"] []
  rrk : PySem.W.keepIn K (.ref (He.ga K "_law_renamed_right")) = true
  rrg : mg "_law_renamed_right" = some (.ref (He.ga K "_law_renamed_right"))
  be : Fk P w K mg base CX0 5 "_law_bent" dBe ["_law_state", "_law_steps"] spBent
  ex : Fk P w K mg base CX0 4 "_law_exchanged" dEx ["_law_steps", "_law_table_here"] spExch
  m : Fk P w K mg base CX0 4 "_law_matched" dM ["_law_one", "_law_other"] spMatched
  fl : FnP K "like" sLike (He.ga K "like") dL
  l : Fk P w K mg base (L2.CX P w) 8 "like" dL ["one", "other"] (spLike NOW CB)
  r : Fk P w K mg base (L2.CX P w) 8 "renamed" dR ["steps", "table"] (spRenamed NOW CB CT CC)
  fc : FnP K "_law_caught" sCaught fC dC
  gc : mg "_law_caught" = some (.ref fC)
  gr : mg "RulerError" = some (.ref CR)
  eT : ErrK K mg CR "BadTable" CT
  eW : ErrK K mg CR "BadDrawing" CB
  t : Txt K mg
section
variable {P : Program} {w : World} {K : PySem.W.Frag} {mg : Str → Option Value} {base : Heap} {CB CT CC CR fC tn tl : Addr} {dSh dD dCh dTb dRR dBe dEx dM dL dR dC : FuncData}
/-- one drawing against the other -/
theorem lw_ones (Z : LWK P w K mg base CB CT CC CR fC tn tl dSh dD dCh dTb dRR dBe dEx dM dL dR dC) (A : Around) (outer : List Env) (s : Shared) (H : Hp) (E : XK) (hr : Room 11 (A.deeper (envLW K s))) :
    ∃ u, PSs (cxOf CX0 P w K mg base nsLaw "law" (defScope sLaw) (He.ga K "law") (.ref (He.codeOf K ("law", none))) A outer s H E).nox lwOnes u ∧
      ∀ (D : Ends) (G : Hp) (v0 v1 v2 v3 v4 v6 v7 v9 : Option V) (l : Addr) (x : V) (ws : List V) (sts : List (Str × Deed)), G l = some (.lst ws) → F2 (Dq [] G) ws (sts.map stepPy) → StepsOk sts →
        ((∃ z, x = .str z) ∨ ∃ d ds one, x = .ref d ∧ G d = some (.lst ds) ∧ F2 (Dq [] G) ds (one.map stepPy) ∧ StepsOk one) →
        (∀ G', Same G G' → D.nx [v0, v1, v2, v3, v4, some (.ref l), v6, v7, some x, v9] G') → (∀ G', Same G G' → D.ct [v0, v1, v2, v3, v4, some (.ref l), v6, v7, some x, v9] G') →
        u D [v0, v1, v2, v3, v4, some (.ref l), v6, v7, some x, v9] G := by
  have T := Z.t
  have hu := hu_of hr
  have hr4 := hr.mono (show 4 ≤ 11 by decide)
  have hr8 := hr.mono (show 8 ≤ 11 by decide)
  have kL := kb_two Z.fl (p := "one") (q := "other") fun _ _ _ _ _ _ _ _ => rfl
  refine ⟨_, pss_cons (ps_if (pt_val (pe_callB call_isi (by rfl) T.isi boot_isinstance (pa_cons (pv 8) (pa_cons (pe_bltn (v := .ty "str") (by rfl) T.str (by decide +kernel) rfl) pa_nil)))) (pss_one ps_continue) pss_nil)
    (pss_cons (ps_if (pt_cmpR (op_or (op_ne_dictA (Nat.lt_of_succ_lt hu)) op_ne) (pe_kw0 Z.l.ok hr8 (by rfl) Z.l.g Z.l.kp kL passL (pk_cons (pv 5) (pk_cons (pv 8) pk_nil))) (pe_call Z.m.ok hr4 (by rfl) Z.m.g Z.m.kp Z.m.b .nil pass0 (pa_cons (pv 5) (pa_cons (pv 8) pa_nil))) (nomark _)) (pss_one (ps_ret pe_bl)) pss_nil)
    (pss_one (ps_if (pt_cmpR (op_or (op_ne_dictA (Nat.lt_of_succ_lt hu)) op_ne) (pe_call Z.l.ok hr8 (by rfl) Z.l.g Z.l.kp Z.l.b .nil passL (pa_cons (pe_tupleOf (by rfl) T.tuple (pv 8)) (pa_cons (pv 5) pa_nil))) (pe_call Z.m.ok hr4 (by rfl) Z.m.g Z.m.kp Z.m.b .nil pass0 (pa_cons (pv 8) (pa_cons (pv 5) pa_nil))) (nomark _)) (pss_one (ps_ret pe_bl)) pss_nil))), ?_⟩
  intro D G v0 v1 v2 v3 v4 v6 v7 v9 l x ws sts hl f2 ok hx nx ct
  have DL := DrawD.list (es := sts.map stepPy) (by rw [List.length_map]; have := ok.len; omega) ok.g
  rcases hx with ⟨z, rfl⟩ | ⟨d, ds, one, rfl, hd, fd, ok1⟩
  · refine ⟨_, rfl, .str z, .ty "str", .type "str", .type "str", true, rfl, .ty _, .base (.str _), kit_ty (by decide +kernel), _, rfl, ?_⟩
    refine iteT ?_
    exact ct _ (Same.refl _)
  have D1 := DrawD.list (es := one.map stepPy) (by rw [List.length_map]; have := ok1.len; omega) ok1.g
  have T1 := DrawD.tuple (es := one.map stepPy) (by rw [List.length_map]; have := ok1.len; omega) ok1.g
  have dokL : ∀ {G' : Hp}, Same G G' → DrawOk NOW G' (.ref l) sts (.list (sts.map stepPy)) := fun s' => ⟨⟨.lst (fun z => by cases z) (s' _ _ hl) (DqAll.of (f2.mono fun _ _ q => q.same s')), DL.w, DL.r⟩, rfl, ok.goes, fun s hs => (ok.deed s hs).1⟩
  have dokD : ∀ {G' : Hp}, Same G G' → DrawOk NOW G' (.ref d) one (.list (one.map stepPy)) := fun s' => ⟨⟨.lst (fun z => by cases z) (s' _ _ hd) (DqAll.of (fd.mono fun _ _ q => q.same s')), D1.w, D1.r⟩, rfl, ok1.goes, fun s hs => (ok1.deed s hs).1⟩
  refine ⟨_, rfl, .ref d, .ty "str", .type "list", .type "str", false, rfl, .ty _, .base (.lst hd), kit_ty (by decide +kernel), _, rfl, ?_⟩
  refine iteF ?_
  obtain ⟨m1, m2⟩ := match_res (other := one) ok
  obtain ⟨w1, w2⟩ := match_res (other := sts) ok1
  refine nx_seq ?_
  refine seq_post (fun σ' H' => σ' = [v0, v1, v2, v3, v4, some (.ref l), v6, v7, some (.ref d), v9] ∧ Same G H') (fun D' hD' => ?_) ?_
  · refine ⟨_, rfl, _, rfl, rfl, .ref l, .ref d, _, rfl, (dokL (Same.refl _)).i, .inr ⟨sts, _, dokL (Same.refl _), (dokD (Same.refl _)).i, .inr ⟨one, dokD (Same.refl _), ok.like, ok1.like, fun no G1 s1 => ?_, fun yes TD G1 s1 nTD hTD => ?_⟩⟩⟩
    · refine ⟨_, rfl, _, rfl, l, d, ws, ds, sts, one, rfl, s1 _ _ hl, s1 _ _ hd, f2.mono fun _ _ q => q.same s1, fd.mono fun _ _ q => q.same s1, ok.like, ok1.like, fun _ G2 s2 => .inr ⟨rfl, _, rfl, ?_⟩, fun hl' tb e => ?_⟩
      · rw [decide_eq_true rfl]
        refine iteF ?_
        exact hD' _ _ ⟨rfl, s1.trans s2⟩
      · exfalso
        rcases m1 no with h | h
        · exact h hl'
        · rw [h] at e
          cases e
    · obtain ⟨hlen, em⟩ := m2 yes
      refine ⟨_, rfl, _, rfl, l, d, ws, ds, sts, one, rfl, s1 _ _ hl, s1 _ _ hd, f2.mono fun _ _ q => q.same s1, fd.mono fun _ _ q => q.same s1, ok.like, ok1.like, fun no => ?_, fun hl' tb e D2 G2 s2 nD2 hD2 => ?_⟩
      · exfalso
        rcases no with h | h
        · exact h hlen
        · rw [em] at h
          cases h
      · rw [em] at e
        injection e with e
        subst e
        refine .inl ⟨TD, D2, _, _, rfl, rfl, s2 _ _ hTD, hD2, rfl, tb_same (by rw [tb_keys hlen]; exact ok.nd), _, rfl, ?_⟩
        refine iteF ?_
        exact hD' _ _ ⟨rfl, s1.trans s2⟩
  rintro σ' H' ⟨rfl, s0⟩
  refine ⟨_, rfl, .inl ⟨d, ds, rfl, SqL.of (s0 _ _ hd), fun tu ntu => ?_⟩⟩
  have sU := same_upd (o := .tup ds) ntu
  have htu := upd_same (H := H') (a := tu) (o := .tup ds)
  have s00 := s0.trans sU
  generalize L2.upd H' tu (.tup ds) = G0 at sU htu s00
  have dokT : DrawOk NOW G0 (.ref tu) one (.tuple (one.map stepPy)) := ⟨⟨.tup (fun z => by cases z) htu (DqAll.of (fd.mono fun _ _ q => q.same s00)), T1.w, T1.r⟩, rfl, ok1.goes, fun s hs => (ok1.deed s hs).1⟩
  refine ⟨_, rfl, .ref tu, .ref l, _, rfl, dokT.i, .inr ⟨one, _, dokT, (dokL s00).i, .inr ⟨sts, dokL s00, ok1.like, ok.like, fun no G1 s1 => ?_, fun yes TD G1 s1 nTD hTD => ?_⟩⟩⟩
  · have s01 := s00.trans s1
    refine ⟨_, rfl, _, rfl, d, l, ds, ws, one, sts, rfl, s01 _ _ hd, s01 _ _ hl, fd.mono fun _ _ q => q.same s01, f2.mono fun _ _ q => q.same s01, ok1.like, ok.like, fun _ G2 s2 => .inr ⟨rfl, _, rfl, ?_⟩, fun hl' tb e => ?_⟩
    · rw [decide_eq_true rfl]
      refine iteF ?_
      exact nx _ (s01.trans s2)
    · exfalso
      rcases w1 no with h | h
      · exact h hl'
      · rw [h] at e
        cases e
  · have s01 := s00.trans s1
    obtain ⟨hlen, em⟩ := w2 yes
    refine ⟨_, rfl, _, rfl, d, l, ds, ws, one, sts, rfl, s01 _ _ hd, s01 _ _ hl, fd.mono fun _ _ q => q.same s01, f2.mono fun _ _ q => q.same s01, ok1.like, ok.like, fun no => ?_, fun hl' tb e D2 G2 s2 nD2 hD2 => ?_⟩
    · exfalso
      rcases no with h | h
      · exact h hlen
      · rw [em] at h
        cases h
    · rw [em] at e
      injection e with e
      subst e
      refine .inl ⟨TD, D2, _, _, rfl, rfl, s2 _ _ hTD, hD2, rfl, tb_same (by rw [tb_keys hlen]; exact ok1.nd), _, rfl, ?_⟩
      refine iteF ?_
      exact nx _ (s01.trans s2)
end
end Own
set_option Elab.async false
set_option linter.all false
set_option maxRecDepth 100000
set_option maxHeartbeats 1000000
namespace Own
open PySem PySem.Spec PyProof.Rows L2 LamX
/-! ### odd tables, odd drawings -/
def BadTb (H : Hp) (y : V) : Prop := (∃ d', Dq [] H y d' ∧ isD d' = false) ∨ ∃ b kvs ds, y = .ref b ∧ TabQ H b kvs ds ∧ tabQB kvs ds = false
theorem BadTb.ext {H H' : Hp} {y : V} (h : BadTb H y) (e : ExtN H H') : BadTb H' y := by
  rcases h with ⟨d', q, i⟩ | ⟨b, kvs, ds, rfl, tq, e2⟩
  · exact .inl ⟨d', Dq.keep (KpE.ext (xs := []) e) _ _ q, i⟩
  · exact .inr ⟨b, kvs, ds, rfl, ⟨e _ _ tq.at_ (fun _ z => by cases z), tq.len, tq.rel.mono fun _ _ ⟨q1, q2, q3⟩ => ⟨Dq.keep (KpE.ext (xs := [b]) e) _ _ q1, q2, q3⟩⟩, e2⟩
/-- odd drawings -/
structure OddD (H : Hp) (y : V) : Prop where
  ex : ∃ d, DrawIn NOW H y d ∧ drawV SHEET d = false
theorem OddD.ext {H H' : Hp} {y : V} (h : OddD H y) (e : ExtN H H') : OddD H' y := by
  obtain ⟨d, q, b⟩ := h.ex
  exact ⟨d, ⟨Dq.keep (KpE.ext (xs := []) e) _ _ q.1, q.2⟩, b⟩
theorem odd_o : wdb (.list [.tuple [.str "o", .none]]) = true ∧ drawV SHEET (.list [.tuple [.str "o", .none]]) = false := by decide +kernel
section
variable {P : Program} {w : World} {K : PySem.W.Frag} {mg : Str → Option Value} {base : Heap} {CB CT CC CR fC tn tl : Addr} {dSh dD dCh dTb dRR dBe dEx dM dL dR dC : FuncData}
theorem lw_tabs (Z : LWK P w K mg base CB CT CC CR fC tn tl dSh dD dCh dTb dRR dBe dEx dM dL dR dC) (TB : TabB base mg (He.codeOf K ("law", none)) tl) (A2 : tn ≠ tl) (A : Around) (outer : List Env) (s : Shared) (H : Hp) (E : XK) (hr : Room 11 (A.deeper (envLW K s))) :
    ∃ u, PSs (cxOf CX0 P w K mg base nsLaw "law" (defScope sLaw) (He.ga K "law") (.ref (He.codeOf K ("law", none))) A outer s H E).nox lwTabs u ∧
      ∀ (D : Ends) (G : Hp) (v0 v1 v2 v3 v4 v6 v7 v8 : Option V) (l : Addr) (y : V) (ws : List V) (sts : List (Str × Deed)), G l = some (.lst ws) → F2 (Dq [] G) ws (sts.map stepPy) → StepsOk sts → BadTb G y → Tabs (TTs tn tl) G →
        (∀ G', ExtN G G' → Tabs (TTs tn tl) G' → D.nx [v0, v1, v2, v3, v4, some (.ref l), v6, v7, v8, some y] G') → u D [v0, v1, v2, v3, v4, some (.ref l), v6, v7, v8, some y] G := by
  have T := Z.t
  have hr10 := hr.mono (show 10 ≤ 11 by decide)
  have mtl : (tl, qER) ∈ TTs tn tl := List.mem_cons_of_mem _ List.mem_cons_self
  refine ⟨_, pss_cons (ps_if (pt_not (pt_val (pe_callB call_isX (by rfl) T.isi boot_isinstance (pa_cons (pe_caught (k := 8) Z.fc Z.gc (by rfl) Z.gr TB rfl mtl (TTs.e A2) hr10 (sc := defScope sLaw) rfl (lamS_by (by decide +kernel)) rfl (fun _ _ _ _ _ => rfl)
          (fun A' outer' s' H' E' f' c' hrr => pe_call Z.r.ok hrr (by rfl) Z.r.g Z.r.kp Z.r.b .nil (passes_call (takes_of rfl rfl rfl rfl) fun _ _ _ _ h => h) (pa_cons (pv 5) (pa_cons (pv 9) pa_nil)))) (pa_cons (pe_glob (v := .ref CT) (by rfl) Z.eT.e.g rfl) pa_nil))))) (pss_one (ps_ret pe_bl)) pss_nil)
    (pss_one (ps_if (pt_not (pt_val (pe_callB call_isX (by rfl) T.isi boot_isinstance (pa_cons (pe_caught (k := 8) Z.fc Z.gc (by rfl) Z.gr TB rfl mtl (TTs.e A2) hr10 (sc := defScope sLaw) rfl (lamS_by (by decide +kernel)) rfl (fun _ _ _ _ _ => rfl)
          (fun A' outer' s' H' E' f' c' hrr => pe_call Z.r.ok hrr (by rfl) Z.r.g Z.r.kp Z.r.b .nil (passes_call (takes_of rfl rfl rfl rfl) fun _ _ _ _ h => h) (pa_cons (pe_lst (pa_cons (pe_tup (pa_cons pe_str (pa_cons pe_non pa_nil))) pa_nil)) (pa_cons (pv 9) pa_nil)))) (pa_cons (pe_glob (v := .ref CB) (by rfl) Z.eW.e.g rfl) pa_nil))))) (pss_one (ps_ret pe_bl)) pss_nil)), ?_⟩
  intro D G v0 v1 v2 v3 v4 v6 v7 v8 l y ws sts hl f2 ok by_ hT nx
  have le : ∀ n : Nat, n ≤ 1000 → n ≤ sizeLine := fun n h => Nat.le_trans h (by decide)
  have DL := DrawD.list (es := sts.map stepPy) (by rw [List.length_map]; have := ok.len; omega) ok.g
  have dok : ∀ {G' : Hp}, ExtN G G' → DrawOk NOW G' (.ref l) sts (.list (sts.map stepPy)) := fun h => ⟨⟨.lst (fun z => by cases z) (h _ _ hl fun _ z => by cases z) (DqAll.of (f2.mono fun _ _ q => Dq.keep (KpE.ext (xs := []) h) _ _ q)), DL.w, DL.r⟩, rfl, ok.goes, fun s hs => (ok.deed s hs).1⟩
  refine ⟨hT, fun N1 e1 T1 => ?_⟩
  refine ⟨_, rfl, _, rfl, .ref l, y, _, rfl, (dok e1).i, .inr ⟨sts, dok e1, fun s hs => (ok.like.nm s hs).1, Nat.le_trans ok.len (by decide), .inl ⟨by_.ext e1, fun H2 s2 => ⟨true, Z.eT.x, fun _ ea na => ?_, fun z => by cases z⟩⟩⟩⟩
  have u2 := same_upd (o := Caught (.ref CT) none ea) na
  have e2 := e1.trans (ExtN.of (s2.trans u2))
  have T2 := Tabs.ext T1 (s2.trans u2)
  have hea := upd_same (H := H2) (a := ea) (o := Caught (.ref CT) none ea)
  generalize L2.upd H2 ea (Caught (.ref CT) none ea) = G2 at e2 T2 hea
  refine ⟨ea, CT, none, .ref CT, .ref CT, true, rfl, hea, rfl, Z.eT.c, .own CT, kit_self _, true, rfl, ?_⟩
  refine iteF ?_
  refine ⟨T2, fun N3 e3 T3 => ?_⟩
  have e13 := e2.trans e3
  refine ⟨le 2 (by decide), fun t1 n1 => ⟨le 1 (by decide), fun l1 nl1 => ?_⟩⟩
  have u4 := same_upd (o := .tup [V.str "o", .non]) n1
  have u5 := same_upd (o := .lst [V.ref t1]) nl1
  have ht1 := u5 _ _ (upd_same (H := N3) (a := t1) (o := .tup [V.str "o", .non]))
  have hl1 := upd_same (H := L2.upd N3 t1 (.tup [V.str "o", .non])) (a := l1) (o := .lst [V.ref t1])
  have e5 := e13.trans (ExtN.of (u4.trans u5))
  have T5 := Tabs.ext T3 (u4.trans u5)
  generalize L2.upd (L2.upd N3 t1 (.tup [V.str "o", .non])) l1 (.lst [V.ref t1]) = G5 at ht1 hl1 e5 T5
  refine ⟨_, rfl, .ref l1, y, .list [.tuple [.str "o", .none]], rfl, ⟨.lst (fun z => by cases z) hl1 (.cons (.tup (fun z => by cases z) ht1 (.cons (.str _) (.cons .non .nil))) .nil), odd_o.1, fun ds hd z hz => ?_⟩, .inl ⟨odd_o.2, fun H6 s6 => ⟨true, Z.eW.x, fun _ eb nb => ?_, fun z => by cases z⟩⟩⟩
  · injection hd with hd
    rw [← hd] at hz
    rw [List.mem_singleton.mp hz]
    intro a b e
    injection e with e
    injection e with _ e
    injection e with e
    rw [← e]
    exact Ready.other rfl
  have u7 := same_upd (o := Caught (.ref CB) none eb) nb
  have e7 := e5.trans (ExtN.of (s6.trans u7))
  have T7 := Tabs.ext T5 (s6.trans u7)
  have heb := upd_same (H := H6) (a := eb) (o := Caught (.ref CB) none eb)
  generalize L2.upd H6 eb (Caught (.ref CB) none eb) = G7 at e7 T7 heb
  refine ⟨eb, CB, none, .ref CB, .ref CB, true, rfl, heb, rfl, Z.eW.c, .own CB, kit_self _, true, rfl, ?_⟩
  refine iteF ?_
  exact nx _ e7 T7
theorem lw_odds (Z : LWK P w K mg base CB CT CC CR fC tn tl dSh dD dCh dTb dRR dBe dEx dM dL dR dC) (TB : TabB base mg (He.codeOf K ("law", none)) tl) (A2 : tn ≠ tl) (A : Around) (outer : List Env) (s : Shared) (H : Hp) (E : XK) (hr : Room 11 (A.deeper (envLW K s))) :
    ∃ u, PSs (cxOf CX0 P w K mg base nsLaw "law" (defScope sLaw) (He.ga K "law") (.ref (He.codeOf K ("law", none))) A outer s H E).nox lwOdds u ∧
      ∀ (D : Ends) (G : Hp) (v0 v1 v2 v3 v4 v6 v7 v8 : Option V) (l : Addr) (y : V) (ws : List V) (sts : List (Str × Deed)), G l = some (.lst ws) → F2 (Dq [] G) ws (sts.map stepPy) → StepsOk sts → OddD G y → Tabs (TTs tn tl) G →
        (∀ G', ExtN G G' → Tabs (TTs tn tl) G' → D.nx [v0, v1, v2, v3, v4, some (.ref l), v6, v7, v8, some y] G') → u D [v0, v1, v2, v3, v4, some (.ref l), v6, v7, v8, some y] G := by
  have T := Z.t
  have hr10 := hr.mono (show 10 ≤ 11 by decide)
  have mtl : (tl, qER) ∈ TTs tn tl := List.mem_cons_of_mem _ List.mem_cons_self
  refine ⟨_, pss_cons (ps_if (pt_not (pt_val (pe_callB call_isX (by rfl) T.isi boot_isinstance (pa_cons (pe_caught (k := 8) Z.fc Z.gc (by rfl) Z.gr TB rfl mtl (TTs.e A2) hr10 (sc := defScope sLaw) rfl (lamS_by (by decide +kernel)) rfl (fun _ _ _ _ _ => rfl)
          (fun A' outer' s' H' E' f' c' hrr => pe_call Z.l.ok hrr (by rfl) Z.l.g Z.l.kp Z.l.b .nil (passes_call (takes_of rfl rfl rfl rfl) fun _ _ _ _ h => h) (pa_cons (pv 9) (pa_cons pe_non pa_nil)))) (pa_cons (pe_glob (v := .ref CB) (by rfl) Z.eW.e.g rfl) pa_nil))))) (pss_one (ps_ret pe_bl)) pss_nil)
    (pss_cons (ps_if (pt_not (pt_val (pe_callB call_isX (by rfl) T.isi boot_isinstance (pa_cons (pe_caught (k := 8) Z.fc Z.gc (by rfl) Z.gr TB rfl mtl (TTs.e A2) hr10 (sc := defScope sLaw) rfl (lamS_by (by decide +kernel)) rfl (fun _ _ _ _ _ => rfl)
          (fun A' outer' s' H' E' f' c' hrr => pe_call Z.l.ok hrr (by rfl) Z.l.g Z.l.kp Z.l.b .nil (passes_call (takes_of rfl rfl rfl rfl) fun _ _ _ _ h => h) (pa_cons (pv 5) (pa_cons (pv 9) pa_nil)))) (pa_cons (pe_glob (v := .ref CB) (by rfl) Z.eW.e.g rfl) pa_nil))))) (pss_one (ps_ret pe_bl)) pss_nil)
    (pss_one (ps_if (pt_not (pt_val (pe_callB call_isX (by rfl) T.isi boot_isinstance (pa_cons (pe_caught (k := 8) Z.fc Z.gc (by rfl) Z.gr TB rfl mtl (TTs.e A2) hr10 (sc := defScope sLaw) rfl (lamS_by (by decide +kernel)) rfl (fun _ _ _ _ _ => rfl)
          (fun A' outer' s' H' E' f' c' hrr => pe_call Z.r.ok hrr (by rfl) Z.r.g Z.r.kp Z.r.b .nil (passes_call (takes_of rfl rfl rfl rfl) fun _ _ _ _ h => h) (pa_cons (pv 9) (pa_cons pe_non pa_nil)))) (pa_cons (pe_glob (v := .ref CB) (by rfl) Z.eW.e.g rfl) pa_nil))))) (pss_one (ps_ret pe_bl)) pss_nil))), ?_⟩
  intro D G v0 v1 v2 v3 v4 v6 v7 v8 l y ws sts hl f2 ok od hT nx
  have DL := DrawD.list (es := sts.map stepPy) (by rw [List.length_map]; have := ok.len; omega) ok.g
  have dok : ∀ {G' : Hp}, ExtN G G' → DrawOk NOW G' (.ref l) sts (.list (sts.map stepPy)) := fun h => ⟨⟨.lst (fun z => by cases z) (h _ _ hl fun _ z => by cases z) (DqAll.of (f2.mono fun _ _ q => Dq.keep (KpE.ext (xs := []) h) _ _ q)), DL.w, DL.r⟩, rfl, ok.goes, fun s hs => (ok.deed s hs).1⟩
  refine ⟨hT, fun N1 e1 T1 => ?_⟩
  obtain ⟨y1, i1, b1⟩ := (od.ext e1).ex
  refine ⟨_, rfl, y, .non, y1, rfl, i1, .inl ⟨b1, fun H2 s2 => ⟨true, Z.eW.x, fun _ ea na => ?_, fun z => by cases z⟩⟩⟩
  have u2 := same_upd (o := Caught (.ref CB) none ea) na
  have e2 := e1.trans (ExtN.of (s2.trans u2))
  have T2 := Tabs.ext T1 (s2.trans u2)
  have hea := upd_same (H := H2) (a := ea) (o := Caught (.ref CB) none ea)
  generalize L2.upd H2 ea (Caught (.ref CB) none ea) = G2 at e2 T2 hea
  refine ⟨ea, CB, none, .ref CB, .ref CB, true, rfl, hea, rfl, Z.eW.c, .own CB, kit_self _, true, rfl, ?_⟩
  refine iteF ?_
  refine ⟨T2, fun N3 e3 T3 => ?_⟩
  have e13 := e2.trans e3
  obtain ⟨y3, i3, b3⟩ := (od.ext e13).ex
  refine ⟨_, rfl, _, rfl, .ref l, y, _, rfl, (dok e13).i, .inr ⟨sts, y3, dok e13, i3, .inl ⟨b3, fun H4 s4 => ⟨true, Z.eW.x, fun _ eb nb => ?_, fun z => by cases z⟩⟩⟩⟩
  have u4 := same_upd (o := Caught (.ref CB) none eb) nb
  have e4 := e13.trans (ExtN.of (s4.trans u4))
  have T4 := Tabs.ext T3 (s4.trans u4)
  have heb := upd_same (H := H4) (a := eb) (o := Caught (.ref CB) none eb)
  generalize L2.upd H4 eb (Caught (.ref CB) none eb) = G4 at e4 T4 heb
  refine ⟨eb, CB, none, .ref CB, .ref CB, true, rfl, heb, rfl, Z.eW.c, .own CB, kit_self _, true, rfl, ?_⟩
  refine iteF ?_
  refine ⟨T4, fun N5 e5 T5 => ?_⟩
  have e15 := e4.trans e5
  obtain ⟨y5, i5, b5⟩ := (od.ext e15).ex
  refine ⟨_, rfl, y, .non, y5, rfl, i5, .inl ⟨b5, fun H6 s6 => ⟨true, Z.eW.x, fun _ ec nc => ?_, fun z => by cases z⟩⟩⟩
  have u6 := same_upd (o := Caught (.ref CB) none ec) nc
  have e6 := e15.trans (ExtN.of (s6.trans u6))
  have T6 := Tabs.ext T5 (s6.trans u6)
  have hec := upd_same (H := H6) (a := ec) (o := Caught (.ref CB) none ec)
  generalize L2.upd H6 ec (Caught (.ref CB) none ec) = G6 at e6 T6 hec
  refine ⟨ec, CB, none, .ref CB, .ref CB, true, rfl, hec, rfl, Z.eW.c, .own CB, kit_self _, true, rfl, ?_⟩
  refine iteF ?_
  exact nx _ e6 T6
end
end Own
set_option Elab.async false
set_option linter.all false
set_option maxRecDepth 100000
set_option maxHeartbeats 1000000
namespace Own
open PySem PySem.Spec PyProof.Rows L2 LamX
section
variable {P : Program} {w : World} {K : PySem.W.Frag} {mg : Str → Option Value} {base : Heap} {CB CT CC CR fC tn tl : Addr} {dSh dD dCh dTb dRR dBe dEx dM dL dR dC : FuncData}
def OneD (G : Hp) (x : V) : Prop := (∃ z, x = .str z) ∨ ∃ d ds one, x = .ref d ∧ G d = some (.lst ds) ∧ F2 (Dq [] G) ds (one.map stepPy) ∧ StepsOk one
theorem OneD.ext {H H' : Hp} {y : V} (h : OneD H y) (e : ExtN H H') : OneD H' y := by
  rcases h with h | ⟨d, ds, one, rfl, hd, fd, ok⟩
  · exact .inl h
  · exact .inr ⟨d, ds, one, rfl, e _ _ hd (fun _ z => by cases z), fd.mono fun _ _ q => Dq.keep (KpE.ext (xs := []) e) _ _ q, ok⟩
theorem disp_same {H : Hp} {q : Addr} {kvs : List (Key × V)} (nq : H q = none) : Same H (L2.upd (L2.upd H q (.dK [])) q (.dK kvs)) := fun b o e => by
  rw [upd_ne (ne_of_none e nq), upd_ne (ne_of_none e nq)]
  exact e
theorem bad_of {H : Hp} {q : Addr} {k : Key} {v : V} {d : PyData} (h : H q = some (.dK [(k, v)])) (hd : Dq [q] H v d) (h1 : vdb d = true) (h2 : vdb (kD k) = true) (h3 : (nameB (kD k) && nameB d) = false) : BadTb H (.ref q) := by
  refine .inr ⟨q, [(k, v)], [d], rfl, ⟨h, (by show 1 ≤ 1000; decide), .cons ⟨hd, h1, h2⟩ .nil⟩, ?_⟩
  show ((nameB (kD k) && nameB d) && true) = false
  rw [h3]
  rfl
theorem mput {k : Key} {v : V} : mergeK [] [(k, v)] = [(k, v)] := rfl
theorem disp1 {H : Hp} {q : Addr} {k : Key} {v : V} (nq : H q = none) : Same H (L2.upd (L2.upd H q (.dK [])) q (.dK (mergeK [] [(k, v)]))) ∧ (L2.upd (L2.upd H q (.dK [])) q (.dK (mergeK [] [(k, v)]))) q = some (.dK [(k, v)]) := ⟨disp_same nq, by rw [upd_same, mput]⟩
theorem tab_data : (vdb (.int 5) = true ∧ vdb (kD (.inl 5)) = true ∧ vdb (.str "a") = true ∧ vdb (.list [.str "b"]) = true ∧ vdb (.str "A") = true ∧ vdb (.str "b") = true ∧ vdb (.str "toolongname") = true ∧ vdb (.str "") = true) ∧
    nameB (.str "A") = false ∧ nameB (.str "toolongname") = false ∧ nameB (.str "") = false := by decide +kernel
theorem odd_data : wdb .none = true ∧ drawV SHEET .none = false ∧ wdb (.dict []) = true ∧ drawV SHEET (.dict []) = false ∧ wdb (.list [.list [.str "a", .tuple [.str "gauge", .str "o", .str "u"]]]) = true ∧ drawV SHEET (.list [.list [.str "a", .tuple [.str "gauge", .str "o", .str "u"]]]) = false := by decide +kernel
theorem odd_b : DeedOk ⟨"meet", ["o", "u", "notthere", "vv"], []⟩ ∧ NameOk "b" ∧ ("notthere" : Str) ∉ NMS := by
  refine ⟨⟨4, 0, by decide +kernel, rfl, by decide +kernel, rfl, fun z h => by cases h⟩, by decide +kernel, by decide +kernel⟩
def dB : Deed := ⟨"meet", ["o", "u", "notthere", "vv"], []⟩
def sB : Str × Deed := ("b", dB)
theorem odd_app {sts : List (Str × Deed)} (ok : StepsOk sts) : drawV SHEET (.list ((sts ++ [sB]).map stepPy)) = false ∧ wdb (.list ((sts ++ [sB]).map stepPy)) = true ∧ ∀ e ∈ (sts ++ [sB]).map stepPy, StepRd NOW e := by
  obtain ⟨o1, o2, o3⟩ := odd_b
  have each : ∀ s ∈ sts ++ [sB], NameOk s.1 ∧ DeedOk s.2 := fun s hs => by
    rcases List.mem_append.mp hs with h | h
    · exact ok.like.nm s h
    · rw [List.mem_singleton.mp h]
      exact ⟨o2, o1⟩
  refine ⟨?_, ?_, fun e he => ?_⟩
  · cases h : drawV SHEET (.list ((sts ++ [sB]).map stepPy)) with
    | false => rfl
    | true =>
      exfalso
      have g : goesB SHEET ((sts ++ [sB]).map stepPy) = true := h
      rw [goes_app, goes_cons] at g
      have q := g.2.1.names o1 "notthere" (by decide)
      rcases List.mem_append.mp q with q | q
      · exact o3 (sheet_nms _ q)
      · obtain ⟨s, hs, e⟩ := List.mem_map.mp q
        exact o3 (by rw [← e]; exact ok.name s hs)
  · show (decide (((sts ++ [sB]).map stepPy).length ≤ 1000) && ((sts ++ [sB]).map stepPy).all vdb) = true
    have l8 := ok.len
    rw [List.length_map, List.length_append, decide_eq_true (show sts.length + [sB].length ≤ 1000 by show sts.length + 1 ≤ 1000; omega), Bool.true_and, List.all_eq_true]
    intro e he
    obtain ⟨s, hs, rfl⟩ := List.mem_map.mp he
    unfold vdb
    rw [(gdb_step (each s hs).1 (each s hs).2).1, Bool.or_true]
  · obtain ⟨s, hs, rfl⟩ := List.mem_map.mp he
    intro a b q
    injection q with q
    injection q with _ q
    injection q with q
    rw [← q]
    exact Ready.py (each s hs).2
theorem lw5 (Z : LWK P w K mg base CB CT CC CR fC tn tl dSh dD dCh dTb dRR dBe dEx dM dL dR dC) (TB : TabB base mg (He.codeOf K ("law", none)) tl) (A2 : tn ≠ tl) (A : Around) (outer : List Env) (s : Shared) (H : Hp) (E : XK) (hr : Room 11 (A.deeper (envLW K s))) :
    ∃ u, PSs (cxOf CX0 P w K mg base nsLaw "law" (defScope sLaw) (He.ga K "law") (.ref (He.codeOf K ("law", none))) A outer s H E).nox (lwTurn.drop 5) u ∧
      ∀ (D : Ends) (G : Hp) (v0 v1 v2 v3 v4 v8 v9 : Option V) (l : Addr) (xo xf : V) (ws : List V) (sts : List (Str × Deed)), G l = some (.lst ws) → F2 (Dq [] G) ws (sts.map stepPy) → StepsOk sts → sts.length ≤ 6 → OneD G xo → OneD G xf → Tabs (TTs tn tl) G →
        (∀ v8 v9 G', ExtN G G' → Tabs (TTs tn tl) G' → D.nx [v0, v1, v2, v3, v4, some (.ref l), some xo, some xf, v8, v9] G') → u D [v0, v1, v2, v3, v4, some (.ref l), some xo, some xf, v8, v9] G := by
  obtain ⟨u1, p1, q1⟩ := lw_ones Z A outer s H E hr
  obtain ⟨u2, p2, q2⟩ := lw_tabs Z TB A2 A outer s H E hr
  obtain ⟨u3, p3, q3⟩ := lw_odds Z TB A2 A outer s H E hr
  refine ⟨_, pss_cons (ps_for PassesOwn.never rfl (pi_list (pe_lst (pa_cons (pv 6) (pa_cons (pv 7) pa_nil)))) (pg_name (i := 8) scLaw.nd rfl (Or.inl rfl)) p1)
    (pss_cons (ps_for PassesOwn.never rfl (pi_list (pe_lst (pa_cons pe_non (pa_cons (pe_lst pa_nil) (pa_cons pe_str (pa_cons (pe_disp (pps_cons pe_str pe_int pps_nil) (by rfl) (by rfl) (fun z => by cases z) (by decide)) (pa_cons (pe_disp (pps_cons pe_int pe_str pps_nil) (by rfl) (by rfl) (fun z => by cases z) (by decide))
        (pa_cons (pe_disp (pps_cons pe_str (pe_lst (pa_cons pe_str pa_nil)) pps_nil) (by rfl) (by rfl) (fun z => by cases z) (by decide)) (pa_cons (pe_disp (pps_cons pe_str pe_str pps_nil) (by rfl) (by rfl) (fun z => by cases z) (by decide)) (pa_cons (pe_disp (pps_cons pe_str pe_str pps_nil) (by rfl) (by rfl) (fun z => by cases z) (by decide)) (pa_cons (pe_disp (pps_cons pe_str pe_str pps_nil) (by rfl) (by rfl) (fun z => by cases z) (by decide)) pa_nil))))))))))) (pg_name (i := 9) scLaw.nd rfl (Or.inr rfl)) p2)
    (pss_cons (ps_for PassesOwn.never rfl (pi_list (pe_lst (pa_cons pe_non (pa_cons pe_dnewK (pa_cons (pe_op op_cat (pv 5) (pe_lst (pa_cons (pe_tup (pa_cons pe_str (pa_cons (pe_tup (pa_cons pe_str (pa_cons pe_str (pa_cons pe_str (pa_cons pe_str (pa_cons pe_str pa_nil)))))) pa_nil))) pa_nil))) (pa_cons (pe_lst (pa_cons (pe_lst (pa_cons pe_str (pa_cons (pe_tup (pa_cons pe_str (pa_cons pe_str (pa_cons pe_str pa_nil)))) pa_nil))) pa_nil)) pa_nil)))))) (pg_name (i := 9) scLaw.nd rfl (Or.inr rfl)) p3) pss_nil)), ?_⟩
  intro D G v0 v1 v2 v3 v4 v8 v9 l xo xf ws sts hl f2 ok l6 ho hf hT nx
  have le : ∀ n : Nat, n ≤ 1000 → n ≤ sizeLine := fun n h => Nat.le_trans h (by decide)
  refine ⟨_, rfl, _, rfl, le 2 (by decide), fun L nL => ?_⟩
  have s1 := same_upd (o := .lst [xo, xf]) nL
  have hL := upd_same (H := G) (a := L) (o := .lst [xo, xf])
  generalize L2.upd G L (.lst [xo, xf]) = G1 at s1 hL
  refine ⟨L, rfl, ⟨_, SqL.of hL⟩, ?_⟩
  refine for_list (K := K) (a := L) (xs := [xo, xf]) (fun i σ G' => ∃ v8, σ = [v0, v1, v2, v3, v4, some (.ref l), some xo, some xf, v8, v9] ∧ Same G1 G') ⟨_, rfl, Same.refl _⟩ (fun i σ G' _ q => by obtain ⟨_, _, sG⟩ := q; exact SqL.of (sG _ _ hL)) ?_ ?_
  · rintro i x σ G' hx ⟨v8, rfl, sG⟩
    have s1G := s1.trans sG
    have hx' : OneD G x := by
      match i, hx with
      | 0, hx => cases hx; exact ho
      | 1, hx => cases hx; exact hf
    refine q1 _ G' v0 v1 v2 v3 v4 _ _ v9 l x ws sts (s1G _ _ hl) (f2.mono fun _ _ q => q.same s1G) ok (hx'.ext (ExtN.of s1G)) (fun G2 s2 => ⟨_, rfl, sG.trans s2⟩) (fun G2 s2 => ⟨_, rfl, sG.trans s2⟩)
  rintro σ G2 ⟨v8, rfl, sG2⟩
  have s12 := s1.trans sG2
  obtain ⟨⟨v5, vk, va, vl, vA, vb, vt, ve⟩, nA, nt, ne⟩ := tab_data
  refine ⟨le 0 (by decide), fun em nem => ?_⟩
  have x1 := same_upd (o := .lst []) nem
  have hem := upd_same (H := G2) (a := em) (o := .lst [])
  generalize L2.upd G2 em (.lst []) = M1 at x1 hem ⊢
  intro c1 nc1
  refine ⟨upd_same, [(Sum.inr "a", .int 5)], rfl, by decide, ?_⟩
  obtain ⟨x2, h2⟩ := disp1 (k := Sum.inr "a") (v := .int 5) nc1
  generalize L2.upd (L2.upd M1 c1 (.dK [])) c1 (.dK (mergeK [] [(Sum.inr "a", .int 5)])) = M2 at x2 h2 ⊢
  have b2 : BadTb M2 (.ref c1) := bad_of h2 (.int 5) v5 va (by rw [show nameB (.int 5) = false from rfl, Bool.and_false])
  intro c2 nc2
  refine ⟨upd_same, [(Sum.inl 5, .str "a")], rfl, by decide, ?_⟩
  obtain ⟨x3, h3⟩ := disp1 (k := Sum.inl 5) (v := .str "a") nc2
  generalize L2.upd (L2.upd M2 c2 (.dK [])) c2 (.dK (mergeK [] [(Sum.inl 5, .str "a")])) = M3 at x3 h3 ⊢
  have b3 : BadTb M3 (.ref c2) := bad_of h3 (.str _) va vk rfl
  intro c3 nc3
  refine ⟨le 1 (by decide), fun lb nlb => ?_⟩
  have n3l : c3 ≠ lb := fun e => by rw [← e, upd_same] at nlb; cases nlb
  refine ⟨by rw [upd_ne n3l, upd_same], [(Sum.inr "a", .ref lb)], rfl, (by show 1 ≤ 15; decide), ?_⟩
  have h4 : (L2.upd (L2.upd (L2.upd M3 c3 (.dK [])) lb (.lst [V.str "b"])) c3 (.dK (mergeK [] [(Sum.inr "a", .ref lb)]))) c3 = some (.dK [(Sum.inr "a", .ref lb)]) := by rw [upd_same, mput]
  have h4l : (L2.upd (L2.upd (L2.upd M3 c3 (.dK [])) lb (.lst [V.str "b"])) c3 (.dK (mergeK [] [(Sum.inr "a", .ref lb)]))) lb = some (.lst [V.str "b"]) := by rw [upd_ne n3l.symm, upd_same]
  have x4 : Same M3 (L2.upd (L2.upd (L2.upd M3 c3 (.dK [])) lb (.lst [V.str "b"])) c3 (.dK (mergeK [] [(Sum.inr "a", .ref lb)]))) := fun b o e => by
    have n1 : b ≠ c3 := ne_of_none e nc3
    have n2 : b ≠ lb := fun z => by
      rw [z] at e
      have : (L2.upd M3 c3 (.dK [])) lb = some o := by rw [upd_ne n3l.symm]; exact e
      rw [nlb] at this
      cases this
    rw [upd_ne n1, upd_ne n2, upd_ne n1]
    exact e
  generalize L2.upd (L2.upd (L2.upd M3 c3 (.dK [])) lb (.lst [V.str "b"])) c3 (.dK (mergeK [] [(Sum.inr "a", .ref lb)])) = M4 at x4 h4 h4l ⊢
  have b4 : BadTb M4 (.ref c3) := bad_of (d := .list [.str "b"]) h4 (.lst (by simpa using n3l.symm) h4l (.cons (.str _) .nil)) vl va (by rw [show nameB (.list [.str "b"]) = false from rfl, Bool.and_false])
  intro c4 nc4
  refine ⟨upd_same, [(Sum.inr "A", .str "b")], rfl, by decide, ?_⟩
  obtain ⟨x5, h5⟩ := disp1 (k := Sum.inr "A") (v := .str "b") nc4
  generalize L2.upd (L2.upd M4 c4 (.dK [])) c4 (.dK (mergeK [] [(Sum.inr "A", .str "b")])) = M5 at x5 h5 ⊢
  have b5 : BadTb M5 (.ref c4) := bad_of h5 (.str _) vb vA (by rw [show nameB (kD (Sum.inr "A")) = false from nA]; rfl)
  intro c5 nc5
  refine ⟨upd_same, [(Sum.inr "a", .str "toolongname")], rfl, by decide, ?_⟩
  obtain ⟨x6, h6⟩ := disp1 (k := Sum.inr "a") (v := .str "toolongname") nc5
  generalize L2.upd (L2.upd M5 c5 (.dK [])) c5 (.dK (mergeK [] [(Sum.inr "a", .str "toolongname")])) = M6 at x6 h6 ⊢
  have b6 : BadTb M6 (.ref c5) := bad_of h6 (.str _) vt va (by rw [nt, Bool.and_false])
  intro c6 nc6
  refine ⟨upd_same, [(Sum.inr "a", .str "")], rfl, by decide, ?_⟩
  obtain ⟨x7, h7⟩ := disp1 (k := Sum.inr "a") (v := .str "") nc6
  generalize L2.upd (L2.upd M6 c6 (.dK [])) c6 (.dK (mergeK [] [(Sum.inr "a", .str "")])) = M7 at x7 h7 ⊢
  have b7 : BadTb M7 (.ref c6) := bad_of h7 (.str _) ve va (by rw [ne, Bool.and_false])
  refine ⟨le 9 (by decide), fun LT nLT => ?_⟩
  have x8 := same_upd (o := .lst [V.non, .ref em, .str "a", .ref c1, .ref c2, .ref c3, .ref c4, .ref c5, .ref c6]) nLT
  have hLT := upd_same (H := M7) (a := LT) (o := .lst [V.non, .ref em, .str "a", .ref c1, .ref c2, .ref c3, .ref c4, .ref c5, .ref c6])
  generalize L2.upd M7 LT (.lst [V.non, .ref em, .str "a", .ref c1, .ref c2, .ref c3, .ref c4, .ref c5, .ref c6]) = M8 at x8 hLT ⊢
  have x78 := x7.trans x8
  have x68 := x6.trans x78
  have x58 := x5.trans x68
  have x48 := x4.trans x58
  have x38 := x3.trans x48
  have x28 := x2.trans x38
  have s18 := (s12.trans x1).trans x28
  have allB : ∀ x ∈ [V.non, .ref em, .str "a", .ref c1, .ref c2, .ref c3, .ref c4, .ref c5, .ref c6], BadTb M8 x := fun x hx => by
    simp only [List.mem_cons, List.not_mem_nil, or_false] at hx
    rcases hx with rfl | rfl | rfl | rfl | rfl | rfl | rfl | rfl | rfl
    · exact .inl ⟨.none, .non, rfl⟩
    · exact .inl ⟨.list [], .lst (by simp) (x28 _ _ hem) .nil, rfl⟩
    · exact .inl ⟨.str "a", .str _, rfl⟩
    · exact b2.ext (ExtN.of x38)
    · exact b3.ext (ExtN.of x48)
    · exact b4.ext (ExtN.of x58)
    · exact b5.ext (ExtN.of x68)
    · exact b6.ext (ExtN.of x78)
    · exact b7.ext (ExtN.of x8)
  refine ⟨LT, rfl, ⟨_, SqL.of hLT⟩, ?_⟩
  refine for_list (K := K) (a := LT) (fun i σ G' => ∃ v9, σ = [v0, v1, v2, v3, v4, some (.ref l), some xo, some xf, v8, v9] ∧ ExtN M8 G' ∧ Tabs (TTs tn tl) G') ⟨_, rfl, ExtN.refl _, Tabs.ext hT s18⟩ (fun i σ G' _ q => by obtain ⟨_, _, eG, _⟩ := q; exact SqL.of (eG _ _ hLT fun _ z => by cases z)) ?_ ?_
  · rintro i x σ G' hx ⟨v9, rfl, eG, TG⟩
    have e1G := (ExtN.of s18).trans eG
    refine q2 _ G' v0 v1 v2 v3 v4 _ _ _ l x ws sts (e1G _ _ hl fun _ z => by cases z) (f2.mono fun _ _ q => Dq.keep (KpE.ext (xs := []) e1G) _ _ q) ok ((allB x (List.mem_of_getElem? hx)).ext eG) TG fun G3 e3 T3 => ⟨_, rfl, eG.trans e3, T3⟩
  rintro σ G3 ⟨v9, rfl, eG3, T3⟩
  have e13 := (ExtN.of s18).trans eG3
  obtain ⟨p1', p2', p3', p4', p5', p6'⟩ := odd_data
  obtain ⟨a1, a2, a3⟩ := odd_app ok
  have hl3 := e13 _ _ hl fun _ z => by cases z
  have f23 := f2.mono fun _ _ q => Dq.keep (KpE.ext (xs := []) e13) _ _ q
  have lws := f2.len
  rw [List.length_map] at lws
  intro c7 nc7
  have y1 := same_upd (o := .dK []) nc7
  have hc7 := upd_same (H := G3) (a := c7) (o := .dK [])
  generalize L2.upd G3 c7 (.dK []) = R1 at y1 hc7 ⊢
  refine ⟨_, rfl, le 5 (by decide), fun t1 n1 => ⟨le 2 (by decide), fun t2 n2 => ⟨le 1 (by decide), fun l1 nl1 => ?_⟩⟩⟩
  have y2 := same_upd (o := .tup [V.str "meet", .str "o", .str "u", .str "notthere", .str "vv"]) n1
  have g2 := upd_same (H := R1) (a := t1) (o := .tup [V.str "meet", .str "o", .str "u", .str "notthere", .str "vv"])
  generalize L2.upd R1 t1 (.tup [V.str "meet", .str "o", .str "u", .str "notthere", .str "vv"]) = R2 at y2 g2 n2 nl1 ⊢
  have y3 := same_upd (o := .tup [V.str "b", .ref t1]) n2
  have g3 := upd_same (H := R2) (a := t2) (o := .tup [V.str "b", .ref t1])
  generalize L2.upd R2 t2 (.tup [V.str "b", .ref t1]) = R3 at y3 g3 nl1 ⊢
  have y4 := same_upd (o := .lst [V.ref t2]) nl1
  have g4 := upd_same (H := R3) (a := l1) (o := .lst [V.ref t2])
  generalize L2.upd R3 l1 (.lst [V.ref t2]) = R4 at y4 g4 ⊢
  have y14 := ((y1.trans y2).trans y3).trans y4
  refine ⟨l, l1, ws, [V.ref t2], rfl, rfl, y14 _ _ hl3, g4, le _ (by show ws.length + 1 ≤ 1000; omega), fun lx nlx => ?_⟩
  have y5 := same_upd (o := .lst (ws ++ [V.ref t2])) nlx
  have g5 := upd_same (H := R4) (a := lx) (o := .lst (ws ++ [V.ref t2]))
  generalize L2.upd R4 lx (.lst (ws ++ [V.ref t2])) = R5 at y5 g5 ⊢
  refine ⟨le 3 (by decide), fun t3 n3 => ⟨le 2 (by decide), fun l3 nl3 => ⟨le 1 (by decide), fun l4 nl4 => ⟨le 4 (by decide), fun LD nLD => ?_⟩⟩⟩⟩
  have y6 := same_upd (o := .tup [V.str "gauge", .str "o", .str "u"]) n3
  have g6 := upd_same (H := R5) (a := t3) (o := .tup [V.str "gauge", .str "o", .str "u"])
  generalize L2.upd R5 t3 (.tup [V.str "gauge", .str "o", .str "u"]) = R6 at y6 g6 nl3 nl4 nLD ⊢
  have y7 := same_upd (o := .lst [V.str "a", .ref t3]) nl3
  have g7 := upd_same (H := R6) (a := l3) (o := .lst [V.str "a", .ref t3])
  generalize L2.upd R6 l3 (.lst [V.str "a", .ref t3]) = R7 at y7 g7 nl4 nLD ⊢
  have y8 := same_upd (o := .lst [V.ref l3]) nl4
  have g8 := upd_same (H := R7) (a := l4) (o := .lst [V.ref l3])
  generalize L2.upd R7 l4 (.lst [V.ref l3]) = R8 at y8 g8 nLD ⊢
  have y9 := same_upd (o := .lst [V.non, .ref c7, .ref lx, .ref l4]) nLD
  have g9 := upd_same (H := R8) (a := LD) (o := .lst [V.non, .ref c7, .ref lx, .ref l4])
  generalize L2.upd R8 LD (.lst [V.non, .ref c7, .ref lx, .ref l4]) = R9 at y9 g9 ⊢
  have y89 := y8.trans y9
  have y79 := y7.trans y89
  have y69 := y6.trans y79
  have y59 := y5.trans y69
  have y49 := y4.trans y59
  have y39 := y3.trans y49
  have y29 := y2.trans y39
  have y19 := y1.trans y29
  have allD : ∀ x ∈ [V.non, .ref c7, .ref lx, .ref l4], OddD R9 x := fun x hx => by
    simp only [List.mem_cons, List.not_mem_nil, or_false] at hx
    rcases hx with rfl | rfl | rfl | rfl
    · exact ⟨.none, ⟨.non, p1', fun ds h => by cases h⟩, p2'⟩
    · exact ⟨.dict [], ⟨.dict (by simp) (y29 _ _ hc7), p3', fun ds h => by cases h⟩, p4'⟩
    · refine ⟨.list ((sts ++ [sB]).map stepPy), ⟨.lst (by simp) (y69 _ _ g5) (DqAll.of ?_), a2, fun ds h e he => ?_⟩, a1⟩
      · rw [List.map_append]
        refine (f23.mono fun _ _ q => q.same y19).app (.cons ?_ .nil)
        exact .tup (by simp) (y49 _ _ g3) (.cons (.str _) (.cons (Dq.of_deed (d := dB) (by simp) (y39 _ _ g2)) .nil))
      · injection h with h
        rw [← h] at he
        exact a3 e he
    · refine ⟨.list [.list [.str "a", .tuple [.str "gauge", .str "o", .str "u"]]], ⟨.lst (by simp) (y9 _ _ g8) (.cons (.lst (by simp) (y89 _ _ g7) (.cons (.str _) (.cons (.tup (by simp) (y79 _ _ g6) (.cons (.str _) (.cons (.str _) (.cons (.str _) .nil)))) .nil))) .nil), p5', fun ds h e he => ?_⟩, p6'⟩
      injection h with h
      rw [← h] at he
      rw [List.mem_singleton.mp he]
      intro a b q
      cases q
  refine ⟨LD, rfl, ⟨_, SqL.of g9⟩, ?_⟩
  refine for_list (K := K) (a := LD) (fun i σ G' => ∃ v9, σ = [v0, v1, v2, v3, v4, some (.ref l), some xo, some xf, v8, v9] ∧ ExtN R9 G' ∧ Tabs (TTs tn tl) G') ⟨_, rfl, ExtN.refl _, Tabs.ext T3 y19⟩ (fun i σ G' _ q => by obtain ⟨_, _, eG, _⟩ := q; exact SqL.of (eG _ _ g9 fun _ z => by cases z)) ?_ ?_
  · rintro i x σ G' hx ⟨v9, rfl, eG, TG⟩
    have e1G := (e13.trans (ExtN.of y19)).trans eG
    refine q3 _ G' v0 v1 v2 v3 v4 _ _ _ l x ws sts (e1G _ _ hl fun _ z => by cases z) (f2.mono fun _ _ q => Dq.keep (KpE.ext (xs := []) e1G) _ _ q) ok ((allD x (List.mem_of_getElem? hx)).ext eG) TG fun G4 e4 T4 => ⟨_, rfl, eG.trans e4, T4⟩
  rintro σ G5 ⟨v9, rfl, eG5, T5⟩
  exact nx _ _ _ ((e13.trans (ExtN.of y19)).trans eG5) T5
end
end Own
set_option Elab.async false
set_option linter.all false
set_option maxRecDepth 100000
set_option maxHeartbeats 1000000
namespace Own
open PySem PySem.Spec PyProof.Rows L2 LamX
theorem form_fok : ∀ t ∈ FORM, fok (.str t.1) = true := by decide +kernel
theorem words_fok {ys : List Str} (W : WordsL ys) : (ys.map V.str).all fok = true := by
  rw [List.all_map, List.all_eq_true]
  intro y hy
  obtain ⟨m, k, hm⟩ := W.mem y hy
  exact form_fok _ hm
section
variable {P : Program} {w : World} {K : PySem.W.Frag} {mg : Str → Option Value} {base : Heap} {CB CT CC CR fC tn tl : Addr} {dSh dD dCh dTb dRR dBe dEx dM dL dR dC : FuncData}
theorem lw0 (Z : LWK P w K mg base CB CT CC CR fC tn tl dSh dD dCh dTb dRR dBe dEx dM dL dR dC) (TB : TabB base mg (He.codeOf K ("law", none)) tl) (A2 : tn ≠ tl) (A : Around) (outer : List Env) (s : Shared) (H : Hp) (E : XK) (hg : (A.deeper (envLW K s)).guards = some []) (hr : Room 11 (A.deeper (envLW K s))) :
    ∃ u, PSs (cxOf CX0 P w K mg base nsLaw "law" (defScope sLaw) (He.ga K "law") (.ref (He.codeOf K ("law", none))) A outer s H E).nox lwTurn u ∧
      ∀ (D : Ends) (G : Hp) (a lw lc : Addr) (t : Nat) (pw : Addr) (ys : List Str) (v0 v3 v4 v5 v6 v7 v8 v9 : Option V), StA G a lw lc t → t < 2 ^ 36 → Tabs (TTs tn tl) G → G pw = some (.lst (ys.map V.str)) → pw ∉ [a, lw] → WordsL ys → 5 ≤ ys.length →
        (∀ v4 v5 v6 v7 v8 v9 G', Stay a lw lc (t + 2000) (TTs tn tl) G G' → D.nx [v0, some (.ref a), some (.ref pw), v3, v4, v5, v6, v7, v8, v9] G') →
        u D [v0, some (.ref a), some (.ref pw), v3, v4, v5, v6, v7, v8, v9] G := by
  obtain ⟨up, pp, hp0⟩ := lw5 Z TB A2 A outer s H E hr
  have T := Z.t
  have hr2 := hr.mono (show 2 ≤ 11 by decide)
  have hr3 := hr.mono (show 3 ≤ 11 by decide)
  have hr4 := hr.mono (show 4 ≤ 11 by decide)
  have hr5 := hr.mono (show 5 ≤ 11 by decide)
  refine ⟨_, pss_cons (ps_set (i := 4) scLaw.nd rfl (.inl rfl) (pe_slice sl_list (pe_call Z.sh.ok hr3 (by rfl) Z.sh.g Z.sh.kp Z.sh.b .nil pass0 (pa_cons (pv 1) (pa_cons (pv 2) pa_nil))) po_none (po_some (pe_op op_add pe_int (pe_call Z.d.ok hr2 (by rfl) Z.d.g Z.d.kp Z.d.b .nil pass0 (pa_cons (pv 1) (pa_cons pe_int pa_nil)))))))
    (pss_cons (ps_set (i := 5) scLaw.nd rfl (.inr rfl) (pe_call Z.ch.ok hr5 (by rfl) Z.ch.g Z.ch.kp Z.ch.b .nil pass0 (pa_cons (pv 1) (pa_cons (pe_call Z.d.ok hr2 (by rfl) Z.d.g Z.d.kp Z.d.b .nil pass0 (pa_cons (pv 1) (pa_cons pe_int pa_nil))) (pa_cons (pv 4) (pa_cons pe_int pa_nil))))))
    (pss_cons (ps_if (pt_not (pt_val (pe_callG Z.rr hg hr (by rfl) Z.rrg Z.rrk Z.rrb pass0 (pa_cons (pv 1) (pa_cons (pv 5) (pa_cons (pe_call Z.tb.ok hr4 (by rfl) Z.tb.g Z.tb.kp Z.tb.b .nil pass0 (pa_cons (pv 1) (pa_cons (pv 5) pa_nil))) pa_nil)))))) (pss_one (ps_ret pe_bl)) pss_nil)
    (pss_cons (ps_set (i := 6) scLaw.nd rfl (.inl rfl) (pe_call Z.be.ok hr5 (by rfl) Z.be.g Z.be.kp Z.be.b .nil pass0 (pa_cons (pv 1) (pa_cons (pv 5) pa_nil))))
    (pss_cons (ps_set (i := 7) scLaw.nd rfl (.inl rfl) (pe_call Z.ex.ok hr4 (by rfl) Z.ex.g Z.ex.kp Z.ex.b .nil pass0 (pa_cons (pv 6) (pa_cons (pe_call Z.tb.ok hr4 (by rfl) Z.tb.g Z.tb.kp Z.tb.b .nil pass0 (pa_cons (pv 1) (pa_cons (pv 6) pa_nil))) pa_nil)))) pp)))), ?_⟩
  intro D G a lw lc t pw ys v0 v3 v4 v5 v6 v7 v8 v9 S ht hT hpw opw W y5 nx
  have yl := W.most
  have st0 : Stay a lw lc t (TTs tn tl) G G := ⟨S, hT, KpE.refl _ _⟩
  refine ⟨_, rfl, _, rfl, a, lw, lc, t, pw, ys, rfl, S, by omega, hpw, words_fok W, by omega, fun p ms G1 pm lm hms S1 K1 np hp => ?_⟩
  have st1 := st0.kp S1 K1
  refine ⟨_, rfl, a, lw, lc, _, _, rfl, S1, by omega, by decide, by decide, fun z G2 z0 z4 S2 K2 => ?_⟩
  obtain ⟨j, rfl⟩ : ∃ j : Nat, z = (j : Int) := ⟨z.toNat, by omega⟩
  have st2 := st1.kp S2 K2
  have op : p ∉ [a, lw] := (S.new np).1
  have hp2 := K2 _ _ hp op
  refine ⟨_, _, rfl, rfl, _, rfl, p, _, rfl, SqL.of hp2, fun q nq => ?_⟩
  have ec : cutV (ms.map V.str) none (some ((2 : Int) + (j : Int))) = (ms.take (2 + j)).map V.str := by
    have e : (2 : Int) + (j : Int) = ((2 + j : Nat) : Int) := by omega
    have le : 2 + j ≤ (ms.map V.str).length := by rw [List.length_map]; omega
    rw [e, cut_to le, List.map_take]
  rw [ec]
  have s3 := same_upd (o := .lst ((ms.take (2 + j)).map V.str)) nq
  have hq := upd_same (H := G2) (a := q) (o := .lst ((ms.take (2 + j)).map V.str))
  have oq := (S2.new nq).1
  have st3 := st2.same s3
  generalize L2.upd G2 q (.lst ((ms.take (2 + j)).map V.str)) = G3 at hq st3
  have Wq : WordsL (ms.take (2 + j)) := by
    refine ⟨?_, ?_, fun y hy => W.mem y (hms y (List.mem_of_mem_take hy))⟩
    · rw [List.length_take]
      omega
    · rw [List.length_take]
      omega
  refine ⟨_, rfl, _, rfl, a, lw, lc, _, _, rfl, st3.s, by omega, by decide, by decide, fun z G4 z0 z7 S4 K4 => ?_⟩
  obtain ⟨m, rfl⟩ : ∃ m : Nat, z = (m : Int) := ⟨z.toNat, by omega⟩
  have st4 := st3.kp S4 K4
  refine ⟨_, rfl, a, lw, lc, _, m, q, _, 2, rfl, S4, by omega, by omega, K4 _ _ hq oq, oq, Wq, fun l ws ds G5 so lds f2 ol olc nl hl S5 K5 => ?_⟩
  have st5 := st4.kp S5 K5
  have f2' : F2 (Dq [a, lw] G5) ws (ds.map stepPy) := f2.mono fun _ _ q => Dq.weak (fun b hb => by
    simp only [List.mem_cons, List.not_mem_nil, or_false] at hb ⊢
    rcases hb with h | h
    · exact .inl h
    · exact .inr (.inl h)) _ _ q
  have l5 : ds.length ≤ 5 := by omega
  -- a table, judged
  refine ⟨_, rfl, _, rfl, _, rfl, _, rfl, a, lw, lc, _, l, ws, ds, rfl, S5, by omega, hl, ol, f2_name f2', by omega, so.name, fun TD tb G6 ltb okT S6 K6 nTD hTD => ?_⟩
  have st6 := st5.kp S6 K6
  have hl6 := K6 _ _ hl ol
  have f26 := f2'.mono fun _ _ q => Dq.keep (KpE.of K6) _ _ q
  refine ⟨.ref a, l, TD, ws, ds, tb, rfl, hl6, f26.mono fun _ _ q => q.none_N, so, l5, hTD, ltb, okT, st6.t, fun G7 e7 T7 => ⟨_, rfl, ?_⟩⟩
  refine iteF ?_
  have st7 := st6.ext e7 T7
  have hl7 := e7 _ _ hl6 fun _ z => by cases z
  have f27 := f26.mono fun _ _ q => Dq.keep (KpE.ext (xs := [a, lw]) e7) _ _ q
  -- a bent one
  refine ⟨_, rfl, _, rfl, a, lw, lc, _, l, ws, ds, rfl, st7.s, by omega, hl7, ol, f27, so, by omega, fun lo wo bs G8 sb lb fb nlo hlo S8 K8 => ?_⟩
  have st8 := st7.kp S8 K8
  have olo := (st7.s.new nlo).1
  have hl8 := K8 _ _ hl7 ol
  have f28 := f27.mono fun _ _ q => Dq.keep (KpE.of K8) _ _ q
  refine ⟨_, rfl, _, rfl, _, rfl, a, lw, lc, _, lo, wo, bs, rfl, S8, by omega, hlo, olo, f2_name fb, by omega, sb.name, fun TE2 tb2 G9 ltb2 okT2 S9 K9 nTE hTE => ?_⟩
  have st9 := st8.kp S9 K9
  have hl9 := K9 _ _ hl8 ol
  have hlo9 := K9 _ _ hlo olo
  have f29 := f28.mono fun _ _ q => Dq.keep (KpE.of K9) _ _ q
  have fb9 := fb.mono fun _ _ q => Dq.keep (KpE.of K9) _ _ q
  have last : ∀ {G10 : Hp} {xf : V}, Same G9 G10 → OneD G10 xf → _ := fun {G10 xf} s10 hf => hp0 D G10 v0 (some (.ref a)) (some (.ref pw)) v3 (some (.ref q)) v8 v9 l (.ref lo) xf ws ds (s10 _ _ hl9) (f29.mono fun _ _ q => (q.same s10).none_N) so (by omega) (.inr ⟨lo, wo, bs, rfl, s10 _ _ hlo9, fb9.mono fun _ _ q => (q.same s10).none_N, sb⟩) hf ((st9.same s10).t) fun v8 v9 G' e' T' => nx _ _ _ _ _ _ _ (by
    have st := (st9.same s10).ext e' T'
    exact ⟨st.s.more (by omega), st.t, st.k⟩)
  refine ⟨lo, TE2, wo, bs, tb2, rfl, hlo9, fb9.mono fun _ _ q => q.none_N, sb.like, hTE, fun e he => ⟨(okT2 e he).1, nms_ok (okT2 e he).2⟩, fun z ez G10 s10 => ?_, fun rs er lf wf G10 s10 nlf hlf ff => ?_⟩
  · exact last s10 (.inl ⟨z, rfl⟩)
  · exact last s10 (.inr ⟨lf, wf, rs, rfl, hlf, ff, sb.ren okT2 er⟩)
end
end Own
set_option Elab.async false
set_option linter.all false
set_option maxRecDepth 100000
set_option maxHeartbeats 1000000
namespace Own
open PySem PySem.Spec PyProof.Rows L2 LamX
/-! ### the law -/
theorem fk_keys : FK.map (·.1) = (FORM.map (·.1)).map Sum.inr := by decide +kernel
/-- the law's promise, its code objects' tables being empty -/
def spLaw (K : PySem.W.Frag) (tn tl : Addr) : Sp := fun vs H Q _ => ∃ (a : Addr) (ns : List Int), vs = [.ref a] ∧ SqL K H a (ns.map V.int) ∧ ns.length ≤ 63 ∧ H tn = some (.tbl #[]) ∧ H tl = some (.tbl #[]) ∧ ∀ H', Q (.bl true) H'
section
variable {P : Program} {w : World} {K : PySem.W.Frag} {mg : Str → Option Value} {base : Heap} {CB CT CC CR fC tn tl : Addr} {dSh dD dCh dTb dRR dBe dEx dM dL dR dC dG dF : FuncData}
theorem ok_law {fd2 : FuncData} (F : FnP K "law" sLaw (He.ga K "law") fd2) (hfL : He.ga K "law" = He.fAd K ("law", none)) (Z : LWK P w K mg base CB CT CC CR fC tn tl dSh dD dCh dTb dRR dBe dEx dM dL dR dC)
    (KG : Fk P w K mg base CX0 1 "_law_begun" dG ["_law_script"] (spBegun K)) (KF : Fk P w K mg base CX0 1 "_law_forms" dF [] spForms) (A2 : tn ≠ tl) (TB : TabB base mg (He.codeOf K ("law", none)) tl) :
    FnOkG P w K mg base CX0 12 (He.ga K "law") fd2 ["_law_script"] (spLaw K tn tl) := by
  have T := Z.t
  refine FunD.okG F scLaw rfl (fun vs H Q E h => ?_) (fun cdv A outer s H vs Q E hlk hcd hg hr h => ?_)
  · obtain ⟨a, ns, rfl, _⟩ := h
    rfl
  · have ec := code_is hfL hlk hcd
    subst ec
    obtain ⟨up, pp, hp⟩ := lw0 Z TB A2 A outer s H E hg hr
    obtain ⟨sa, ns, rfl, hS, hl, hTn, hTl, k⟩ := h
    have hr1 := hr.mono (show 1 ≤ 11 by decide)
    refine ⟨_, PSsT.nox (PSsT.of (pss_cons (ps_set (i := 1) scLaw.nd rfl (.inl rfl) (pe_call KG.ok hr1 (by rfl) KG.g KG.kp KG.b .nil pass0 (pa_cons (pv 0) pa_nil)))
      (pss_cons (ps_set (i := 2) scLaw.nd rfl (.inl rfl) (pe_callB (call_sortedD rfl) (by rfl) T.sorted (by decide +kernel) (pa_cons (pe_call0 KF.ok hr1 (by rfl) KF.g KF.kp KF.b .nil pass0) pa_nil)))
      (pss_cons (ps_for PassesOwn.never rfl (pi_range1 (by rfl) T.range (pa_cons (pe_op op_add pe_int (pe_callB (call_min2 rfl) (by rfl) T.min (by decide +kernel) (pa_cons (pe_callB call_len_seq (by rfl) T.len PySem.boot_len (pa_cons (pv 0) pa_nil)) (pa_cons pe_int pa_nil)))) pa_nil)) (pg_name (i := 3) scLaw.nd rfl (Or.inl rfl)) pp)
      (pss_one (ps_ret pe_bl)))))), ?_⟩
    refine ⟨_, rfl, sa, ns, rfl, hS, hl, fun a lw lc H1 na nw nc S1 e1 => ?_⟩
    refine ⟨rfl, fun fo H2 s2 nfo hfo => ⟨fo, FK, FORM.map (·.1), rfl, .inl hfo, fk_keys, by decide, fun ys pw pm _ npw => ?_⟩⟩
    have s3 := same_upd (o := .lst (ys.map V.str)) npw
    have hpw := upd_same (H := H2) (a := pw) (o := .lst (ys.map V.str))
    have S2 := S1.same s2
    have opw := (S2.new npw).1
    have S3 := S2.same s3
    have e3 := (e1.trans s2).trans s3
    generalize L2.upd H2 pw (.lst (ys.map V.str)) = H3 at s3 hpw S3 e3
    have T3 : Tabs (TTs tn tl) H3 := fun p hp => by
      rcases TTs.cases hp with rfl | rfl
      · exact TabS.nil (e3 _ _ hTn)
      · exact TabS.nil (e3 _ _ hTl)
    have yl : ys.length = 11 := pm.length_eq
    have W : WordsL ys := by
      refine ⟨by omega, by omega, fun y hy => ?_⟩
      obtain ⟨⟨wd, m, kk⟩, hm, rfl⟩ := List.mem_map.mp (pm.mem_iff.mp hy)
      exact ⟨m, kk, hm⟩
    refine ⟨_, rfl, sa, _, rfl, .inl (e3.seq hS), _, _, rfl, _, _, rfl, rfl, _, rfl, ?_, ?_, ?_⟩
    · omega
    · rw [List.length_map]
      omega
    generalize hn : ((2 : Int) + (if (2 : Int) < ((ns.map V.int).length : Nat) then 2 else (((ns.map V.int).length : Nat) : Int))).toNat = n
    have hn8 : n ≤ 4 := by
      rw [← hn]
      split <;> omega
    refine for_range (lo := 0) (n := n) (fun i σ G => ∃ (v3 v4 v5 v6 v7 v8 v9 : Option V), σ = [some (.ref sa), some (.ref a), some (.ref pw), v3, v4, v5, v6, v7, v8, v9] ∧ Stay a lw lc (2000 * i) (TTs tn tl) H3 G)
      ⟨none, none, none, none, none, none, none, rfl, S3, T3, KpE.refl _ _⟩ ?_ ?_
    · rintro i σ G hi ⟨v3, v4, v5, v6, v7, v8, v9, rfl, st⟩
      refine hp _ G a lw lc _ pw ys _ _ v4 v5 v6 v7 v8 v9 st.s (by omega) st.t (st.lst opw hpw) opw W (by omega) fun v4 v5 v6 v7 v8 v9 G' st2 => ?_
      exact ⟨_, _, _, _, _, _, _, rfl, st2.s.more (by omega), st2.t, st.k.trans st2.k⟩
    · rintro σ G ⟨v3, v4, v5, v6, v7, v8, v9, rfl, st⟩
      exact k _
end
end Own
set_option Elab.async false
set_option linter.all false
set_option maxRecDepth 100000
set_option maxHeartbeats 1000000
namespace Own
open PySem PySem.Spec PyProof.Rows L2 LamX
/-! ### what the walk asks of the module, all of it -/
/-- the errors' classes: BadDeed, BadDrawing, BadTable, Clash, CannotLay, RulerError; the tuple of tools -/
structure Cs where
  d : Addr
  w : Addr
  t : Addr
  s : Addr
  l : Addr
  r : Addr
  o : Addr
/-- Tower and Number -/
structure Os where
  CT : Addr
  CN : Addr
  fT : Addr
  fN : Addr
  pE : Addr
  fI : Addr
  fE : Addr
structure All (P : Program) (w : World) (K : PySem.W.Frag) (mg : Str → Option Value) (C : Cs) (O : Os) (dT dN dQ : FuncData) : Prop where
  t : Txt K mg
  n : TxtN mg
  c : Cst K mg
  d : Dct NOW K w mg
  o : Obj2 K mg O.CT O.CN O.fT O.fN O.pE dT dN
  fns : ∀ x st, (x, st) ∈ FNS → ∃ fd, FnP K x st (He.ga K x) fd
  gl : ∀ x st, (x, st) ∈ FNS → mg x = some (.ref (He.ga K x))
  frac : ∃ fd, FunD K "fraction" "fraction" (defArgs sFrac) (defBody sFrac) (defScope sFrac) [.int 1] [] (He.ga K "fraction") fd
  gFr : mg "fraction" = some (.ref (He.ga K "fraction"))
  gTo : mg "TOOLS" = some (.ref C.o)
  hTo : ∀ H, SqT K H C.o (TOOLS.map V.str)
  great : ∃ g t, mg "GREAT" = some (.int g t)
  y : Lyr K w mg
  q : EqN K O.CN O.fE dQ
  eD : ErrK K mg C.r "BadDeed" C.d
  eW : ErrK K mg C.r "BadDrawing" C.w
  eT : ErrK K mg C.r "BadTable" C.t
  eL : ExcT K mg "CannotLay" C.l
  xL : PySem.W.exmOne K (.ref C.l) (.ref C.l) = some true
  sn : SupX.Has P K mg tCl C.s O.fI
  cS : ExcC K C.s
  fS : XfC K C.s
  xS : PySem.W.exmOne K (.ref C.s) (.ref C.r) = some true
  no : PySem.W.kitOne K (.ref C.s) (.ref C.t) = some false
  gR : mg "RulerError" = some (.ref C.r)
section
variable {P : Program} {w : World} {K : PySem.W.Frag} {mg : Str → Option Value} {base : Heap} {C : Cs} {O : Os} {dT dN dQ : FuncData}
theorem All.mem1 (Z : All P w K mg C O dT dN dQ) (x : Str) (st : Stmt) (h : (x, st) ∈ FNS) : ∃ fd, FnP K x st (He.ga K x) fd ∧ mg x = some (.ref (He.ga K x)) := by
  obtain ⟨fd, h1⟩ := Z.fns x st h
  exact ⟨fd, h1, Z.gl x st h⟩
theorem Fk.of {CX : CXT} {k : Nat} {x : Str} {st : Stmt} {fd : FuncData} {ps : List Str} {sp : Sp} (F : FnP K x st (He.ga K x) fd) (g : mg x = some (.ref (He.ga K x))) (ok : FnOk P w K mg base CX k (He.ga K x) fd ps sp) (b : Binds K fd ps []) : Fk P w K mg base CX k x fd ps sp := ⟨ok, b, F.kp, g⟩
theorem All.law {tn tl : Addr} (Z : All P w K mg C O dT dN dQ) {fd2 : FuncData} (F : FnP K "law" sLaw (He.ga K "law") fd2) (hfL : He.ga K "law" = He.fAd K ("law", none)) (hf : He.ga K "_law_renamed_right" = He.fAd K ("_law_renamed_right", none)) (A2 : tn ≠ tl)
    (TBn : TabB base mg (He.codeOf K ("_law_renamed_right", none)) tn) (TB : TabB base mg (He.codeOf K ("law", none)) tl) : FnOkG P w K mg base CX0 12 (He.ga K "law") fd2 ["_law_script"] (spLaw K tn tl) := by
  obtain ⟨dFr, FFr⟩ := Z.frac
  obtain ⟨dWhole, FWhole, gWhole⟩ := Z.mem1 "is_whole" sWhole (by simp [FNS])
  have kWhole : Fk P w K mg base CX0 1 "is_whole" dWhole ["value"] (spWhole K) := .of FWhole gWhole (ok_whole FWhole Z.t) (FWhole.bindsN fun _ _ _ _ _ _ us hl => match us, hl with | [_], _ => rfl)
  obtain ⟨dName, FName, gName⟩ := Z.mem1 "is_name" sName (by simp [FNS])
  have kName : Fk P w K mg base CX0 1 "is_name" dName ["value"] spName := .of FName gName (ok_name FName Z.t Z.c) (FName.bindsN fun _ _ _ _ _ _ us hl => match us, hl with | [_], _ => rfl)
  obtain ⟨dDeed, FDeed, gDeed⟩ := Z.mem1 "is_deed" sDeed (by simp [FNS])
  have kDeed : Fk P w K mg base CX0 2 "is_deed" dDeed ["value"] (spDeed NOW) := .of FDeed gDeed (ok_deed FDeed kName kWhole Z.t Z.d (fun z hz => by cases hz)) (FDeed.bindsN fun _ _ _ _ _ _ us hl => match us, hl with | [_], _ => rfl)
  obtain ⟨dNeedD, FNeedD, gNeedD⟩ := Z.mem1 "need_deed" sNeedD (by simp [FNS])
  have kNeedD : Fk P w K mg base (L2.CX P w) 3 "need_deed" dNeedD ["deed"] (spNeedD NOW C.d) := .of FNeedD gNeedD (ok_needd FNeedD kDeed Z.eD.e) (FNeedD.bindsN fun _ _ _ _ _ _ us hl => match us, hl with | [_], _ => rfl)
  obtain ⟨dNames, FNames, gNames⟩ := Z.mem1 "names_of" sNames (by simp [FNS])
  have kNames : Fk P w K mg base (L2.CX P w) 4 "names_of" dNames ["deed"] (spOfDeed NOW C.d rNames) := .of FNames gNames (ok_names FNames kNeedD Z.t Z.d) (FNames.bindsN fun _ _ _ _ _ _ us hl => match us, hl with | [_], _ => rfl)
  obtain ⟨dTool, FTool, gTool⟩ := Z.mem1 "tool_of" sTool (by simp [FNS])
  have kTool : Fk P w K mg base (L2.CX P w) 4 "tool_of" dTool ["deed"] (spOfDeed NOW C.d rTool) := .of FTool gTool (ok_tool FTool kNeedD Z.d) (FTool.bindsN fun _ _ _ _ _ _ us hl => match us, hl with | [_], _ => rfl)
  obtain ⟨dOnN, FOnN, gOnN⟩ := Z.mem1 "on_names" sOnNames (by simp [FNS])
  have kOnN : Fk P w K mg base (L2.CX P w) 4 "on_names" dOnN ["deed", "table"] (spOnNames NOW C.d C.t) := .of FOnN gOnN (ok_onnames FOnN kNeedD kName Z.t Z.d Z.eT.e) (FOnN.bindsN fun _ _ _ _ _ _ us hl => match us, hl with | [_, _], _ => rfl)
  obtain ⟨dRows, FRows, gRows⟩ := Z.mem1 "rows_of" sRowsOf (by simp [FNS])
  obtain ⟨dNeedT, FNeedT, gNeedT⟩ := Z.mem1 "need_tower" sNeedT (by simp [FNS])
  have kNeedT : Fk P w K mg base CX0 1 "need_tower" dNeedT ["value"] (spNeedT O.CT) := .of FNeedT gNeedT (ok_needt FNeedT Z.t Z.o) (FNeedT.bindsN fun _ _ _ _ _ _ us hl => match us, hl with | [_], _ => rfl)
  obtain ⟨dLow, FLow, gLow⟩ := Z.mem1 "vec_lowest" sLowest (by simp [FNS])
  have kLow : Fk P w K mg base CX0 1 "vec_lowest" dLow ["vector"] spLowQ := .of FLow gLow (ok_lowQ FLow Z.t Z.n.gcd) (FLow.bindsN fun _ _ _ _ _ _ us hl => match us, hl with | [_], _ => rfl)
  obtain ⟨dSheet0, FSheet0, gSheet0⟩ := Z.mem1 "sheet" sSheet (by simp [FNS])
  have kSheet0 : Fk P w K mg base CX0 5 "sheet" dSheet0 [] (spSheet O.CN) := .of FSheet0 gSheet0 (ok_sheet FSheet0 FFr FWhole FRows FNeedT FLow Z.gFr gWhole gRows gNeedT gLow Z.t Z.o) (FSheet0.bindsN fun _ _ _ _ _ _ us hl => match us, hl with | [], _ => rfl)
  obtain ⟨dDrawing, FDrawing, gDrawing⟩ := Z.mem1 "is_drawing" sDrawing (by simp [FNS])
  have kDrawing : Fk P w K mg base CX0 6 "is_drawing" dDrawing ["value"] (spDrawing NOW) := .of FDrawing gDrawing (ok_drawing FDrawing kSheet0 kName kDeed kNames Z.t) (FDrawing.bindsN fun _ _ _ _ _ _ us hl => match us, hl with | [_], _ => rfl)
  obtain ⟨dNeedDr, FNeedDr, gNeedDr⟩ := Z.mem1 "need_drawing" sNeedDr (by simp [FNS])
  have kNeedDr : Fk P w K mg base (L2.CX P w) 7 "need_drawing" dNeedDr ["steps"] (spNeedDr NOW C.w) := .of FNeedDr gNeedDr (ok_needdr FNeedDr kDrawing Z.eW.e) (FNeedDr.bindsN fun _ _ _ _ _ _ us hl => match us, hl with | [_], _ => rfl)
  obtain ⟨dChest, FChest, gChest⟩ := Z.mem1 "chest_of" sChest (by simp [FNS])
  have kChest : Fk P w K mg base CX0 8 "chest_of" dChest ["steps"] (spChest NOW) := .of FChest gChest (ok_chest FChest kNeedDr kTool Z.t Z.gTo Z.hTo) (FChest.bindsN fun _ _ _ _ _ _ us hl => match us, hl with | [_], _ => rfl)
  obtain ⟨dNeg, FNeg, gNeg⟩ := Z.mem1 "vec_negated" sNeg (by simp [FNS])
  have kNeg : Fk P w K mg base CX0 1 "vec_negated" dNeg ["vector"] spNegQ := .of FNeg gNeg (ok_negQ FNeg Z.t) (FNeg.bindsN fun _ _ _ _ _ _ us hl => match us, hl with | [_], _ => rfl)
  obtain ⟨dVPlus, FVPlus, gVPlus⟩ := Z.mem1 "vec_plus" sVPlus (by simp [FNS])
  have kVPlus : Fk P w K mg base CX0 1 "vec_plus" dVPlus ["one", "other"] spPlusQ := .of FVPlus gVPlus (ok_vplus FVPlus Z.t Z.n) (FVPlus.bindsN fun _ _ _ _ _ _ us hl => match us, hl with | [_, _], _ => rfl)
  obtain ⟨dVLess, FVLess, gVLess⟩ := Z.mem1 "vec_less" sVLess (by simp [FNS])
  have kVLess : Fk P w K mg base CX0 2 "vec_less" dVLess ["one", "other"] spLessQ := .of FVLess gVLess (ok_vless FVLess kNeg kVPlus) (FVLess.bindsN fun _ _ _ _ _ _ us hl => match us, hl with | [_, _], _ => rfl)
  obtain ⟨dWide, FWide, gWide⟩ := Z.mem1 "vec_wide" sWide (by simp [FNS])
  have kWide : Fk P w K mg base CX0 1 "vec_wide" dWide ["vector", "many"] spWideQ := .of FWide gWide (ok_wideQ FWide Z.t) (FWide.bindsN fun _ _ _ _ _ _ us hl => match us, hl with | [_, _], _ => rfl)
  obtain ⟨dScale, FScale, gScale⟩ := Z.mem1 "scale_of" sScale (by simp [FNS])
  have kScale : Fk P w K mg base CX0 1 "scale_of" dScale ["rows", "many"] (spScale0 K) := .of FScale gScale (ok_scale0 FScale Z.t) (FScale.bindsN fun _ _ _ _ _ _ us hl => match us, hl with | [_, _], _ => rfl)
  obtain ⟨dRaw, FRaw, gRaw⟩ := Z.mem1 "raw_times" sRaw (by simp [FNS])
  have kRaw : Fk P w K mg base CX0 1 "raw_times" dRaw ["rows", "many", "ones", "others"] (spRaw0 K) := .of FRaw gRaw (ok_raw0 FRaw Z.t) (FRaw.bindsN fun _ _ _ _ _ _ us hl => match us, hl with | [_, _, _, _], _ => rfl)
  obtain ⟨dCommon, FCommon, gCommon⟩ := Z.mem1 "common" sCommon (by simp [FNS])
  have kCommon : Fk P w K mg base CX0 1 "common" dCommon ["one", "other"] spCommon := .of FCommon gCommon (ok_common FCommon Z.t) (FCommon.bindsN fun _ _ _ _ _ _ us hl => match us, hl with | [_, _], _ => rfl)
  obtain ⟨dSmall, FSmall, gSmall⟩ := Z.mem1 "vec_small" sSmall (by simp [FNS])
  have kSmall : Fk P w K mg base CX0 2 "vec_small" dSmall ["vector"] spLowQ := .of FSmall gSmall (ok_smallQ FSmall Z.t kCommon) (FSmall.bindsN fun _ _ _ _ _ _ us hl => match us, hl with | [_], _ => rfl)
  obtain ⟨dVTimes, FVTimes, gVTimes⟩ := Z.mem1 "vec_times" sVTimes (by simp [FNS])
  have kVTimes : Fk P w K mg base CX0 3 "vec_times" dVTimes ["rows", "one", "other"] (spTimesQ K) := .of FVTimes gVTimes (ok_vtimes FVTimes Z.t kRaw kScale kSmall Z.great) (FVTimes.bindsN fun _ _ _ _ _ _ us hl => match us, hl with | [_, _, _], _ => rfl)
  obtain ⟨dVSign, FVSign, gVSign⟩ := Z.mem1 "vec_sign" sVSign (by simp [FNS])
  have kVSign : Fk P w K mg base CX0 1 "vec_sign" dVSign ["rows", "vector"] spSignQ := .of FVSign gVSign (ok_vsign FVSign Z.n) (FVSign.bindsN fun _ _ _ _ _ _ us hl => match us, hl with | [_, _], _ => rfl)
  obtain ⟨dVTurn, FVTurn, gVTurn⟩ := Z.mem1 "vec_turned" sVTurned (by simp [FNS])
  have kVTurn : Fk P w K mg base CX0 1 "vec_turned" dVTurn ["rows", "vector"] spTurnQ := .of FVTurn gVTurn (ok_vturn FVTurn Z.t Z.n) (FVTurn.bindsN fun _ _ _ _ _ _ us hl => match us, hl with | [_, _], _ => rfl)
  have GT : FnOk P w K mg base CX0 2 O.fT dT ["self", "squares", "known"] (spTowQ O.CT O.pE) := ok_towQ FRows gRows Z.t Z.o
  have GN : FnOk P w K mg base CX0 2 O.fN dN ["self", "tower", "parts", "known"] (spNumQ O.CT O.CN) := ok_numQ kNeedT kLow Z.t Z.o
  have GF : FnOk P w K mg base CX0 4 (He.ga K "fraction") dFr ["n", "d"] (spFracQ O.CT O.CN) := ok_fracQ FFr kWhole GT GN Z.o
  obtain ⟨dNeedNum, FNeedNum, gNeedNum⟩ := Z.mem1 "need_number" sNeedNum (by simp [FNS])
  have kNeedNum : Fk P w K mg base CX0 1 "need_number" dNeedNum ["value"] (spNeedNum O.CN) := .of FNeedNum gNeedNum (ok_neednum FNeedNum Z.t Z.o) (FNeedNum.bindsN fun _ _ _ _ _ _ us hl => match us, hl with | [_], _ => rfl)
  obtain ⟨dUnited, FUnited, gUnited⟩ := Z.mem1 "united" sUnited (by simp [FNS])
  have kUnited : Fk P w K mg base CX0 1 "united" dUnited ["tower", "towards"] (spUnited O.CT) := .of FUnited gUnited (ok_united FUnited Z.t Z.o) (FUnited.bindsN fun _ _ _ _ _ _ us hl => match us, hl with | [_, _], _ => rfl)
  obtain ⟨dLev, FLev, gLev⟩ := Z.mem1 "levelled" sLevelled (by simp [FNS])
  have kLev : Fk P w K mg base CX0 2 "levelled" dLev ["one", "other"] (spLev O.CT O.CN) := .of FLev gLev (ok_lev FLev Z.t Z.o kNeedNum kUnited kWide) (FLev.bindsN fun _ _ _ _ _ _ us hl => match us, hl with | [_, _], _ => rfl)
  obtain ⟨dPlus, FPlus, gPlus⟩ := Z.mem1 "plus" sPlus (by simp [FNS])
  have kPlus : Fk P w K mg base CX0 4 "plus" dPlus ["one", "other"] (spOp O.CT O.CN Ok2 (· + ·)) := .of FPlus gPlus (ok_plusN FPlus Z.o kLev kVPlus GN) (FPlus.bindsN fun _ _ _ _ _ _ us hl => match us, hl with | [_, _], _ => rfl)
  obtain ⟨dMinus, FMinus, gMinus⟩ := Z.mem1 "minus" sMinus (by simp [FNS])
  have kMinus : Fk P w K mg base CX0 4 "minus" dMinus ["one", "other"] (spOp O.CT O.CN Ok2 (· - ·)) := .of FMinus gMinus (ok_minusN FMinus Z.o kLev kVLess GN) (FMinus.bindsN fun _ _ _ _ _ _ us hl => match us, hl with | [_, _], _ => rfl)
  obtain ⟨dTimes, FTimes, gTimes⟩ := Z.mem1 "times" sTimes (by simp [FNS])
  have kTimes : Fk P w K mg base CX0 4 "times" dTimes ["one", "other"] (spOp O.CT O.CN Ok2 (· * ·)) := .of FTimes gTimes (ok_timesN FTimes Z.o kLev kVTimes GN) (FTimes.bindsN fun _ _ _ _ _ _ us hl => match us, hl with | [_, _], _ => rfl)
  obtain ⟨dOver, FOver, gOver⟩ := Z.mem1 "over" sOver (by simp [FNS])
  have kOver : Fk P w K mg base CX0 4 "over" dOver ["one", "other"] (spOp O.CT O.CN OkD (· / ·)) := .of FOver gOver (ok_overN FOver Z.n Z.o kLev kVTimes kVTurn GN) (FOver.bindsN fun _ _ _ _ _ _ us hl => match us, hl with | [_, _], _ => rfl)
  obtain ⟨dSign, FSign, gSign⟩ := Z.mem1 "sign" sSign (by simp [FNS])
  have kSign : Fk P w K mg base CX0 2 "sign" dSign ["number"] (spSgn O.CT O.CN) := .of FSign gSign (ok_signN FSign Z.o kNeedNum kVSign) (FSign.bindsN fun _ _ _ _ _ _ us hl => match us, hl with | [_], _ => rfl)
  obtain ⟨dUsed, FUsed, gUsed⟩ := Z.mem1 "used_rows" sUsed (by simp [FNS])
  have kUsed : Fk P w K mg base CX0 1 "used_rows" dUsed ["rows", "vector"] (spUsed0 K) := .of FUsed gUsed (ok_used0 FUsed Z.t) (FUsed.bindsN fun _ _ _ _ _ _ us hl => match us, hl with | [_, _], _ => rfl)
  obtain ⟨dSpared, FSpared, gSpared⟩ := Z.mem1 "spared" sSpared (by simp [FNS])
  have kSpared : Fk P w K mg base CX0 2 "spared" dSpared ["rows", "vector"] (spSpared0 K) := .of FSpared gSpared (ok_spared0 FSpared Z.t kUsed) (FSpared.bindsN fun _ _ _ _ _ _ us hl => match us, hl with | [_, _], _ => rfl)
  obtain ⟨dTrim, FTrim, gTrim⟩ := Z.mem1 "trimmed" sTrimmed (by simp [FNS])
  have kTrim : Fk P w K mg base CX0 4 "trimmed" dTrim ["number"] (spTrim O.CT O.CN) := .of FTrim gTrim (ok_trim FTrim Z.t Z.o kNeedNum kSpared GN) (FTrim.bindsN fun _ _ _ _ _ _ us hl => match us, hl with | [_], _ => rfl)
  obtain ⟨dSameV, FSameV, gSameV⟩ := Z.mem1 "same_value" sSameV (by simp [FNS])
  have kSameV : Fk P w K mg base CX0 1 "same_value" dSameV ["rows", "vector", "others", "other"] (spSameV K) := .of FSameV gSameV (ok_samev FSameV) (FSameV.bindsN fun _ _ _ _ _ _ us hl => match us, hl with | [_, _, _, _], _ => rfl)
  obtain ⟨dIsSame, FIsSame, gIsSame⟩ := Z.mem1 "is_same" sIsSame (by simp [FNS])
  have kIsSame : Fk P w K mg base CX0 3 "is_same" dIsSame ["one", "other"] (spSame O.CT O.CN) := .of FIsSame gIsSame (ok_issame FIsSame Z.q (ok_numeq Z.q.F Z.t Z.o kSameV)) (FIsSame.bindsN fun _ _ _ _ _ _ us hl => match us, hl with | [_, _], _ => rfl)
  obtain ⟨dWay, FWay, gWay⟩ := Z.mem1 "way_to" sWayTo (by simp [FNS])
  have kWay : Fk P w K mg base CX0 5 "way_to" dWay ["one", "other"] (spWay O.CT O.CN) := .of FWay gWay (ok_way FWay kMinus) (FWay.bindsN fun _ _ _ _ _ _ us hl => match us, hl with | [_, _], _ => rfl)
  obtain ⟨dCross, FCross, gCross⟩ := Z.mem1 "crossed_ways" sCrossed (by simp [FNS])
  have kCross : Fk P w K mg base CX0 5 "crossed_ways" dCross ["one", "other"] (spCross O.CT O.CN) := .of FCross gCross (ok_cross FCross kMinus kTimes) (FCross.bindsN fun _ _ _ _ _ _ us hl => match us, hl with | [_, _], _ => rfl)
  obtain ⟨dStep, FStep, gStep⟩ := Z.mem1 "stepped" sStepped (by simp [FNS])
  have kStep : Fk P w K mg base CX0 5 "stepped" dStep ["start", "way", "share"] (spStep O.CT O.CN) := .of FStep gStep (ok_step FStep kPlus kTimes) (FStep.bindsN fun _ _ _ _ _ _ us hl => match us, hl with | [_, _, _], _ => rfl)
  obtain ⟨dQuart, FQuart, gQuart⟩ := Z.mem1 "quarter" sQuarter (by simp [FNS])
  have kQuart : Fk P w K mg base CX0 5 "quarter" dQuart ["way"] (spQuart O.CT O.CN) := .of FQuart gQuart (ok_quart FQuart kMinus GF FFr Z.gFr) (FQuart.bindsN fun _ _ _ _ _ _ us hl => match us, hl with | [_], _ => rfl)
  obtain ⟨dMet, FMet, gMet⟩ := Z.mem1 "met" sMet (by simp [FNS])
  have kMet : Fk P w K mg base CX0 6 "met" dMet ["start", "way", "c", "d"] (spMet O.CT O.CN) := .of FMet gMet (ok_met FMet kWay kCross kSign kStep kOver) (FMet.bindsN fun _ _ _ _ _ _ us hl => match us, hl with | [_, _, _, _], _ => rfl)
  obtain ⟨dLayM, FLayM, gLayM⟩ := Z.mem1 "lay_meet" sLayMeet (by simp [FNS])
  have kLayM : Fk P w K mg base CX0 7 "lay_meet" dLayM ["a", "b", "c", "d"] (spMeet O.CT O.CN) := .of FLayM gLayM (ok_laymeet FLayM kIsSame kWay kMet) (FLayM.bindsN fun _ _ _ _ _ _ us hl => match us, hl with | [_, _, _, _], _ => rfl)
  obtain ⟨dLayU, FLayU, gLayU⟩ := Z.mem1 "lay_upright" sLayUp (by simp [FNS])
  have kLayU : Fk P w K mg base CX0 7 "lay_upright" dLayU ["p", "a", "b", "c", "d"] (spUp O.CT O.CN) := .of FLayU gLayU (ok_layup FLayU kIsSame kWay kQuart kMet) (FLayU.bindsN fun _ _ _ _ _ _ us hl => match us, hl with | [_, _, _, _, _], _ => rfl)
  have FSheet := FSheet0
  have gSheet := gSheet0
  have kSheet : Fk P w K mg base CX0 5 "sheet" dSheet0 [] (spSheetQ O.CT O.CN) := .of FSheet gSheet (ok_sheetQ FSheet FFr GF Z.gFr) (FSheet.bindsN fun _ _ _ _ _ _ us hl => match us, hl with | [], _ => rfl)
  obtain ⟨dIsNum, FIsNum, gIsNum⟩ := Z.mem1 "is_number" sIsNum (by simp [FNS])
  have kIsNum : Fk P w K mg base CX0 1 "is_number" dIsNum ["value"] (spIsNum O.CN) := .of FIsNum gIsNum (ok_isnum FIsNum Z.t Z.o) (FIsNum.bindsN fun _ _ _ _ _ _ us hl => match us, hl with | [_], _ => rfl)
  obtain ⟨dIsPt, FIsPt, gIsPt⟩ := Z.mem1 "is_point" sIsPt (by simp [FNS])
  have kIsPt : Fk P w K mg base CX0 2 "is_point" dIsPt ["value"] (spIsPt O.CN) := .of FIsPt gIsPt (ok_ispt FIsPt kIsNum Z.t) (FIsPt.bindsN fun _ _ _ _ _ _ us hl => match us, hl with | [_], _ => rfl)
  obtain ⟨dIsPts, FIsPts, gIsPts⟩ := Z.mem1 "is_points" sIsPts (by simp [FNS])
  have kIsPts : Fk P w K mg base CX0 3 "is_points" dIsPts ["value"] (spIsPts O.CN) := .of FIsPts gIsPts (ok_ispts FIsPts kName kIsPt Z.t) (FIsPts.bindsN fun _ _ _ _ _ _ us hl => match us, hl with | [_], _ => rfl)
  obtain ⟨dLaid, FLaid, gLaid⟩ := Z.mem1 "laid" sLaid (by simp [FNS])
  have kLaid : Fk P w K mg base (L2.CX P w) 8 "laid" dLaid ["deed", "points"] (spLaidQ NOW O.CT O.CN C.l) := .of FLaid gLaid (ok_laidQ FLaid kNeedD kNames kIsPts Z.t Z.d Z.y kLayM kLayU kTrim Z.eL) (FLaid.bindsN fun _ _ _ _ _ _ us hl => match us, hl with | [_, _], _ => rfl)
  obtain ⟨dSpot, FSpot, gSpot⟩ := Z.mem1 "spot_or_none" sSpot (by simp [FNS])
  have kSpot : Fk P w K mg base CX0 9 "spot_or_none" dSpot ["deed", "points"] (spSpotQ NOW O.CT O.CN) := .of FSpot gSpot (ok_spot FSpot kNames kLaid Z.eL Z.xL) (FSpot.bindsN fun _ _ _ _ _ _ us hl => match us, hl with | [_, _], _ => rfl)
  obtain ⟨dLayable, FLayable, gLayable⟩ := Z.mem1 "layable" sLayable (by simp [FNS])
  have kLayable : Fk P w K mg base CX0 10 "layable" dLayable ["steps"] (spLayable NOW) := .of FLayable gLayable (ok_layable FLayable kNeedDr kSheet kNames kSpot Z.t) (FLayable.bindsN fun _ _ _ _ _ _ us hl => match us, hl with | [_], _ => rfl)
  obtain ⟨dRenamed, FRenamed, gRenamed⟩ := Z.mem1 "renamed" sRenamed (by simp [FNS])
  have kRenamed : Fk P w K mg base (L2.CX P w) 8 "renamed" dRenamed ["steps", "table"] (spRenamed NOW C.w C.t C.s) := .of FRenamed gRenamed (ok_renamed FRenamed kNeedDr kName kSheet kOnN Z.t Z.eT.e Z.sn) (FRenamed.bindsN fun _ _ _ _ _ _ us hl => match us, hl with | [_, _], _ => rfl)
  obtain ⟨dLike, FLike, gLike⟩ := Z.mem1 "like" sLike (by simp [FNS])
  have kLike : Fk P w K mg base (L2.CX P w) 8 "like" dLike ["one", "other"] (spLike NOW C.w) := .of FLike gLike (ok_like FLike kNeedDr kOnN Z.t Z.n) (FLike.bindsN fun _ _ _ _ _ _ us hl => match us, hl with | [_, _], _ => rfl)
  obtain ⟨dStir, FStir, gStir⟩ := Z.mem1 "_law_stirred" sStir (by simp [FNS])
  obtain ⟨dBegun, FBegun, gBegun⟩ := Z.mem1 "_law_begun" sBegun (by simp [FNS])
  have kBegun : Fk P w K mg base CX0 1 "_law_begun" dBegun ["_law_script"] (spBegun K) := .of FBegun gBegun (ok_begun FBegun Z.t) (FBegun.bindsN fun _ _ _ _ _ _ us hl => match us, hl with | [_], _ => rfl)
  obtain ⟨dDraw, FDraw, gDraw⟩ := Z.mem1 "_law_draw" sDraw (by simp [FNS])
  have kDraw : Fk P w K mg base CX0 2 "_law_draw" dDraw ["_law_state", "_law_room"] spDraw := .of FDraw gDraw (ok_draw FDraw FStir gStir Z.t) (FDraw.bindsN fun _ _ _ _ _ _ us hl => match us, hl with | [_, _], _ => rfl)
  obtain ⟨dPick, FPick, gPick⟩ := Z.mem1 "_law_pick" sPick (by simp [FNS])
  have kPick : Fk P w K mg base CX0 3 "_law_pick" dPick ["_law_state", "_law_some"] (spPick K) := .of FPick gPick (ok_pick FPick FDraw FStir gDraw gStir Z.t) (FPick.bindsN fun _ _ _ _ _ _ us hl => match us, hl with | [_, _], _ => rfl)
  obtain ⟨dShuf, FShuf, gShuf⟩ := Z.mem1 "_law_shuffled" sShuf (by simp [FNS])
  have kShuf : Fk P w K mg base CX0 3 "_law_shuffled" dShuf ["_law_state", "_law_some"] spShuf := .of FShuf gShuf (ok_shuf FShuf FDraw FStir gDraw gStir Z.t) (FShuf.bindsN fun _ _ _ _ _ _ us hl => match us, hl with | [_, _], _ => rfl)
  obtain ⟨dForms, FForms, gForms⟩ := Z.mem1 "_law_forms" sForms (by simp [FNS])
  have kForms : Fk P w K mg base CX0 1 "_law_forms" dForms [] spForms := .of FForms gForms (ok_forms FForms) (FForms.bindsN fun _ _ _ _ _ _ us hl => match us, hl with | [], _ => rfl)
  obtain ⟨dHasWay, FHasWay, gHasWay⟩ := Z.mem1 "_law_has_way" sHasWay (by simp [FNS])
  have kHasWay : Fk P w K mg base CX0 1 "_law_has_way" dHasWay ["_law_word"] spHasWay := .of FHasWay gHasWay (ok_hasway FHasWay) (FHasWay.bindsN fun _ _ _ _ _ _ us hl => match us, hl with | [_], _ => rfl)
  obtain ⟨dLName, FLName, gLName⟩ := Z.mem1 "_law_name" sLName (by simp [FNS])
  have kLName : Fk P w K mg base CX0 4 "_law_name" dLName ["_law_state", "_law_barred"] spLName := .of FLName gLName (ok_lname FLName FPick FDraw FStir gPick gDraw gStir Z.t) (FLName.bindsN fun _ _ _ _ _ _ us hl => match us, hl with | [_, _], _ => rfl)
  obtain ⟨dLDeed, FLDeed, gLDeed⟩ := Z.mem1 "_law_deed" sLDeed (by simp [FNS])
  have kLDeed : Fk P w K mg base CX0 4 "_law_deed" dLDeed ["_law_state", "_law_word", "_law_names"] spLDeed := .of FLDeed gLDeed (ok_ldeed FLDeed FShuf FForms FHasWay FPick FDraw FStir gShuf gForms gHasWay gPick gDraw gStir Z.t) (FLDeed.bindsN fun _ _ _ _ _ _ us hl => match us, hl with | [_, _, _], _ => rfl)
  obtain ⟨dDNames, FDNames, gDNames⟩ := Z.mem1 "_law_deed_names" sDNames (by simp [FNS])
  have kDNames : Fk P w K mg base CX0 2 "_law_deed_names" dDNames ["_law_deed_here"] spDNames := .of FDNames gDNames (ok_dnames FDNames kForms Z.t) (FDNames.bindsN fun _ _ _ _ _ _ us hl => match us, hl with | [_], _ => rfl)
  obtain ⟨dTDeed, FTDeed, gTDeed⟩ := Z.mem1 "_law_turned_deed" sTDeed (by simp [FNS])
  have kTDeed : Fk P w K mg base CX0 3 "_law_turned_deed" dTDeed ["_law_deed_here", "_law_means"] spTDeed := .of FTDeed gTDeed (ok_tdeed FTDeed kDNames Z.t) (FTDeed.bindsN fun _ _ _ _ _ _ us hl => match us, hl with | [_, _], _ => rfl)
  obtain ⟨dChain, FChain, gChain⟩ := Z.mem1 "_law_chained_steps" sChain (by simp [FNS])
  have kChain : Fk P w K mg base CX0 5 "_law_chained_steps" dChain ["_law_state", "_law_many", "_law_words", "_law_share"] spChain := .of FChain gChain (ok_chain FChain kDraw kPick kLName kLDeed Z.t) (FChain.bindsN fun _ _ _ _ _ _ us hl => match us, hl with | [_, _, _, _], _ => rfl)
  obtain ⟨dShN, FShN, gShN⟩ := Z.mem1 "_law_sheet_names" sShNames (by simp [FNS])
  have kShN : Fk P w K mg base CX0 1 "_law_sheet_names" dShN [] spShN := .of FShN gShN (ok_shn FShN) (FShN.bindsN fun _ _ _ _ _ _ us hl => match us, hl with | [], _ => rfl)
  obtain ⟨dExch, FExch, gExch⟩ := Z.mem1 "_law_exchanged" sExch (by simp [FNS])
  have kExch : Fk P w K mg base CX0 4 "_law_exchanged" dExch ["_law_steps", "_law_table_here"] spExch := .of FExch gExch (ok_exch FExch kShN kTDeed Z.t) (FExch.bindsN fun _ _ _ _ _ _ us hl => match us, hl with | [_, _], _ => rfl)
  obtain ⟨dMatched, FMatched, gMatched⟩ := Z.mem1 "_law_matched" sMatched (by simp [FNS])
  have kMatched : Fk P w K mg base CX0 4 "_law_matched" dMatched ["_law_one", "_law_other"] spMatched := .of FMatched gMatched (ok_matched FMatched kTDeed Z.t Z.n) (FMatched.bindsN fun _ _ _ _ _ _ us hl => match us, hl with | [_, _], _ => rfl)
  obtain ⟨dTable, FTable, gTable⟩ := Z.mem1 "_law_table" sTable (by simp [FNS])
  have kTable : Fk P w K mg base CX0 4 "_law_table" dTable ["_law_state", "_law_steps"] spTable := .of FTable gTable (ok_table FTable kDraw kPick kShuf kShN Z.t) (FTable.bindsN fun _ _ _ _ _ _ us hl => match us, hl with | [_, _], _ => rfl)
  obtain ⟨dBent, FBent, gBent⟩ := Z.mem1 "_law_bent" sBent (by simp [FNS])
  have kBent : Fk P w K mg base CX0 5 "_law_bent" dBent ["_law_state", "_law_steps"] spBent := .of FBent gBent (ok_bent FBent kDraw kPick kLDeed kShN kDNames kHasWay Z.t) (FBent.bindsN fun _ _ _ _ _ _ us hl => match us, hl with | [_, _], _ => rfl)
  obtain ⟨dCaught, FCaught, gCaught⟩ := Z.mem1 "_law_caught" sCaught (by simp [FNS])
  obtain ⟨dRR, FRR, gRR⟩ := Z.mem1 "_law_renamed_right" sRenR (by simp [FNS])
  have bRR : Binds K dRR ["_law_state", "_law_steps", "_law_table_here"] [] := FRR.bindsN fun _ _ _ _ _ _ us hl => match us, hl with | [_, _, _], _ => rfl
  have rr : FnOkG P w K mg base CX0 11 (He.ga K "_law_renamed_right") dRR ["_law_state", "_law_steps", "_law_table_here"] (spRR tn tl) := ok_rr FRR hf ⟨kExch, kMatched, FRenamed, kRenamed, kLike, kChest, kLayable, FCaught, gCaught, Z.gR, Z.sn, Z.cS, Z.fS, Z.xS, Z.eT.e.g, Z.no, Z.t⟩ TBn A2
  exact ok_law F hfL ⟨kShuf, kDraw, kChain, kTable, rr, bRR, FRR.kp, gRR, kBent, kExch, kMatched, FLike, kLike, kRenamed, FCaught, gCaught, Z.gR, Z.eT, Z.eW, Z.t⟩ kBegun kForms A2 TB
end
end Own
set_option Elab.async false
set_option linter.all false
set_option maxRecDepth 100000
set_option maxHeartbeats 0
namespace Own
open PySem PySem.Spec PyProof.Rows L2 LamX
/-! ### the head: what the top has left -/
theorem excC_of {K : PySem.W.Frag} {D : Addr} (h : excCB K D = true) : ExcC K D := by
  obtain ⟨h1, h⟩ := He.ba h
  obtain ⟨h2, h⟩ := He.ba h
  obtain ⟨h3, h⟩ := He.ba h
  obtain ⟨h4, h⟩ := He.ba h
  obtain ⟨h5, h⟩ := He.ba h
  obtain ⟨h6, h⟩ := He.ba h
  obtain ⟨h7, h8⟩ := He.ba h
  exact ⟨He.eqO_ok h1, He.eqO_ok h2, of_decide_eq_true h3, h4, He.eqO_ok h5, He.eqO_ok h6, of_decide_eq_true h7, of_decide_eq_true h8⟩
theorem tupAt_ok {K : PySem.W.Frag} {a : Addr} {vs : List V} (h : tupAt K a vs = true) : (∃ o, K.lookup a = some o ∧ o.cls = .type "tuple") ∧ ∀ H, SqT K H a vs := by
  unfold tupAt at h
  cases q : K.lookup a with
  | none =>
    rw [q] at h
    cases h
  | some o =>
    rw [q] at h
    obtain ⟨h1, h2⟩ := He.ba h
    obtain ⟨oc, od, dt, osl⟩ := o
    cases dt with
    | seq its n =>
      obtain ⟨h3, h4⟩ := He.ba h2
      exact ⟨⟨_, rfl, of_decide_eq_true h1⟩, fun H => .inr ⟨_, its, n, q, of_decide_eq_true h1, rfl, of_decide_eq_true h3, He.relAll_ok h4⟩⟩
    | _ => cases h2
theorem plainB_ok {K : PySem.W.Frag} {a : Addr} (h : plainB K a = true) : ∃ o, K.lookup a = some o ∧ o.cls = .type "tuple" ∧ o.dict = none := by
  unfold plainB at h
  cases q : K.lookup a with
  | none =>
    rw [q] at h
    cases h
  | some o =>
    rw [q] at h
    obtain ⟨h1, h2⟩ := He.ba h
    exact ⟨o, rfl, of_decide_eq_true h1, by
      cases e : o.dict with
      | none => rfl
      | some d =>
        rw [e] at h2
        cases h2⟩
theorem formB_ok {K : PySem.W.Frag} (h : formB K = true) : ∀ t ∈ hFORM, ∃ q, PySem.W.nsIn K (He.ga K "FORMS") t.1 = some (some (.ref q)) ∧ ∀ H, SqT K H q [.int t.2.1, .int t.2.2] := fun t ht => by
  have h1 := List.all_eq_true.mp h t ht
  split at h1
  · rename_i q e
    exact ⟨q, e, (tupAt_ok h1).2⟩
  · cases h1
theorem othB_ok {K : PySem.W.Frag} (h : othB K = true) : ∀ t ∈ hFORM, (∃ z u, hOTHL.lookup t.1 = some z ∧ PySem.W.nsIn K (He.ga K "OTHERS") t.1 = some (some (.str z u))) ∨ (hOTHL.lookup t.1 = none ∧ PySem.W.nsIn K (He.ga K "OTHERS") t.1 = some none) := fun t ht => by
  have h1 := List.all_eq_true.mp h t ht
  cases e : hOTHL.lookup t.1 with
  | none =>
    rw [e] at h1
    exact .inr ⟨rfl, He.eqO_ok h1⟩
  | some z =>
    rw [e] at h1
    dsimp only at h1
    split at h1
    · rename_i y u e2
      have := of_decide_eq_true h1
      subst this
      exact .inl ⟨_, u, rfl, e2⟩
    · cases h1
theorem facts {w : World} {K : PySem.W.Frag} {h : Heap} {mg : Str → Option Value} {f : Addr} (X : K.In h) (G : h.Ns mainGlobals mg) (hfa : mg ("law" : Str) = some (.ref f)) (cc : SaysW fa fn ts tf ex ini w h K) : LawAtG LW w K CX0 12 63 "_law_script" mg f h := by
  have c := cc.x
  have d := c.t.d
  have fr : ∀ x : Str, He.Fa.free x ∈ fa → mg x = none := fun x hx => He.free_ok X G (d.facts hx)
  have gl0 : ∀ x : Str, He.Fa.glo x ∈ fa → mg x = some (.ref (He.ga K x)) := fun x hx => He.glo_ok X G (d.facts hx)
  have gl : ∀ x st, (x, st) ∈ FNS → mg x = some (.ref (He.ga K x)) := fun x st hx => gl0 x (List.mem_append_right _ (List.mem_map.mpr ⟨_, hx, rfl⟩))
  have df : ∀ x st, (x, st) ∈ FNS → ∃ fd, FnP K x st (He.ga K x) fd := fun x st hx => d.defs (d := dF (x, st)) (List.mem_append_left _ (List.mem_map.mpr ⟨_, hx, rfl⟩))
  obtain ⟨m1, m⟩ := He.ba c.more
  obtain ⟨m2, m⟩ := He.ba m
  obtain ⟨m3, m⟩ := He.ba m
  obtain ⟨m4, m⟩ := He.ba m
  obtain ⟨m5, m⟩ := He.ba m
  obtain ⟨m6, m⟩ := He.ba m
  obtain ⟨m7, m⟩ := He.ba m
  obtain ⟨mT, m⟩ := He.ba m
  obtain ⟨m8, m⟩ := He.ba m
  obtain ⟨m9, m⟩ := He.ba m
  obtain ⟨m10, m⟩ := He.ba m
  obtain ⟨m11, m⟩ := He.ba m
  obtain ⟨m12, m⟩ := He.ba m
  obtain ⟨m13, m⟩ := He.ba m
  obtain ⟨mM, m14⟩ := He.ba m
  obtain ⟨k1, kk⟩ := He.ba mM
  obtain ⟨k2, kk⟩ := He.ba kk
  obtain ⟨k3, kk⟩ := He.ba kk
  obtain ⟨k4, k5⟩ := He.ba kk
  obtain ⟨qq1, qq2, _⟩ := He.meth_ok (d.facts (f := .meth "Number" "__eq__") (by simp [fa]))
  obtain ⟨dQ, FQ⟩ := d.defs (d := dEq) (by simp [fn])
  obtain ⟨l1', l2', l3', l4'⟩ := He.exc_ok (d.facts (f := .exc "CannotLay") (by simp [fa]))
  obtain ⟨es3, n3, kd3⟩ := c.t.tab 2
  obtain ⟨i1, i⟩ := He.ba m11
  obtain ⟨i2, i⟩ := He.ba i
  obtain ⟨i3, i4⟩ := He.ba i
  obtain ⟨j1, j⟩ := He.ba m12
  obtain ⟨j2, j⟩ := He.ba j
  obtain ⟨j3, j4⟩ := He.ba j
  obtain ⟨dL, FL⟩ := df "law" sLaw (by simp [FNS])
  have e := hfa.symm.trans (gl "law" sLaw (by simp [FNS]))
  cases e
  obtain ⟨x1, x2, x3, x4⟩ := He.exc_ok (d.facts (f := .exc "BadDeed") (by simp [fa]))
  obtain ⟨y1, y2, y3, y4⟩ := He.exc_ok (d.facts (f := .exc "BadDrawing") (by simp [fa]))
  obtain ⟨z1, z2, z3, z4⟩ := He.exc_ok (d.facts (f := .exc "BadTable") (by simp [fa]))
  obtain ⟨dT, FT⟩ := d.defs (d := dTow) (by simp [fn])
  obtain ⟨dN, FN⟩ := d.defs (d := dNum) (by simp [fn])
  obtain ⟨dFr, FFr⟩ := d.defs (d := dFra) (by simp [fn])
  obtain ⟨es1, n1, kd1⟩ := c.t.tab 0
  obtain ⟨es2, n2, kd2⟩ := c.t.tab 1
  have sup : SupX.Has LW.prog K mg tCl (He.ga K "Clash") (He.fAd K ("Clash", some "__init__")) :=
    has_of (qual := qInit) m1 (gl0 _ (by simp [fa])) (fr _ (by simp [fa])) (beq_self_eq_true _) (by kernel_rfl) (cc.i _ List.mem_cons_self) ⟨by decide +kernel, by decide +kernel⟩ rfl rfl rfl rfl (fun _ _ _ _ _ _ _ _ _ => rfl) (fun _ => ⟨_, rfl⟩)
  have clsT := He.cls_ok (d.facts (f := .cls "Tower") (by simp [fa]))
  have clsN := He.cls_ok (d.facts (f := .cls "Number") (by simp [fa]))
  have Z : All LW.prog w K mg ⟨He.ga K "BadDeed", He.ga K "BadDrawing", He.ga K "BadTable", He.ga K "Clash", He.ga K "CannotLay", He.ga K "RulerError", He.ga K "TOOLS"⟩ ⟨He.ga K "Tower", He.ga K "Number", He.ma K (He.ga K "Tower") "__init__", He.ma K (He.ga K "Number") "__init__", pTow K, He.fAd K ("Clash", some "__init__"), He.ma K (He.ga K "Number") "__eq__"⟩ dT dN dQ :=
    { t := ⟨fr _ (by simp [fa]), fr _ (by simp [fa]), fr _ (by simp [fa]), fr _ (by simp [fa]), fr _ (by simp [fa]), fr _ (by simp [fa]), fr _ (by simp [fa]), fr _ (by simp [fa]), fr _ (by simp [fa]), fr _ (by simp [fa]), fr _ (by simp [fa]), fr _ (by simp [fa]), fr _ (by simp [fa]), fr _ (by simp [fa]), fr _ (by simp [fa]), fr _ (by simp [fa]), fr _ (by simp [fa])⟩
      n := ⟨PySem.W.mg_of X G (He.eqO_ok k1), fr _ (by simp [fa]), fr _ (by simp [fa])⟩
      great := ⟨_, He.int_ok X G (d.facts (f := .int "GREAT" 1152921504606846976) (by simp [fa]))⟩
      y := ⟨⟨_, es3, n3, gl0 "LAYERS" (by simp [fa]), kd3, He.eqO_ok k2, He.eqO_ok k3⟩⟩
      q := ⟨qq1, qq2, k4, FQ⟩
      eL := ⟨gl0 _ (by simp [fa]), l1', l2', l3', l4'⟩, xL := He.exm_ok (d.facts (f := .exm "CannotLay" "CannotLay" true) (by simp [fa])), no := of_decide_eq_true k5
      c := { letters := He.str_ok X G (d.facts (f := .str "LETTERS" "abcdefghijklmnopqrstuvwxyz") (by simp [fa])), digits := He.str_ok X G (d.facts (f := .str "DIGITS" "0123456789") (by simp [fa])) }
      d := ⟨⟨_, es1, n1, gl0 "FORMS" (by simp [fa]), kd1, formB_ok m8, fun z hz => He.eqO_ok (List.all_eq_true.mp m10 z hz)⟩, ⟨_, es2, n2, gl0 "OTHERS" (by simp [fa]), kd2, othB_ok m9⟩⟩
      o := { gT := gl0 _ (by simp [fa]), gN := gl0 _ (by simp [fa]), kT := He.mkr_ok (d.facts (f := .mkr "Tower") (by simp [fa])), kN := He.mkr_ok (d.facts (f := .mkr "Number") (by simp [fa]))
             iT := ⟨clsT, He.eqO_ok i1, He.eqO_ok i2, of_decide_eq_true i3, of_decide_eq_true i4, kit_self _⟩
             cN := clsN, iN := ⟨clsN, He.eqO_ok j1, He.eqO_ok j2, of_decide_eq_true j3, of_decide_eq_true j4, kit_self _⟩, intN := of_decide_eq_true m13
             n1 := He.noat_ok (d.facts (f := .noat "Tower" "rows") (by simp [fa])), n2 := He.noat_ok (d.facts (f := .noat "Tower" "squares") (by simp [fa]))
             n3 := He.noat_ok (d.facts (f := .noat "Number" "tower") (by simp [fa])), n4 := He.noat_ok (d.facts (f := .noat "Number" "vector") (by simp [fa]))
             eE := (tupAt_ok m7).1, sE := (tupAt_ok m7).2, most := He.int_ok X G (d.facts (f := .int "MOST" 6) (by simp [fa])), FT := FT, FN := FN }
      fns := df, gl := gl, frac := ⟨dFr, FFr⟩, gFr := gl0 _ (by simp [fa]), gTo := gl0 "TOOLS" (by simp [fa]), hTo := (tupAt_ok mT).2
      eD := ⟨⟨gl0 _ (by simp [fa]), x1, x2, x3, x4⟩, excC_of m2, He.exm_ok (d.facts (f := .exm "BadDeed" "RulerError" true) (by simp [fa]))⟩
      eW := ⟨⟨gl0 _ (by simp [fa]), y1, y2, y3, y4⟩, excC_of m3, He.exm_ok (d.facts (f := .exm "BadDrawing" "RulerError" true) (by simp [fa]))⟩
      eT := ⟨⟨gl0 _ (by simp [fa]), z1, z2, z3, z4⟩, excC_of m4, He.exm_ok (d.facts (f := .exm "BadTable" "RulerError" true) (by simp [fa]))⟩
      sn := sup, cS := excC_of m5, fS := xfB_ok m6, xS := He.exm_ok (d.facts (f := .exm "Clash" "RulerError" true) (by simp [fa])), gR := gl0 _ (by simp [fa]) }
  have b := FunD.bindsA (ps := ["_law_script"]) FL fun _ _ _ _ _ _ us hl => match us, hl with | [_], _ => rfl
  have all : ∀ {p : Addr × Addr}, p ∈ [He.cT K qT, He.cT K qE] → ∃ q ∈ tf, p = He.cT K q := fun {p} hp => by
    rcases List.mem_cons.mp hp with e | hp
    · exact ⟨_, List.mem_cons_self, e⟩
    · exact ⟨_, List.mem_cons_of_mem _ List.mem_cons_self, List.mem_singleton.mp hp⟩
  have l1 : He.cT K qT ∈ [He.cT K qT, He.cT K qE] := List.mem_cons_self
  have l2 : He.cT K qE ∈ [He.cT K qT, He.cT K qE] := List.mem_cons_of_mem _ List.mem_cons_self
  refine ⟨dL, [He.cT K qT, He.cT K qE], spLaw K (He.cT K qT).2 (He.cT K qE).2, fun p hp => ?_, fun p hp => ?_, fun p hp => ?_, fun s v => b s [v] rfl,
    fun H a ns hl _ hT hS => ⟨a, ns, rfl, hS, hl, hT _ l1, hT _ l2, fun _ => rfl⟩, fun base hK hG hTB => ?_⟩
  · obtain ⟨q, hq, rfl⟩ := all hp
    exact c.empty _ hq
  · obtain ⟨q, hq, rfl⟩ := all hp
    exact c.out _ hq
  · obtain ⟨q, hq, rfl⟩ := all hp
    exact PySem.W.codeHd_of_K X (c.hd _ hq)
  · exact Z.law FL rfl rfl (of_decide_eq_true m14) (hTB _ l1) (hTB _ l2)
end Own
open PySem PySem.W PySem.Calls PyProof.Rows
theorem PySem.Challenge.cw_rulerchest_k25_names_exchanged_holds : PySem.Challenge.rw_rulerchest_k25_names_exchanged.Holds := by
  w_on; o_law
  refine HandSHeadRun.head_imp (r := OpenLaw.row PySem.Challenge.rw_rulerchest_k25_names_exchanged) (q := view (OpenLaw.row PySem.Challenge.rw_rulerchest_k25_names_exchanged).prog [0, 152]) (H := Own.hk) (ob := Own.ob) (M := 12000) (loose := Own.loose) (d := HandSHeadRun.topDef (OpenLaw.row PySem.Challenge.rw_rulerchest_k25_names_exchanged).prog 152) (kwd := []) Own.ob_eq
    Own.run (by kernel_rfl) (by kernel_rfl) (by kernel_rfl) (by rfl) (by first | assumption | decide +kernel) (by decide +kernel) ⟨rfl, rfl, rfl, rfl, rfl, by decide +kernel⟩ ?hw ?hc
  case hw => w_witness2
  case hc =>
    refine Own.walk_ofG (l := PySem.Challenge.rw_rulerchest_k25_names_exchanged) (n := 63) (k := 12) (x := "_law_script") (CX := fun _ => L2.CX0) rfl (by decide) (by kernel_rfl) ⟨rfl, by decide, by decide⟩ ?F (fun _ _ _ _ _ z => z)
    intro w mg fa h Y G hmg0
    obtain ⟨K, KX, c⟩ := Y
    have hmg : mg ("law" : PySem.Str) = some (.ref fa) := by
      have e : (HandSHeadRun.topDef (OpenLaw.row PySem.Challenge.rw_rulerchest_k25_names_exchanged).prog 152).name = ("law" : PySem.Str) := by kernel_rfl
      rw [← e]
      exact hmg0
    exact ⟨K, KX, Own.facts KX G hmg c⟩
#print axioms PySem.Challenge.cw_rulerchest_k25_names_exchanged_holds
