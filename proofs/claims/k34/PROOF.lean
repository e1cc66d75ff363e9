import PyProof.Rows.All
import Wide.All
import OpenK.AllK
import Wide.FinOn
import KE.KStateDown
import KE.KNest
import KE.KNestM
import Lean
import HandS.ForMost
import HandS.Exc
import HandS.TryOnly
import HandS.TryMany
import HandS.ExcOwn
import HandS.ExcInit
import HandS.ExcField
import HandS.WordsExc
import HandS.Defaults
import HandS.Head0
import HandS.Head1
import HandS.Head2
import HandS.HeadEnd
import HandS.HeadHook1
import HandS.HeadHook2
import HandS.HeadHook3
import HandS.HeadHook4
import HandS.HeadWalk
import HandS.Lambda
import HandS.EndBits
import HandS.EndTab
import HandS.IsInst
import HandS.Wide
import HandS.Codes
import HandS.Zip
import HandS.Evl
import HandS.SortOrd
import HandS.Small
import HandS.Walk
import HandS.Steps
import HandS.WideBits
import HandS.SortInts
import PyProof.Rows.SortShellAny
import PySem.Challenge.RW_leastroutes_k34_whole_ranges
import PyProof.Rows.SortStr
set_option Elab.async false
set_option linter.all false
set_option maxRecDepth 100000
set_option maxHeartbeats 4000000
/-! Own rules: repr of data, defs that know that no repr is under way, several except clauses with a name. -/
namespace LW
open PySem PySem.Spec PyProof.Rows L2

/-! ### repr of a tuple or list of data -/
section
variable {X : Cx}
def rRepr (K : PySem.W.Frag) : List V → Hp → VK → Prop := fun xs H Q => ∃ (a : Addr) (d : PyData), xs = [.ref a] ∧ Dp K H (.ref a) d ∧ d.showable = true ∧ d.hasDict = false ∧ d.depth ≤ 32 ∧ d.shown.length ≤ sizeLine ∧ Q (.str d.shown) H
theorem cr_repr (hg : X.A.guards = some []) (hu : X.A.units + 64 < cLine) : CallR X (.builtin "repr") (rRepr X.K) := by
  intro pins s σ H xs us Q I r h
  obtain ⟨a, d, rfl, hd, hs, hnd, hdep, hsz, q⟩ := h
  obtain ⟨u, rfl, ru⟩ := vals1 r
  obtain rfl : u = Value.ref a := ru
  obtain ⟨as, rd⟩ := Dp.reads I d _ _ hd rfl
  exact repr_of_reads' rd hs (PyData.noDict_hsm hnd) hg (by omega) (fun _ _ e => e) (fun h' u tk k => ⟨.str d.shown, H, I.kept k, ⟨u, rfl⟩, q⟩) hsz
end

/-! ### a def that is called only where no repr is under way -/
structure FnG (P : Program) (w : World) (K : PySem.W.Frag) (mg : Str → Option Value) (base : Heap) (CX : CXT) (k : Nat) (f : Addr) (fd : FuncData) (ps : List Str) (sp : Sp) : Prop where
  len : ∀ vs H Q E, sp vs H Q E → vs.length = ps.length
  run : ∀ (A : Around) (outer : List Env) (s : Shared) (H : Hp) (args : Args) (us : List Value) (vs : List V) (Q : VK) (E : XK), A.guards = some [] → Room k A → Env0 P w K mg base A outer s H → BindsTo s fd args (ps.zip us) → Vals vs us → sp vs H Q E →
    codeAny (model P w) A (.call (.ref f) args) (CR CX outer P w H s Q E) s
theorem FnOk.g {P : Program} {w : World} {K : PySem.W.Frag} {mg : Str → Option Value} {base : Heap} {CX : CXT} {k : Nat} {f : Addr} {fd : FuncData} {ps : List Str} {sp : Sp} (F : FnOk P w K mg base CX k f fd ps sp) : FnG P w K mg base CX k f fd ps sp :=
  ⟨F.len, fun A outer s H args us vs Q E _ => F.run A outer s H args us vs Q E⟩

/-- a def of the text, its body read under no repr -/
theorem FunD.okG {CX : CXT} {P : Program} {w : World} {K : PySem.W.Frag} {mg : Str → Option Value} {base : Heap} {x qual : Str} {params : Arguments} {body : List Stmt} {scope : Scope} {dvs : List V} {kws : List (Str × V)} {f : Addr} {fd : FuncData} {N ps : List Str} {k : Nat} {sp : Sp}
    (F : FunD K x qual params body scope dvs kws f fd) (S : FnScope N ps scope) (len : ∀ vs H Q E, sp vs H Q E → vs.length = ps.length)
    (hbody : ∀ (cdv : Value) (A : Around) (outer : List Env) (s : Shared) (H : Hp) (vs : List V) (Q : VK) (E : XK), A.guards = some [] → Room k (A.deeper (envOfC qual scope s.heap.objs.size f cdv)) → PySem.W.codeIn K cdv qual = true → (∃ oc od osl, K.lookup f = some ⟨oc, od, .func fd, osl⟩) → fd.code = cdv → sp vs H Q E →
      ∃ t, PSs (cxOf CX P w K mg base N qual scope f cdv A outer s H E) body t ∧ t { nx := fun _ H' => Q .non H', rt := Q } (start N vs) H) : FnG P w K mg base CX (k + 1) f fd ps sp := by
  obtain ⟨oc, od, dV, kV, doc, pm, an, cdv, ct, osl, rfl, lk, hcd, _, _⟩ := F.ex
  refine ⟨len, fun A outer s H args us vs Q E hg hr e0 hb r hsp => ?_⟩
  have lens := len _ _ _ _ hsp
  exact LamX.run_ofS lk hcd S hr e0 hb r lens fun hr' => hbody cdv A outer s H vs Q E hg hr' hcd ⟨_, _, _, lk⟩ rfl hsp
/-- the same of a def that may be called anywhere -/
theorem FunD.okC {CX : CXT} {P : Program} {w : World} {K : PySem.W.Frag} {mg : Str → Option Value} {base : Heap} {x qual : Str} {params : Arguments} {body : List Stmt} {scope : Scope} {dvs : List V} {kws : List (Str × V)} {f : Addr} {fd : FuncData} {N ps : List Str} {k : Nat} {sp : Sp}
    (F : FunD K x qual params body scope dvs kws f fd) (S : FnScope N ps scope) (len : ∀ vs H Q E, sp vs H Q E → vs.length = ps.length)
    (hbody : ∀ (cdv : Value) (A : Around) (outer : List Env) (s : Shared) (H : Hp) (vs : List V) (Q : VK) (E : XK), Room k (A.deeper (envOfC qual scope s.heap.objs.size f cdv)) → sp vs H Q E →
      ∃ t, PSs (cxOf CX P w K mg base N qual scope f cdv A outer s H E) body t ∧ t { nx := fun _ H' => Q .non H', rt := Q } (start N vs) H) : FnOk P w K mg base CX (k + 1) f fd ps sp :=
  F.ok S len hbody

/-! ### calls of a named def -/
/-- the module's name x is a def that keeps sp (dvs: the defaults that fill up) -/
structure Dk (P : Program) (w : World) (K : PySem.W.Frag) (mg : Str → Option Value) (base : Heap) (CX : CXT) (k : Nat) (x : Str) (sp : Sp) : Prop where
  ex : ∃ (f : Addr) (fd : FuncData) (ps : List Str), FnOk P w K mg base CX k f fd ps sp ∧ mg x = some (.ref f) ∧ PySem.W.keepIn K (.ref f) = true ∧ Binds K fd ps []
structure DkG (P : Program) (w : World) (K : PySem.W.Frag) (mg : Str → Option Value) (base : Heap) (CX : CXT) (k : Nat) (x : Str) (sp : Sp) : Prop where
  ex : ∃ (f : Addr) (fd : FuncData) (ps : List Str), FnG P w K mg base CX k f fd ps sp ∧ mg x = some (.ref f) ∧ PySem.W.keepIn K (.ref f) = true ∧ Binds K fd ps []
def tCl (sp : Sp) (E : XK) (t : TA) : TE := fun σ H Q => t σ H fun vs H1 => sp vs H1 Q E
section
variable {X : Cx} {CX : CXT} {j k : Nat} {x : Str} {sp : Sp} {E : XK} {p pos : Pos} {e : Expr} {es : List Expr} {t : TA}
theorem pe_d (c : Dk X.prog X.w X.K X.mg X.base CX k x sp) (hr : Room j X.A) (hk : k ≤ j) (hg : Gl X x) (hx : Passes CX X E) (ha : PA X (e :: es) t) (hdb : (x == ("__debug__" : Str)) = false := by decide)
    (he : starEach (e :: es) X.env = (false, eval e X.env) :: starEach es X.env := by rfl) (hpl : (backTo pos (starEach es X.env)).any (·.1) = false := by rfl) : PE X (.Call (.Name x p) (e :: es) [] pos) (tCl sp E t) := by
  obtain ⟨f, fd, ps, F, hm, kp, b⟩ := c.ex
  have h := pe_call (p := p) F (hr.mono hk) hg hm kp b .nil hx ha hdb he hpl
  refine ⟨fun pins s σ H Q I q => h.run pins s σ H Q I ?_⟩
  have e1 : (fun (vs : List V) (H1 : Hp) => sp (vs ++ []) H1 Q E) = fun vs H1 => sp vs H1 Q E := by
    funext vs H1
    rw [List.append_nil]
  show t σ H (fun vs H1 => sp (vs ++ []) H1 Q E)
  rw [e1]
  exact q
theorem pe_dG (hgu : X.A.guards = some []) (c : DkG X.prog X.w X.K X.mg X.base CX k x sp) (hr : Room j X.A) (hk : k ≤ j) (hg : Gl X x) (hx : Passes CX X E) (ha : PA X (e :: es) t) (hdb : (x == ("__debug__" : Str)) = false := by decide)
    (he : starEach (e :: es) X.env = (false, eval e X.env) :: starEach es X.env := by rfl) (hpl : (backTo pos (starEach es X.env)).any (·.1) = false := by rfl) : PE X (.Call (.Name x p) (e :: es) [] pos) (tCl sp E t) := by
  obtain ⟨f, fd, ps, F, hm, kp, b⟩ := c.ex
  refine ⟨fun pins s σ H Q I h => ?_⟩
  refine wpAny_Call_Name_kw (ld_glob I hg hm ?_ hdb)
  refine PySem.W.callWith_K (h₀ := X.base) I.ok.mod.kin kp (thn (ha.run pos pins s σ H _ I h) fun us s1 ⟨vs, H1, I1, r, q⟩ => ⟨I1.kIn, ?_⟩) he hpl
  have hl : (us ++ []).length = ps.length := by
    rw [List.append_nil, ← r.length]
    exact F.len _ _ _ _ q
  have hb := b s1 us I1.kIn hl
  rw [List.append_nil] at hb
  refine wpAny_call (codeAny_mono (F.run X.A X.stack s1 H1 ⟨us, []⟩ us vs Q E hgu (hr.mono hk) I1.env0 hb r q) fun r s' hq => ?_)
  cases r with
  | error er => exact hx pins σ H1 s1 er s' I1 hq
  | ok fl =>
    cases fl with
    | ret u => exact I1.after hq
    | next => exact hq.elim
    | brk => exact hq.elim
    | cont => exact hq.elim
end

/-! ### several except clauses, each with a name: what follows is asked of the first that fits -/
abbrev HdS : Type := Value × Nat × (Addr → Value → Option Addr → TS)
def wNamed (K : PySem.W.Frag) (Wout : WX) (D : Ends) : List HdS → WX
  | [] => Wout
  | (c, i, ts) :: r => fun cls d σ H => ∃ b, PySem.W.exmOne K cls c = some b ∧
      (b = true → ∀ a, H a = none → ts a cls d { nx := fun σ' H' => D.nx (σ'.set i none) H', rt := D.rt, bk := fun σ' H' => D.bk (σ'.set i none) H', ct := fun σ' H' => D.ct (σ'.set i none) H' } (σ.set i (some (.ref a))) H) ∧ (b = false → wNamed K Wout D r cls d σ H)
inductive NamedOk (X : Cx) : List ExceptHandler → List HdS → Prop
  | nil : NamedOk X [] []
  | cons {x n : Str} {c : Value} {i : Nat} {ts : Addr → Value → Option Addr → TS} {b₀ : Stmt} {suite : List Stmt} {np pos' : Pos} {hds : List ExceptHandler} {l : List HdS} (hc : Names X x c) (hi : X.N[i]? = some n) (hl : X.env.kindOf n = some .local)
      (hsu : ∀ (a : Addr) (oe : Obj) (cls : Value) (d : Option Addr) (pn : List (Addr × Obj)), Zc cls d oe → (∃ vs, oe.data = .fields vs) → PSs (X.suite a ((a, oe) :: pn)) (b₀ :: suite) (ts a cls d)) (r : NamedOk X hds l) :
      NamedOk X (.ExceptHandler (some (.Name x np)) (some n) (b₀ :: suite) pos' :: hds) ((c, i, ts) :: l)
section
variable {X : Cx} {body : List Stmt} {h₀ : ExceptHandler} {hds : List ExceptHandler} {l : List HdS} {pos : Pos} {tb : WX → TS} {Wout : WX}
/-- what an exception in flight wishes, noted where it landed -/
theorem named_go {D : Ends} {pins : List (Addr × Obj)} {a : Addr} {B h3 : Heap} {sI s' : Shared} {σ' : L2.St} {H' : Hp} {cls : Value} {d : Option Addr} (ok : X.Ok) (hN : X.N.Nodup) (hs : X.stack = X.env :: X.outer) (hf : X.env.frame = some X.env.locals) (tk : Takes X Wout)
    (J : Inv X pins σ' H' sI) (nb : ∀ b o, sI.heap.get? b = some o → b ∉ frs X.stack → B.get? b = some o) (up : sI.heap.UpToSlots h3) (os : s'.os = sI.os) (ag : AllBare s'.gens) (na : H' a = none) (nL : a ≠ X.env.locals) (nF : a ∉ X.fs)
    (fl3 : HandSPX.FlyingZ B (X.env :: X.outer) a (Zc cls d) h3) : ∀ {hs' : List ExceptHandler} {l' : List HdS}, NamedOk X hs' l' → wNamed X.K Wout D l' cls d σ' H' →
      wpAny (model X.prog X.w) X.A (handleBy (.ref a) X.env hs') (SP X pins D) X.xe { s' with heap := h3 } := by
  have J3 : Inv X pins σ' H' { s' with heap := h3 } := J.landed nb fl3.1 up os ag
  obtain ⟨oe3, vs3, he3, hz3, hd3⟩ := fl3.there
  have S3 := J3.suite he3 hd3 na nL nF
  intro hs' l' hk
  induction hk with
  | nil =>
    intro w
    refine wpAny_handleBy_nil ?_
    obtain ⟨k1, k2, k3, oe, vs, T, oT, ts', he, hz, hd, h1, hr⟩ := id fl3
    unfold PySem.passOn
    refine wpAny_bind (wpAny_field he hd h1 ?_)
    rw [if_neg (show ¬ ((Value.ref T == Value.none) = true) from by simp)]
    have fin : wpAny (model X.prog X.w) X.A (setFlight (.ref a) X.env.frame) (fun _ s4 => wpAny (model X.prog X.w) X.A (throw (.ref a) : Sem Flow) (SP X pins D) X.xe s4) X.xe { s' with heap := h3 } := by
      rw [hf]
      exact HandSPX.setFlight_upZ fl3 fun h4 hh4 up4 => wpAny_throw (tk _ _ ⟨a, B, sI, pins, σ', H', cls, d, rfl, J, nb, up.trans up4, .inr (.inr (by rw [hs]; exact hh4)), na, os, ag, w⟩)
    first
      | exact wpAny_bind (wpAny_pure (wpAny_bind fin))
      | exact wpAny_bind fin
  | @cons x n c i ts b₀ suite np pos' hds2 l2 hc hi hl hsu r ih =>
    intro w
    obtain ⟨b, hb1, hyes, hno⟩ := w
    refine wpAny_handleBy_cons (codeAny_handlers_test ?_) (by intro q; cases q)
    have LT : PySem.W.Looks (model X.prog X.w) h3 (typeOf (.ref a)) cls := fun A Q E s k q => wpAny_typeOf_ref (k _ _ he3) (by rw [hz3.1]; exact q)
    have LM := PySem.W.exm_one (M := model X.prog X.w) (J3.kIn) LT hb1
    have look : ∀ {Q : Value → Shared → Prop} {E : Value → Shared → Prop}, Q c { s' with heap := h3 } → wpAny (model X.prog X.w) (X.A.mark (some (.ref a))) (eval (.Name x np) X.env) Q E { s' with heap := h3 } := fun {Q E} q => by
      obtain ⟨hg, hdbg, hm | ⟨hm, hv, hnn⟩⟩ := hc
      · exact ld_glob (X := X.suite a ((a, oe3) :: (X.pn ++ pins))) S3 hg hm q hdbg
      · exact ld_blt (X := X.suite a ((a, oe3) :: (X.pn ++ pins))) S3 hg hm hv q hnn hdbg
    refine look (LM.here ?_)
    cases b with
    | false => exact ih (hno rfl)
    | true =>
      refine codeAny_handlers_suite_as ?_
      refine HandSPX.lands_againZ fl3 fun h4 fl4 up4 => ?_
      have J4 : Inv X pins σ' H' { s' with heap := h4 } := J.landed nb fl4.1 (up.trans up4) os ag
      obtain ⟨oe4, vs4, he4, hz4, hd4⟩ := fl4.there
      have S4 := J4.suite he4 hd4 na nL nF
      have hloc : Loc X.env.scope n := .inl hl
      refine store_ok (X := X.suite a ((a, oe4) :: (X.pn ++ pins))) (v := .ref a) S4 hN hi hloc rfl (fun s5 S5 => ?_) (.inr hl)
      refine wpAny_mono ((hsu a oe4 cls d (X.pn ++ pins) hz4 ⟨_, hd4⟩).run [] s5 _ H' _ S5 (hyes rfl a na)) (fun f s6 hsp => ?_) (fun _ _ z => z.elim)
      have gone : ∀ {σ6 : L2.St} {H6 : Hp} {Q : Shared → Prop}, Inv (X.suite a ((a, oe4) :: (X.pn ++ pins))) [] σ6 H6 s6 → (∀ s7, Inv X pins (σ6.set i none) H6 s7 → Q s7) →
          wpAny (model X.prog X.w) X.A (do bindName X.env n .none; unbindBehindTheSuite X.env n pos') (fun _ s7 => Q s7) X.xe s6 := fun {σ6 H6 Q} S6 hq => gone_ok (S6.unsuite ok) hN hi hl hq
      cases f with
      | next =>
        obtain ⟨σ6, H6, S6, q6⟩ := hsp
        exact gone S6 fun s7 J7 => ⟨_, _, J7, q6⟩
      | brk =>
        obtain ⟨σ6, H6, S6, q6⟩ := hsp
        exact gone S6 fun s7 J7 => ⟨_, _, J7, q6⟩
      | cont =>
        obtain ⟨σ6, H6, S6, q6⟩ := hsp
        exact gone S6 fun s7 J7 => ⟨_, _, J7, q6⟩
      | ret u =>
        obtain ⟨v6, σ6, H6, S6, r6, q6⟩ := hsp
        exact gone S6 fun s7 J7 => ⟨_, _, _, J7, r6, q6⟩
theorem ps_try_named (hs : X.stack = X.env :: X.outer) (hf : X.env.frame = some X.env.locals) (hN : X.N.Nodup) (tk : Takes X Wout)
    (hb : ∀ (W : WX) (pn : List (Addr × Obj)) (xe : Value → Shared → Prop), Takes (X.tr pn xe) W → PassesOwn (model X.prog X.w) X.A X.env xe → PSs (X.tr pn xe) body (tb W))
    (hh : NamedOk X (h₀ :: hds) l) : PS X (.Try body (h₀ :: hds) [] [] pos) (fun D σ H => tb (wNamed X.K Wout D l) D σ H) := by
  refine ⟨fun pins s σ H D I h => ?_⟩
  have ok := I.ok
  have hfr : X.A.frames = some (X.env :: X.outer) := by rw [ok.frames, hs]
  refine wpAny_Try_except ?_
  refine wpAny_mono ((hb (wNamed X.K Wout D l) (X.pn ++ pins) (fun e s₁ => wpAny (model X.prog X.w) X.A (noteFrame e X.env) (fun _ s₂ => wpAny (model X.prog X.w) X.A (setFlight e none) (fun _ s₃ =>
    wpAny (model X.prog X.w) X.A (handleBy e X.env (h₀ :: hds)) (SP X pins D) X.xe s₃) X.xe s₂) X.xe s₁) (fun u s' xx => ?_) PassesOwn.looking).run [] s σ H D (I.toTry _) h) (fun f s1 hsp => ?_) (fun e s1 he => he)
  · obtain ⟨a, B, sI, pins', σ', H', cls, d, rfl, J', nb, up, sky, na, os, ag, w⟩ := xx
    have J : Inv X pins σ' H' sI := J'.ofTry ok
    have sky' : Sky B (X.env :: X.outer) a (Zc cls d) X.env.locals s'.heap := by rw [← hs]; exact sky
    show wpAny (model X.prog X.w) X.A (noteFrame (.ref a) X.env) _ _ _
    refine Sky.land Zc.steady hfr hf sky' fun h3 fl3 up3 => ?_
    obtain ⟨oe3, vs3, he3, hz3, hd3⟩ := fl3.there
    have nfr : a ∉ frs (X.env :: X.outer) := fun hm => by
      obtain ⟨_, o', e', hnf⟩ := fl3.2.2.1.mem hm
      rw [he3] at e'; cases e'
      exact hnf _ hd3
    have nL : a ≠ X.env.locals := fun z => nfr (List.mem_filterMap.mpr ⟨X.env, List.mem_cons_self, by rw [hf, z]⟩)
    have nF : a ∉ X.fs := fun hm => by
      obtain ⟨e, he, q⟩ := List.mem_filterMap.mp hm
      exact nfr (List.mem_filterMap.mpr ⟨e, List.mem_cons_of_mem _ he, q⟩)
    exact named_go ok hN hs hf tk J nb (up.trans up3) os ag na nL nF fl3 hh w
  · cases f with
    | next =>
      obtain ⟨σ', H', J', q⟩ := hsp
      exact wpAny_execs_nil ⟨σ', H', J'.ofTry ok, q⟩
    | brk =>
      obtain ⟨σ', H', J', q⟩ := hsp
      exact ⟨σ', H', J'.ofTry ok, q⟩
    | cont =>
      obtain ⟨σ', H', J', q⟩ := hsp
      exact ⟨σ', H', J'.ofTry ok, q⟩
    | ret u =>
      obtain ⟨v, σ', H', J', r, q⟩ := hsp
      exact ⟨v, σ', H', J'.ofTry ok, r, q⟩
end
end LW
/-! Own facts of exception classes, raising them, named readings of operators and calls. -/
namespace LW
open PySem PySem.Spec PyProof.Rows L2

/-! ### an exception class over ValueError whose __init__ is inherited -/
def oexB (K : PySem.W.Frag) (C : Addr) : Bool := match K.lookup C with
  | some ⟨.type "type", _, .cls cd, sl⟩ => (match cd.mro, sl.toList with
    | .ref C' :: bm, [_, _, _, _, some (.builtin n), _] => C' == C && n == "ValueError.__new__" && !cd.hasDel && cd.hasDict && PySem.HandSPX.refsVE bm
    | _, _ => false)
  | _ => false
def eqO (a b : Option (Option Value)) : Bool := decide (a = b)
def xcB (K : PySem.W.Frag) (B x : Str) : Bool := oexB K (He.ga K x) && (decide (PySem.W.findIn K (.ref (He.ga K x)) "__setattr__" = some (some (.builtin "object.__setattr__"))) &&
  (decide (PySem.W.subIn K (.ref (He.ga K x)) (.type "BaseException") = some true) && (decide (PySem.W.typeIn K (.ref (He.ga K x)) = some (.type "type")) && (PySem.W.keepIn K (.ref (He.ga K x)) &&
  (decide (PySem.W.findIn K (.ref (He.ga K x)) "__init__" = some (some (.ref (He.fAd K (B, some "__init__"))))) && (decide (PySem.W.typeIn K (.ref (He.fAd K (B, some "__init__"))) = some (.type "function")) &&
  (decide (PySem.W.findIn K (.ref (He.ga K x)) "value" = some none) && xfB K (He.ga K x))))))))
structure XcT (K : PySem.W.Frag) (B x : Str) : Prop where
  o : OexC K (He.ga K x)
  ini : PySem.W.findIn K (.ref (He.ga K x)) "__init__" = some (some (.ref (He.fAd K (B, some "__init__"))))
  ty : PySem.W.typeIn K (.ref (He.fAd K (B, some "__init__"))) = some (.type "function")
  no : PySem.W.findIn K (.ref (He.ga K x)) "value" = some none
  xf : XfC K (He.ga K x)
theorem oexB_ok {K : PySem.W.Frag} {C : Addr} (h : oexB K C = true) : ∃ nm q N bs bm sn sub ab col dd k0 k1 k2 k3 k5, K.lookup C = some (excClassObj nm q C N bs bm true sn sub ab col dd k0 k1 k2 k3 k5 "ValueError.__new__") ∧ PySem.HandSPX.refsVE bm = true := by
  unfold oexB at h
  split at h
  · rename_i dd cd sl ho
    split at h
    · rename_i C' bm k0 k1 k2 k3 n k5 hm hs
      simp only [Bool.and_eq_true, beq_iff_eq, Bool.not_eq_true'] at h
      obtain ⟨⟨⟨⟨rfl, rfl⟩, hdel⟩, hdi⟩, hr⟩ := h
      obtain ⟨nm, bs, mro, ns, qn, hd, sn, sub, ab, col, del⟩ := cd
      dsimp only at hm hdel hdi
      subst hm hdel hdi
      have hsl : sl = #[k0, k1, k2, k3, some (.builtin "ValueError.__new__"), k5] := by
        obtain ⟨l⟩ := sl
        simp only at hs
        rw [hs]
      subst hsl
      exact ⟨nm, qn, ns, bs, bm, sn, sub, ab, col, dd, k0, k1, k2, k3, k5, ho, hr⟩
    · cases h
  · cases h
theorem xcB_ok {K : PySem.W.Frag} {B x : Str} (h : xcB K B x = true) : XcT K B x := by
  unfold xcB at h
  simp only [Bool.and_eq_true, decide_eq_true_eq] at h
  obtain ⟨h1, h2, h3, h4, h5, h6, h7, h8, h9⟩ := h
  exact ⟨⟨oexB_ok h1, h2, h3, h4, h5⟩, h6, h7, h8, xfB_ok h9⟩
structure XcF (K : PySem.W.Frag) (mg : Str → Option Value) (B x : Str) : Prop where
  g : mg x = some (.ref (He.ga K x))
  t : XcT K B x
theorem int_of {mg : Str → Option Value} {x : Str} {i : Int} (h : ∃ t, mg x = some (.int i t)) : ∃ u, mg x = some u ∧ RelV (.int i) u := by
  obtain ⟨t, e⟩ := h
  exact ⟨_, e, t, rfl⟩

/-! ### own classes in isinstance -/
def icB (K : PySem.W.Frag) (x : Str) : Bool := decide (PySem.W.findIn K (.ref (He.ga K x)) "__class__" = some (some (.builtin "object.__class__"))) &&
  (decide (PySem.W.specialIn K (.builtin "object.__class__") "__get__" = some (some (.builtin "getset_descriptor.__get__"))) && (decide (PySem.W.takesIn K (.builtin "object.__class__") = some true) && decide (PySem.W.mroIn K (He.ga K x) (.type "object") = some true)))
structure IcF (K : PySem.W.Frag) (x : Str) : Prop where
  ha : PySem.W.findIn K (.ref (He.ga K x)) "__class__" = some (some (.builtin "object.__class__"))
  hn : PySem.W.specialIn K (.builtin "object.__class__") "__get__" = some (some (.builtin "getset_descriptor.__get__"))
  ht : PySem.W.takesIn K (.builtin "object.__class__") = some true
  hm : PySem.W.mroIn K (He.ga K x) (.type "object") = some true
theorem icB_ok {K : PySem.W.Frag} {x : Str} (h : icB K x = true) : IcF K x := by
  unfold icB at h
  simp only [Bool.and_eq_true, decide_eq_true_eq] at h
  exact ⟨h.1, h.2.1, h.2.2.1, h.2.2.2⟩

/-! ### heaps -/
abbrev Ex := Evl.Ex
theorem ex_refl {H : Hp} : Ex H H := Evl.Ex.refl H
theorem ex_new {H : Hp} {p : Addr} {o : HO} (h : H p = none) : Ex H (upd H p o) := Evl.Ex.new h
theorem ex_back {H H' : Hp} {p : Addr} (e : Ex H H') (h : H' p = none) : H p = none := Evl.fresh_back e h

/-! ### RouteError.__init__(self, value=None): self.value = value -/
def spInit (K : PySem.W.Frag) : Sp := fun vs H Q _ => ∃ (a C : Addr) (v : V), vs = [.ref a, v] ∧ H a = some (exo a C none) ∧ OexC K C ∧ PySem.W.findIn K (.ref C) "value" = some none ∧
  ∀ d, H d = none → d ≠ a → Q .non (upd (upd H d (exd d [("value", v)])) a (exo a C (some d)))
/-- what a raise X(e) asks -/
def tX (C : Addr) (ta : TA) : L2.St → Hp → XK → Prop := fun σ H Q => ta σ H fun vs H1 => ∃ v, vs = [v] ∧ ∀ d H2, H1 d = none → Ex H1 H2 → H2 d = some (.xd [("value", v)]) → Q (.ref C) (some d) H2
/-- the class x, its __init__ kept at level 1 -/
structure Xk (P : Program) (w : World) (K : PySem.W.Frag) (mg : Str → Option Value) (base : Heap) (B x : Str) : Prop where
  f : XcF K mg B x
  ex : ∃ (fd : FuncData), FnOk P w K mg base L2.CX0 1 (He.fAd K (B, some "__init__")) fd ["self", "value"] (spInit K) ∧ Binds K fd ["self", "value"] []
theorem pa_mono {X : Cx} {es : List Expr} {t : TA} (ha : PA X es t) : PA X es (fun σ H R => ∃ Q0 : List V → Hp → Prop, t σ H Q0 ∧ ∀ vs H1, Q0 vs H1 → R vs H1) := by
  refine ⟨fun pos pins s σ H Q I h => ?_⟩
  obtain ⟨Q0, h0, hq⟩ := h
  exact thn (ha.run pos pins s σ H Q0 I h0) fun us s1 ⟨vs, H1, I1, r, q⟩ => ⟨vs, H1, I1, r, hq _ _ q⟩
section
variable {X : Cx} {j : Nat} {B x : Str} {p pos : Pos} {e : Expr} {ta : TA}
theorem pmk_x (c : Xk X.prog X.w X.K X.mg X.base B x) (hr : Room j X.A) (hk : 2 ≤ j) (hg : Gl X x) (ha : PA X [e] ta) (hdb : (x == ("__debug__" : Str)) = false := by decide) (he : starEach [e] X.env = (false, eval e X.env) :: starEach [] X.env := by rfl)
    (hpl : (backTo pos (starEach [] X.env)).any (·.1) = false := by rfl) : PMk X (.Call (.Name x p) [e] [] pos) (tX (He.ga X.K x) ta) := by
  obtain ⟨fd, F, b⟩ := c.ex
  intro pins s σ H Q I h
  refine pmk_oex (p := p) (pos := pos) c.f.t.o c.f.t.ini c.f.t.ty F (hr.mono hk) b .nil L2.pass0 hg c.f.g (pa_mono ha) hdb he hpl pins s σ H Q I ⟨_, h, fun vs H1 hv => ?_⟩
  obtain ⟨v, rfl, q⟩ := hv
  refine ⟨(by show 1 ≤ 1000; decide), fun a na => ⟨a, _, v, rfl, upd_same, c.f.t.o, c.f.t.no, fun d nd da => ⟨rfl, d, [("value", v)], upd_same, ?_, ?_, ?_⟩⟩⟩
  · rw [upd_ne da, upd_same]
  · rw [upd_ne da] at nd
    exact nd
  · have nd1 : H1 d = none := by rw [upd_ne da] at nd; exact nd
    refine q d _ nd1 (fun z o hz => ?_) upd_same
    have za : z ≠ a := ne_of_none hz na
    have zd : z ≠ d := ne_of_none hz nd1
    rw [upd_ne zd, del_ne za, upd_ne za, upd_ne zd, upd_ne za]
    exact hz
end
/-- the def itself -/
theorem init_ok {P : Program} {w : World} {K : PySem.W.Frag} {mg : Str → Option Value} {base : Heap} {B : Str} {st : Stmt} {fd : FuncData} (F : FunD K "__init__" (B ++ ".__init__") (defArgs st) (defBody st) (defScope st) [.non] [] (He.fAd K (B, some "__init__")) fd)
    (S : FnScope ["self", "value"] ["self", "value"] (defScope st)) {p1 p2 p3 p4 : Pos} (hb : defBody st = [.Assign [.Attribute (.Name "self" p1) "value" p2] (.Name "value" p3) p4])
    (hs : ∀ env, swapsWith (.Name "value" p3) (some (.Attribute (.Name "self" p1) "value" p2)) p4.line env = pure false)
    (hv0 : Vis (defScope st) "self") (hv1 : Vis (defScope st) "value") : FnOk P w K mg base L2.CX0 1 (He.fAd K (B, some "__init__")) fd ["self", "value"] (spInit K) := by
  refine F.ok S (fun vs H Q E h => ?_) (fun cdv A outer s H vs Q E hr h => ?_)
  · obtain ⟨a, C, v, rfl, _⟩ := h
    rfl
  · rw [hb]
    refine ⟨_, pss_one (ps_ost (pe_var (i := 0) rfl hv0) (pe_var (i := 1) rfl hv1) (hs _)), ?_⟩
    obtain ⟨a, C, v, rfl, ha, hC, hn, q⟩ := h
    exact ⟨v, rfl, _, rfl, a, C, rfl, hC, hn, .inl ⟨ha, fun d nd da => q d nd da⟩⟩
theorem init_binds {K : PySem.W.Frag} {B : Str} {st : Stmt} {fd : FuncData} (F : FunD K "__init__" (B ++ ".__init__") (defArgs st) (defBody st) (defScope st) [.non] [] (He.fAd K (B, some "__init__")) fd)
    (h : ∀ (T : Addr) (kV doc pm : Value) (an : Option Addr) (cdv ct : Value) (us its : List Value), us.length = 2 → its.length = 1 →
      ∃ k, bindArgs (PySem.W.fnOf "__init__" (B ++ ".__init__") (defArgs st) (defBody st) (defScope st) (.ref T) kV doc pm an cdv ct) ⟨us, []⟩ = seqItems? (.ref T) >>= k ∧ k (some its.toArray) = pure ((["self", "value"] : List Str).zip (us ++ its.drop 1))) : Binds K fd ["self", "value"] [] := by
  obtain ⟨ds, hv, hb⟩ := F.binds1 (ps := ["self", "value"]) 2 1 (by simp) (by simp) h
  cases hv
  exact hb
end LW
/-! The end of a law whose def knows that no repr is under way. -/
namespace LW
open PySem PySem.Spec PyProof.Rows L2

section
variable {P : Program} {w : World} {K : PySem.W.Frag} {mg mb : Str → Option Value} {k : Nat} {fa a : Addr} {cs : List (Addr × Addr)} {fd : FuncData} {x : Str} {sp : Sp} {s₁ : Shared} {vs : List Value} {ns : List Int}
/-- what stands at the law's entry: the script's list, the tables of code objects, all empty -/
structure Entry (K : PySem.W.Frag) (mg mb : Str → Option Value) (cs : List (Addr × Addr)) (a : Addr) (vs : List Value) (ns : List Int) (s₁ : Shared) : Prop where
  kin : K.In s₁.heap
  glob : s₁.heap.Ns mainGlobals mg
  blt : s₁.heap.Ns builtinsNs mb
  bltOk : ∀ x : Str, x ≠ "__name__" → mb x = bootBuiltins x
  lim : s₁.heap.NoLimit
  gens : s₁.gens = #[]
  tabs : ∀ p ∈ cs, s₁.heap.get? p.2 = some { cls := .none, data := .fields #[] }
  notIn : ∀ p ∈ cs, K.lookup p.2 = none
  code : ∀ p ∈ cs, PySem.W.CodeHd s₁.heap p.1 p.2
  bmain : ∃ (bm : Addr) (ob : Obj), mg "__builtins__" = some (.ref bm) ∧ bm ≠ builtinsNs ∧ s₁.heap.get? bm = some ob ∧ ob.cls = .type "module" ∧ ob.dict = some builtinsNs ∧ ob.data = .plain
  script : s₁.heap.get? a = some { cls := .type "list", data := .seq vs.toArray }
  intsAre : IntsAre vs ns
  few : ns.length ≤ sizeLine
/-- an abstract heap that tracks the tables, and the script at most -/
structure Starts (K : PySem.W.Frag) (cs : List (Addr × Addr)) (a : Addr) (ns : List Int) (P : Program) (w : World) (s₁ : Shared) (H : Hp) : Prop where
  tabs : ∀ p ∈ cs, H p.2 = some (.tbl #[])
  only : ∀ b, H b = none ∨ b ∈ cs.map (·.2) ∨ (b = a ∧ ∃ o xs, H b = some (.frz o (.lst xs)))
  seq : SqL K H a (ns.map V.int)
  ok : HOk P w H s₁.heap
  free : H a ≠ none → K.lookup a = none
theorem Entry.table (e : Entry K mg mb cs a vs ns s₁) {b : Addr} (hb : b ∈ cs.map (·.2)) : s₁.heap.get? b = some { cls := .none, data := .fields #[] } := by
  obtain ⟨p, hp, rfl⟩ := List.mem_map.mp hb
  exact e.tabs p hp
/-- what is no empty table and no list is not tracked -/
theorem Starts.off {H : Hp} (e : Entry K mg mb cs a vs ns s₁) (S : Starts K cs a ns P w s₁ H) {b : Addr} {o : Obj} (ho : s₁.heap.get? b = some o) (h1 : ∀ us n, o.data ≠ .seq us n) (h2 : o.data ≠ .fields #[]) : H b = none := by
  rcases S.only b with z | z | ⟨rfl, _⟩
  · exact z
  · rw [e.table z] at ho
    cases ho
    exact absurd rfl h2
  · rw [e.script] at ho
    cases ho
    exact absurd rfl (h1 _ _)
theorem Starts.nsAt {H : Hp} (e : Entry K mg mb cs a vs ns s₁) (S : Starts K cs a ns P w s₁ H) {b : Addr} {m : Str → Option Value} (h : s₁.heap.Ns b m) : (hidT s₁.heap H).Ns b m := by
  obtain ⟨o, es, ep, ho, hd, r⟩ := h
  refine ⟨o, es, ep, hidT_get ho (S.off e ho (fun us n z => ?_) fun z => ?_), hd, r⟩
  · rw [hd] at z; cases z
  · rw [hd] at z; cases z
theorem Starts.kin {H : Hp} (e : Entry K mg mb cs a vs ns s₁) (S : Starts K cs a ns P w s₁ H) : K.In (hidT s₁.heap H) := fun b o h => by
  refine hidT_get (e.kin b o h) ?_
  rcases S.only b with z | z | ⟨rfl, z⟩
  · exact z
  · obtain ⟨p, hp, rfl⟩ := List.mem_map.mp z
    rw [e.notIn p hp] at h
    cases h
  · obtain ⟨_, _, z⟩ := z
    rw [S.free (by rw [z]; simp)] at h
    cases h
theorem Starts.mod {H : Hp} (e : Entry K mg mb cs a vs ns s₁) (S : Starts K cs a ns P w s₁ H) : L2.Mod K mg (hidT s₁.heap H) :=
  ⟨S.kin e, S.nsAt e e.glob, ⟨mb, S.nsAt e e.blt, e.bltOk⟩, let ⟨mc, h1, h2⟩ := e.lim; ⟨mc, S.nsAt e h1, h2⟩⟩
theorem Starts.tb {H : Hp} (e : Entry K mg mb cs a vs ns s₁) (S : Starts K cs a ns P w s₁ H) : ∀ p ∈ cs, LamX.TabB (hidT s₁.heap H) mg p.1 p.2 := fun p hp => by
  have ht := e.tabs p hp
  refine ⟨?_, ?_, fun z => ?_⟩
  · obtain ⟨o, us, file, tf, flags, tg, inF, text, tt, e1, r1, r2, r3, r4, r5, r6, r7, r8, hne⟩ := e.code p hp
    refine ⟨o, us, file, tf, flags, tg, inF, text, tt, hidT_get e1 (S.off e e1 (fun vs n z => ?_) fun z => ?_), r1, r2, r3, r4, r5, r6, r7, r8, hne⟩
    · rw [r2] at z
      cases z
    · rw [r2] at z
      cases z
      simp at r3
  · obtain ⟨bm, ob, b1, b2, b3, b4, b5, b6⟩ := e.bmain
    have nG : bm ≠ mainGlobals := fun q => by
      obtain ⟨o, es, ep, eo, hd, _⟩ := e.glob
      rw [q, eo] at b3
      cases b3
      rw [hd] at b6
      cases b6
    have nP : bm ≠ p.2 := fun q => by
      rw [q, ht] at b3
      cases b3
      cases b6
    refine ⟨bm, ob, b1, b2, nG, nP, hidT_get b3 (S.off e b3 (fun vs n z => ?_) fun z => ?_), b4, b5, b6⟩
    · rw [b6] at z
      cases z
    · rw [b6] at z
      cases z
  · obtain ⟨o, es, ep, eo, hd, _⟩ := e.glob
    rw [z, ht] at eo
    cases eo
    cases hd
theorem law_run {CX : CXT} {H : Hp} (e : Entry K mg mb cs a vs ns s₁) (S : Starts K cs a ns P w s₁ H) (hr : Room k callerA)
    (F : ∀ base : Heap, K.In base → base.Ns mainGlobals mg → (∀ p ∈ cs, LamX.TabB base mg p.1 p.2) → FnG P w K mg base CX k fa fd [x] sp) (hbind : ∀ (s : Shared) (u : Value), BindsTo s fd ⟨[u], []⟩ [(x, u)])
    (hsp : sp [.ref a] H (fun v _ => v = .bl true) fun _ _ _ => False) (hCX : ∀ H e s', CX [] H s₁ (fun _ _ _ => False) e s' → False) :
    codeAny (model P w) callerA (.call (.ref fa) ⟨[.ref a], []⟩) (fun r s' => r = .ok (.ret (.bool true)) ∧ OldK s₁.heap s'.heap ∧ s'.os = s₁.os ∧ AllBare s'.gens) s₁ := by
  have e0 : Env0 P w K mg (hidT s₁.heap H) callerA [] s₁ H := ⟨rfl, S.mod e, fun b o z => of_hidT z, Nat.le_of_eq (hidT_size _ _), trivial, fun b hb => absurd (show b ∈ ([] : List Addr) from hb) (by simp), S.ok, .of_eq e.gens⟩
  refine codeAny_mono ((F _ (S.kin e) (S.nsAt e e.glob) (S.tb e)).run callerA [] s₁ H ⟨[.ref a], []⟩ [.ref a] [.ref a] _ _ rfl hr e0 (hbind s₁ (.ref a)) (.cons rfl .nil) hsp) fun r s' h => ?_
  cases r with
  | error er => exact (hCX H er s' h).elim
  | ok fl =>
    cases fl with
    | next => exact h.elim
    | brk => exact h.elim
    | cont => exact h.elim
    | ret u =>
      obtain ⟨v, H', os, bare, un, hok', r', q⟩ := h
      obtain rfl : v = .bl true := q
      obtain rfl : u = Value.bool true := r'
      have old : ∀ b o, b ∉ cs.map (·.2) → s₁.heap.get? b = some o → s'.heap.get? b = some o := fun b o nb eb => by
        rcases S.only b with z | z | ⟨_, ob, xs, z⟩
        · exact un.keep b o eb z (by intro y; exact absurd (show b ∈ ([] : List Addr) from y) (by simp)) (by simp)
        · exact absurd z nb
        · obtain ⟨e1, _⟩ := S.ok b _ z
          obtain ⟨e2, _⟩ := hok' b _ (un.frzs b ob _ z)
          rw [eb] at e1
          cases e1
          exact e2
      have grown : ∀ b, b ∈ cs.map (·.2) → ∃ more : Array Value, s'.heap.get? b = some { cls := .none, data := .fields more } := fun b hb => by
        obtain ⟨p, hp, rfl⟩ := List.mem_map.mp hb
        obtain ⟨more, z⟩ := un.tbls p.2 #[] (S.tabs p hp)
        exact ⟨_, hok' p.2 _ z⟩
      refine ⟨rfl, ⟨fun b o eb => ?_, fun b o eb => ?_⟩, os, bare⟩
      · by_cases hb : b ∈ cs.map (·.2)
        · obtain ⟨more, hm⟩ := grown b hb
          obtain ⟨p, hp, rfl⟩ := List.mem_map.mp hb
          rw [e.tabs p hp] at eb
          cases eb
          exact .inr (.inl ⟨((e.code p hp).tab (e.tabs p hp)).isCodeTable, rfl, #[], more, rfl, by rw [Array.empty_append]; exact hm⟩)
        · exact .inl (old b o hb eb)
      · by_cases hb : b ∈ cs.map (·.2)
        · obtain ⟨more, hm⟩ := grown b hb
          exact ⟨_, hm⟩
        · exact ⟨o, old b o hb eb⟩
/-- such an abstract heap is to be had -/
theorem starts (e : Entry K mg mb cs a vs ns s₁) : ∃ H, Starts K cs a ns P w s₁ H := by
  have rv := vals_ints e.intsAre
  have lenV := e.intsAre.length
  have aT : a ∉ cs.map (·.2) := fun z => by
    have q := e.table z
    rw [e.script] at q
    have z' : Data.seq vs.toArray _ = Data.fields #[] := congrArg Obj.data (Option.some.inj q)
    cases z'
  have tk : ∀ b, b ∈ cs.map (·.2) → ObjOk P w (fun _ => none) s₁.heap b (.tbl #[]) := fun b hb => e.table hb
  cases hk : K.lookup a with
  | some o =>
    have eo := e.kin a o hk
    rw [e.script] at eo
    cases eo
    refine ⟨fun b => if b ∈ cs.map (·.2) then some (.tbl #[]) else none, fun p hp => if_pos (List.mem_map.mpr ⟨p, hp, rfl⟩), fun b => ?_, .inr ⟨_, vs.toArray, _, hk, rfl, rfl, rfl, by rw [List.size_toArray, lenV]; exact e.few, by simpa using rv⟩, fun b u z => ?_, fun z => absurd (if_neg aT) z⟩
    · by_cases hb : b ∈ cs.map (·.2)
      · exact .inr (.inl hb)
      · exact .inl (if_neg hb)
    · by_cases hb : b ∈ cs.map (·.2)
      · have z' := (if_pos hb).symm.trans z
        cases z'
        exact e.table hb
      · have z' := (if_neg hb).symm.trans z
        cases z'
  | none =>
    refine ⟨fun b => if b = a then some (.frz { cls := .type "list", data := .seq vs.toArray } (.lst (ns.map V.int))) else if b ∈ cs.map (·.2) then some (.tbl #[]) else none,
      fun p hp => (if_neg (show ¬ p.2 = a from fun z => aT (by rw [← z]; exact List.mem_map.mpr ⟨p, hp, rfl⟩))).trans (if_pos (List.mem_map.mpr ⟨p, hp, rfl⟩)), fun b => ?_, .inl (.inr ⟨{ cls := .type "list", data := .seq vs.toArray }, if_pos rfl⟩), fun b u z => ?_, fun _ => hk⟩
    · by_cases hb : b = a
      · exact .inr (.inr ⟨hb, _, _, if_pos hb⟩)
      · by_cases hb2 : b ∈ cs.map (·.2)
        · exact .inr (.inl hb2)
        · exact .inl ((if_neg hb).trans (if_neg hb2))
    · by_cases hb : b = a
      · have z' := (if_pos hb).symm.trans z
        cases z'
        rw [hb]
        exact ⟨e.script, by rw [List.length_map]; exact e.few, vs, _, rv, e.script⟩
      · have z1 := (if_neg hb).symm.trans z
        by_cases hb2 : b ∈ cs.map (·.2)
        · have z' := (if_pos hb2).symm.trans z1
          cases z'
          exact e.table hb2
        · have z' := (if_neg hb2).symm.trans z1
          cases z'
end

/-- what the def named law promises: from the script's list, the tables tracked -/
def spLaw (K : PySem.W.Frag) (T : List (Addr × Str)) : Sp := fun vs H Q _ => ∃ (a : Addr) (ns : List Int), vs = [.ref a] ∧ SqL K H a (ns.map V.int) ∧ ns.length ≤ 63 ∧ (∀ z ∈ ns, Builtin.Int.intBits z ≤ 1048576) ∧ LamX.Tabs T H ∧ ∀ H', Q (.bl true) H'
/-- the end over a Hook: ts the defs that make lambdas -/
theorem walk_law {l : PySem.W.OpenLaw} {k n : Nat} {q : Program} {loose : List Str} {XP : (Str → Option Value) → Heap → Prop} {fa : List He.Fa} {fn : List He.DefD} {tf : List He.Defn} {ex : PySem.W.Frag → Bool} {d : DefRec} {x : Str}
    (hn : l.most = some 63) (hdf : d.params.defaults = []) (hr : Room k callerA)
    (F : ∀ (w : World) (mg : Str → Option Value) (f : Addr) (h : Heap) (K : PySem.W.Frag), K.In h → h.Ns mainGlobals mg → He.SaysX fa fn [] tf ex w h K → mg d.name = some (.ref f) →
      ∃ fd : FuncData, (∀ (s : Shared) (u : Value), BindsTo s fd ⟨[u], []⟩ [(x, u)]) ∧
        ∀ base : Heap, K.In base → base.Ns mainGlobals mg → (∀ p ∈ tf, LamX.TabB base mg (He.cT K p).1 (He.cT K p).2) →
          FnG l.prog w K mg base (L2.CX l.prog w) k f fd [x] (spLaw K (tf.map fun p => ((He.cT K p).2, (p.1 ++ ".<locals>.") ++ "<lambda>")))) :
    PySem.W.WalkO q loose XP (He.hookX n fa fn [] tf ex).says l.row.toRowW d [] (fun f vs => PySem.call f vs) := by
  refine Att.attach_callB hn hdf fun w s₀ s₁ mg mb f o pm cd doc a vs ns G Y ho hd hcd hmg hobj hints hlen hbits hg => ?_
  obtain ⟨K, KX, c⟩ := Y
  obtain ⟨fd, hb, hF⟩ := F w mg f _ K KX G.T.g c hmg
  have e : Entry K mg mb (tf.map (He.cT K)) a vs ns s₁ := by
    refine ⟨KX, G.T.g, G.T.b, G.T.builtins, G.T.nolimit, hg, fun p hp => ?_, fun p hp => ?_, fun p hp => ?_, G.T.bmain, hobj, hints, Nat.le_trans hlen (by decide)⟩
    · obtain ⟨d, hd, rfl⟩ := List.mem_map.mp hp
      exact c.empty d hd
    · obtain ⟨d, hd, rfl⟩ := List.mem_map.mp hp
      exact c.out d hd
    · obtain ⟨d, hd, rfl⟩ := List.mem_map.mp hp
      exact PySem.W.codeHd_of_K KX (c.hd d hd)
  obtain ⟨H, S⟩ := starts (P := l.prog) (w := w) e
  refine law_run e S hr (fun base kb nb tb => hF base kb nb fun p hp => tb _ (List.mem_map.mpr ⟨p, hp, rfl⟩)) hb ⟨a, ns, rfl, S.seq, hlen, hbits, fun p hp => ?_, fun _ => rfl⟩ fun H e s' z => ?_
  · obtain ⟨d, hd, rfl⟩ := List.mem_map.mp hp
    exact LamX.TabS.nil (S.tabs _ (List.mem_map.mpr ⟨d, hd, rfl⟩))
  · obtain ⟨_, _, _, _, _, _, _, _, _, _, _, _, z⟩ := z
    exact z
end LW
/-! Named readings of operators and calls, and a step for each. -/
namespace LW
open PySem PySem.Spec PyProof.Rows L2

/-! ### named readings -/
def rMod : R2 := rI (fun _ j => 0 < j) fun i j => .int (i % j)
def rAddS : R2 := fun x y H Q => ∃ i j, x = .str i ∧ y = .str j ∧ i.length + j.length ≤ sizeLine ∧ Q (.str (i ++ j)) H
def rAnd1 : R2 := fun x y H Q => ∃ n : Nat, x = .int (n : Int) ∧ y = .int 1 ∧ Q (.int ((n % 2 : Nat) : Int)) H
def rShr : R2 := fun x y H Q => ∃ (n k : Nat), x = .int (n : Int) ∧ y = .int (k : Int) ∧ Q (.int ((n / 2 ^ k : Nat) : Int)) H
/-- 1 << k, n << k of numbers that are not negative -/
def rShl : R2 := fun x y H Q => ∃ (n k : Nat), x = .int (n : Int) ∧ y = .int (k : Int) ∧ n < 2 ^ 200 ∧ k ≤ 1000 ∧ Q (.int ((n * 2 ^ k : Nat) : Int)) H
def rMulW : R2 := rI CMulW fun i j => .int (i * j)
def rDivW : R2 := rI CDivW fun i j => .int (i / j)
def rPow : R2 := rI CPow fun i j => .int (i ^ j.toNat)
def rLenS : List V → Hp → VK → Prop := fun xs H Q => ∃ z, xs = [.str z] ∧ z.length ≤ sizeLine ∧ Q (.int z.length) H
def rLenQ (K : PySem.W.Frag) : List V → Hp → VK → Prop := fun xs H Q => ∃ p ys, xs = [.ref p] ∧ (SqL K H p ys ∨ SqT K H p ys) ∧ Q (.int ys.length) H
def rIntS : List V → Hp → VK → Prop := fun xs H Q => ∃ a n, xs = [.str a] ∧ PySem.intText? a = some n ∧ a.length ≤ 640 ∧ Q (.int n) H
def rInt : List V → Hp → VK → Prop := fun xs H Q => ∃ i, xs = [.int i] ∧ Q (.int i) H
def rStr : List V → Hp → VK → Prop := fun xs H Q => ∃ i, xs = [.int i] ∧ i.natAbs.log2 < 1920 ∧ Q (.str (toString i)) H
def rMin2 : List V → Hp → VK → Prop := fun xs H Q => ∃ i j, xs = [.int i, .int j] ∧ Q (.int (if j < i then j else i)) H
def rMax2 : List V → Hp → VK → Prop := fun xs H Q => ∃ i j, xs = [.int i, .int j] ∧ Q (.int (if j > i then j else i)) H
def rTupOf (K : PySem.W.Frag) : List V → Hp → VK → Prop := fun xs H Q => ∃ p ys, xs = [.ref p] ∧ ((SqL K H p ys ∧ ∀ l, H l = none → Q (.ref l) (upd H l (.tup ys))) ∨ (SqT K H p ys ∧ Q (.ref p) H))
def rLstOf (K : PySem.W.Frag) : List V → Hp → VK → Prop := fun xs H Q => ∃ p ys, xs = [.ref p] ∧ (SqL K H p ys ∨ SqT K H p ys) ∧ ∀ l, H l = none → Q (.ref l) (upd H l (.lst ys))
def rJn (K : PySem.W.Frag) : V → List V → Hp → VK → Prop := fun x xs H Q => ∃ a p, ∃ ys : List Str, x = .str a ∧ xs = [.ref p] ∧ (SqL K H p (ys.map V.str) ∨ SqT K H p (ys.map V.str)) ∧ (ys.map (·.length)).sum + ys.length * a.length ≤ 16777216 ∧ Q (.str (Txt.join a ys)) H
def rRepS : R2 := fun x y H Q => ∃ (z : Str) (k : Nat), x = .str z ∧ y = .int (k : Int) ∧ z.length * k ≤ 100000 ∧ Q (.str ⟨(List.replicate k z.cps.toList).flatten.toArray⟩) H
/-- a new tuple, a new list: what follows is asked of each heap behind it -/
def tTupN (t : TA) : TE := fun σ H Q => t σ H fun xs H1 => xs.length ≤ 100000 ∧ ∀ p H', H1 p = none → Ex H1 H' → H' p = some (.tup xs) → Q (.ref p) H'
def tLstN (t : TA) : TE := fun σ H Q => t σ H fun xs H1 => xs.length ≤ 100000 ∧ ∀ p H', H1 p = none → Ex H1 H' → H' p = some (.lst xs) → Q (.ref p) H'
theorem w_new {A B : Prop} (a : A) (b : B) : A ∧ B := ⟨a, b⟩
def tTru (K : PySem.W.Frag) (ta : TE) : TT := fun σ H Q => ta σ H fun x H' => ∃ k, TruV K x H' k ∧ Q k H'
section
variable {X : Cx}
theorem o_add : OpR X (binaryOp .Add) (rI0 fun i j => .int (i + j)) := op_add
theorem o_sub : OpR X (binaryOp .Sub) (rI0 fun i j => .int (i - j)) := op_sub
theorem o_mul : OpR X (binaryOp .Mult) rMulW := op_mulW
theorem o_fdiv : OpR X (binaryOp .FloorDiv) rDivW := op_fdivW
theorem o_mod : OpR X (binaryOp .Mod) rMod := op_mod
theorem o_pow : OpR X (binaryOp .Pow) rPow := op_pow
theorem o_addS : OpR X (binaryOp .Add) rAddS := op_add_str
theorem o_cat : OpR X (binaryOp .Add) rCat := op_cat
theorem o_and : OpR X (binaryOp .BitAnd) rAnd1 := op_odd
theorem o_shr : OpR X (binaryOp .RShift) rShr := by
  intro pins s σ H x y v u Q I rx ry h
  obtain ⟨n, k, rfl, rfl, q⟩ := h
  refine op_shr pins s σ H _ _ v u Q I rx ry ⟨n, k, rfl, rfl, by omega, ?_⟩
  have e : ((n : Int) / 2 ^ ((k : Int)).toNat) = ((n / 2 ^ k : Nat) : Int) := by
    rw [Int.toNat_natCast]
    simp
  show Q (.int ((n : Int) / 2 ^ ((k : Int)).toNat)) H
  rw [e]
  exact q
theorem bits_small {n : Nat} (h : n < 2 ^ 200) : Builtin.Int.intBits (n : Int) ≤ 201 := by
  unfold Builtin.Int.intBits
  have := PySem.Flt.log2_lt_of (n := n) (by decide) h
  split <;> simp <;> omega
theorem o_shl : OpR X (binaryOp .LShift) rShl := by
  intro pins s σ H x y v u Q I rx ry h
  obtain ⟨n, k, rfl, rfl, hn, hk, q⟩ := h
  have hb := bits_small hn
  refine op_shlN pins s σ H _ _ v u Q I rx ry ⟨n, k, rfl, rfl, ⟨by omega, by omega⟩, ?_⟩
  have e : ((n : Int) * 2 ^ k) = ((n * 2 ^ k : Nat) : Int) := by simp
  rw [e]
  exact q
theorem o_eq : OpR X (compareOp .Eq) rEq := op_eq
theorem o_ne : OpR X (compareOp .NotEq) rNe := op_ne
theorem o_lt : OpR X (compareOp .Lt) (rI0 fun i j => .bl (decide (i < j))) := op_lt
theorem o_le : OpR X (compareOp .LtE) (rI0 fun i j => .bl (decide (i ≤ j))) := op_le
theorem o_gt : OpR X (compareOp .Gt) (rI0 fun i j => .bl (decide (j < i))) := op_gt
theorem o_ge : OpR X (compareOp .GtE) (rI0 fun i j => .bl (decide (j ≤ i))) := op_ge
theorem o_isN : OpR X (compareOp .Is) rIsN := op_isN1
theorem o_notN : OpR X (compareOp .IsNot) rNotN := op_notN1
theorem o_inS : OpR X (compareOp .In) rInS := op_inS
theorem o_notInS : OpR X (compareOp .NotIn) rNotInS := op_notInS
theorem o_inQ : OpR X (compareOp .In) (rIn X.K false) := op_in_seq
theorem o_notInQ : OpR X (compareOp .NotIn) (rIn X.K true) := op_notIn_seq
theorem o_dEq (hu : X.A.units + 64 < cLine) : OpR X (compareOp .Eq) (rEqD X.K) := op_eqD hu
theorem o_dNe (hu : X.A.units + 64 < cLine) : OpR X (compareOp .NotEq) (rNeD X.K) := op_neD hu
theorem c_isi : CallR X (.builtin "isinstance") (rIsi X.K) := call_isi
theorem c_isiT : CallR X (.builtin "isinstance") (rIsiT X.K) := call_isiT
theorem c_lenS : CallR X (.builtin "len") rLenS := call_len_str
theorem c_lenQ : CallR X (.builtin "len") (rLenQ X.K) := call_len_seq
theorem c_len : CallR X (.builtin "len") (rLen X.K) := call_len
theorem c_all (hc : X.calm = true) : CallR X (.builtin "all") (rAll X.K) := cr_all hc
theorem c_any (hc : X.calm = true) : CallR X (.builtin "any") (rAny X.K) := cr_any hc
theorem c_intS : CallR X (.type "int") rIntS := call_int_str
theorem c_int : CallR X (.type "int") rInt := fun pins s σ H xs us Q I r h => call_int1 pins s σ H xs us Q I r (.inl h)
theorem c_str : CallR X (.type "str") rStr := call_str_int
theorem c_min2 (hc : X.calm = true) : CallR X (.builtin "min") rMin2 := call_min2 hc
theorem c_max2 (hc : X.calm = true) : CallR X (.builtin "max") rMax2 := call_max2 hc
theorem c_tuple : CallR X (.type "tuple") (rTupOf X.K) := call_tuple_of
theorem c_list : CallR X (.type "list") (rLstOf X.K) := call_list_of
theorem c_repr {k : Nat} (hg : X.A.guards = some []) (hr : Room k X.A) : CallR X (.builtin "repr") (rRepr X.K) := cr_repr hg hr.units
theorem m_append : MtR X "list.append" rAppend := mt_append
theorem m_extend : MtR X "list.extend" rExtend := mt_extend
theorem set_l : PSet X rSetL := set_list
theorem ix_list : IxR X (rIxL X.K) := L2.ix_list
theorem ix_tup : IxR X (rIxT X.K) := L2.ix_tup
theorem ix_str : IxR X rIxS := L2.ix_str
theorem sl_list : SlR X (rSlL X.K) := L2.sl_list
theorem sl_tup : SlR X (rSlT X.K) := L2.sl_tup
theorem sl_str : SlR X rSlS := L2.sl_str
theorem pe_tp {es : List Expr} {x1} {pos : Pos} {t : TA} (h : PA X es t) : PE X (.Tuple es x1 pos) (tTupN t) := by
  refine ⟨fun pins s σ H Q I hq => ?_⟩
  refine wpAny_Tuple_spliced (thn (h.run pos pins s σ H _ I hq) fun us s1 ⟨xs, H1, I1, r, z, q⟩ => ⟨by rw [← r.length]; exact Evl.sz_of z, ?_⟩)
  have hf : H1 s1.heap.objs.size = none := I1.hok.fresh (Nat.le_refl _)
  refine ⟨.ref s1.heap.objs.size, upd H1 s1.heap.objs.size (.tup xs), I1.laid (t' := s1.toks) (fun b u e => Heap.get?_push_of_some _ e) (Nat.le_refl _) ?_, rfl, q _ _ hf (ex_new hf) upd_same⟩
  exact ⟨Evl.sz_of z, us, r, ⟨_, Heap.get?_push_size _ rfl, rfl, _, rfl⟩⟩
theorem pe_ls {es : List Expr} {pos : Pos} {t : TA} (h : PA X es t) : PE X (.List es pos) (tLstN t) := by
  refine ⟨fun pins s σ H Q I hq => ?_⟩
  refine wpAny_List_spliced (thn (h.run pos pins s σ H _ I hq) fun us s1 ⟨xs, H1, I1, r, z, q⟩ => ⟨by rw [← r.length]; exact Evl.sz_of z, ?_⟩)
  have hf : H1 s1.heap.objs.size = none := I1.hok.fresh (Nat.le_refl _)
  refine ⟨.ref s1.heap.objs.size, upd H1 s1.heap.objs.size (.lst xs), I1.laid (t' := s1.toks) (fun b u e => Heap.get?_push_of_some _ e) (Nat.le_refl _) ?_, rfl, q _ _ hf (ex_new hf) upd_same⟩
  exact ⟨Evl.sz_of z, us, 0, r, Heap.get?_push_size _ rfl⟩
theorem pe_jn {o e : Expr} {to te : TE} {apos pos : Pos} (ho : PE X o to) (he : PE X e te) (hs : starEach [e] X.env = [(false, eval e X.env)] := by rfl) (hbase : attributeBase o "join" X.env (eval o X.env) = eval o X.env := by rfl) (hline : (apos.endLine == pos.line) = true := by rfl) :
    PE X (.Call (.Attribute o "join" apos) [e] [] pos) (tM1 (rJn X.K) to te) := pe_join ho he hs hbase hline
theorem pt_tru {a : Expr} {ta : TE} (ha : PE X a ta) (he : ∀ whole, isTrue a X.env whole = (do let v ← whole; standAt a.pos; holding [v] (truthy v))) : PT X a (tTru X.K ta) := pt_truth ha he
end

/-! ### steps -/
section
variable {K : PySem.W.Frag} {σ : L2.St} {H : Hp} {Q : VK} {ta tb tc te : TE} {t u : TT} {A : TA} {D : Ends} {s1 s2 s3 : TS} {i j : Nat} {v w : V} {x y : V}
theorem w_seq (h : s1 { D with nx := s2 D } σ H) : tSeq s1 s2 D σ H := h
theorem w_next (h : D.nx σ H) : tNext D σ H := h
theorem w_set (h : te σ H fun x H1 => D.nx (σ.set i (some x)) H1) : tAsg te (gName i) D σ H := h
theorem w_asg {g : TG} (h : te σ H fun x H1 => g x σ H1 D.nx) : tAsg te g D σ H := h
theorem w_ret (h : te σ H D.rt) : tRet te D σ H := h
theorem w_retN (h : D.rt .non H) : tRetN D σ H := h
theorem w_drop (h : te σ H fun _ H1 => D.nx σ H1) : tDrop te D σ H := h
theorem w_if (h : t σ H fun b H1 => if b = true then s1 D σ H1 else s2 D σ H1) : tIfS t s1 s2 D σ H := h
theorem w_par (h : A σ H fun vs H1 => ∃ v w, vs = [v, w] ∧ D.nx ((σ.set i (some v)).set j (some w)) H1) : tPar i j A D σ H := h
theorem w_aug {f : Int → Int → Int} {a : Int} (e : σ[i]? = some (some (.int a))) (h : te σ H fun y H1 => ∃ b, y = .int b ∧ D.nx (σ.set i (some (.int (f a b)))) H1) : tAug i te (ipI f) D σ H := by
  refine ⟨_, e, ?_⟩
  have e2 : (fun (y : V) (H1 : Hp) => ipI f (.int a) y H1 fun z H2 => D.nx (σ.set i (some z)) H2) = fun y H1 => ∃ b, y = .int b ∧ D.nx (σ.set i (some (.int (f a b)))) H1 := by
    funext y H1
    unfold ipI
    apply propext
    constructor
    · rintro ⟨a', b, e1, e2, q⟩
      cases e1
      exact ⟨b, e2, q⟩
    · rintro ⟨b, e2, q⟩
      exact ⟨a, b, rfl, e2, q⟩
  rw [e2]
  exact h
theorem w_brk (h : D.bk σ H) : tBreak D σ H := h
theorem w_cont (h : D.ct σ H) : tCont D σ H := h
theorem w_var (e : σ[i]? = some (some v)) (h : Q v H) : tVar i σ H Q := ⟨v, e, h⟩
theorem w_c (h : Q v H) : tC v σ H Q := h
theorem w_op {r : R2} (h : ta σ H fun x H1 => tb σ H1 fun y H2 => r x y H2 Q) : tOp r ta tb σ H Q := h
theorem w_un {r : V → Hp → VK → Prop} (h : ta σ H fun x H1 => r x H1 Q) : tUn r ta σ H Q := h
theorem w_cons {R : List V → Hp → Prop} (h : ta σ H fun x H1 => A σ H1 fun xs H2 => R (x :: xs) H2) : tCons ta A σ H R := h
theorem w_nil {R : List V → Hp → Prop} (h : R [] H) : tNil σ H R := h
theorem w_test {R : Bool → Hp → Prop} (h : te σ H fun x H' => ∃ k, x = .bl k ∧ R k H') : tTest te σ H R := h
theorem w_B {R : Bool → Hp → Prop} (h : te σ H fun x H' => ∃ k, x = .bl k ∧ R k H') : tB te σ H R := h
theorem w_tru {R : Bool → Hp → Prop} (h : te σ H fun x H' => ∃ k, TruV K x H' k ∧ R k H') : tTru K te σ H R := h
theorem w_and {R : Bool → Hp → Prop} (h : t σ H fun c H1 => if c = true then u σ H1 R else R false H1) : tAnd t u σ H R := h
theorem w_or {R : Bool → Hp → Prop} (h : t σ H fun c H1 => if c = true then R true H1 else u σ H1 R) : tOr t u σ H R := h
theorem w_not {R : Bool → Hp → Prop} (h : t σ H fun c H1 => R (!c) H1) : tNot t σ H R := h
theorem w_yes {R : Bool → Hp → Prop} (h : R true H) : tYes σ H R := h
theorem w_andV (h : ta σ H fun x H1 => ∃ c, x = .bl c ∧ if c = true then tb σ H1 Q else Q (.bl false) H1) : tAndV ta tb σ H Q := h
theorem w_orV (h : ta σ H fun x H1 => ∃ c, x = .bl c ∧ if c = true then Q (.bl true) H1 else tb σ H1 Q) : tOrV ta tb σ H Q := h
theorem w_notV (h : ta σ H fun x H1 => ∃ c, x = .bl c ∧ Q (.bl (!c)) H1) : tNotV ta σ H Q := h
theorem w_ifE (h : t σ H fun c H1 => if c = true then ta σ H1 Q else tb σ H1 Q) : tIf t ta tb σ H Q := h
theorem w_cl {sp : Sp} {E : XK} (h : A σ H fun vs H1 => sp vs H1 Q E) : tCl sp E A σ H Q := h
theorem w_cb {r : List V → Hp → VK → Prop} (h : A σ H fun vs H1 => r vs H1 Q) : tCB r A σ H Q := h
theorem w_tup (h : A σ H fun xs H1 => xs.length ≤ 100000 ∧ ∀ p H', H1 p = none → Ex H1 H' → H' p = some (.tup xs) → Q (.ref p) H') : tTupN A σ H Q := h
theorem w_lst (h : A σ H fun xs H1 => xs.length ≤ 100000 ∧ ∀ p H', H1 p = none → Ex H1 H' → H' p = some (.lst xs) → Q (.ref p) H') : tLstN A σ H Q := h
theorem w_sl {r : V → Option Int → Option Int → Hp → VK → Prop} {tl th : TO} (h : te σ H fun x H1 => tl σ H1 fun l H2 => th σ H2 fun u H3 => r x l u H3 Q) : L2.tSl r te tl th σ H Q := h
theorem w_noPart {R : Option Int → Hp → Prop} (h : R none H) : tNoPart σ H R := h
theorem w_part {R : Option Int → Hp → Prop} (h : te σ H fun x H1 => ∃ i, x = .int i ∧ R (some i) H1) : tPart te σ H R := h
theorem w_m1 {r : V → List V → Hp → VK → Prop} (h : ta σ H fun x H1 => (∃ a, x = .str a) ∧ tb σ H1 fun y H2 => r x [y] H2 Q) : tM1 r ta tb σ H Q := h
theorem w_bm {T : String} {r : V → List V → Hp → VK → Prop} (h : ta σ H fun x H1 => tyV K T x H1 ∧ A σ H1 fun xs H2 => r x xs H2 Q) : tBM K T r ta A σ H Q := h
theorem w_chain {r r' : R2} (h : ta σ H fun x H1 => tb σ H1 fun y H2 => r x y H2 fun z H3 => ∃ k, z = .bl k ∧ (if k = true then tc σ H3 fun w' H4 => r' y w' H4 Q else Q (.bl false) H3)) : tChain r r' ta tb tc σ H Q := h
theorem w_fld {C a dx : Addr} {f : Str} {fs : List (Str × V)} (h : ta σ H fun x H1 => ∃ a C dx fs v, x = .ref a ∧ H1 a = some (.ins C dx fs) ∧ Cls K C ∧ NoAttr K C f ∧ fs.lookup f = some v ∧ Q v H1) : tFld K ta f σ H Q := h
/-! by values -/
theorem v_I0 {g : Int → Int → V} {a b : Int} (h : Q (g a b) H) : rI0 g (.int a) (.int b) H Q := ⟨a, b, rfl, rfl, h⟩
theorem v_I {C : Int → Int → Prop} {g : Int → Int → V} {a b : Int} (hc : C a b) (h : Q (g a b) H) : rI C g (.int a) (.int b) H Q := ⟨a, b, rfl, rfl, hc, h⟩
theorem v_U {g : Int → V} {a : Int} (h : Q (g a) H) : rU g (.int a) H Q := ⟨a, rfl, h⟩
theorem v_mod {a b : Int} (hc : 0 < b) (h : Q (.int (a % b)) H) : rMod (.int a) (.int b) H Q := ⟨a, b, rfl, rfl, hc, h⟩
theorem v_mulS {a b : Int} (ha : -(2 ^ 64) < a ∧ a < 2 ^ 64) (hb : -(2 ^ 64) < b ∧ b < 2 ^ 64) (h : Q (.int (a * b)) H) : rMulW (.int a) (.int b) H Q :=
  ⟨a, b, rfl, rfl, wide_mul (a := 64) (b := 64) (by omega) (by omega) (by decide) (by decide) (by decide), h⟩
theorem v_divS {a b : Int} (hb : 0 < b ∧ b < 2 ^ 64) (h : Q (.int (a / b)) H) : rDivW (.int a) (.int b) H Q :=
  ⟨a, b, rfl, rfl, wide_div (b := 64) hb.1 (by omega) (by decide) (by decide), h⟩
theorem v_addS {a b : Str} (hl : a.length + b.length ≤ 100000) (h : Q (.str (a ++ b)) H) : rAddS (.str a) (.str b) H Q := ⟨a, b, rfl, rfl, Evl.sz_of hl, h⟩
theorem v_and1 {n : Nat} (h : Q (.int ((n % 2 : Nat) : Int)) H) : rAnd1 (.int (n : Int)) (.int 1) H Q := ⟨n, rfl, rfl, h⟩
theorem v_shr {n k : Nat} (h : Q (.int ((n / 2 ^ k : Nat) : Int)) H) : rShr (.int (n : Int)) (.int (k : Int)) H Q := ⟨n, k, rfl, rfl, h⟩
theorem v_shl {n k : Nat} (hn : n < 2 ^ 200) (hk : k ≤ 1000) (h : Q (.int ((n * 2 ^ k : Nat) : Int)) H) : rShl (.int (n : Int)) (.int (k : Int)) H Q := ⟨n, k, rfl, rfl, hn, hk, h⟩
theorem v_shl1 {k : Nat} (hk : k ≤ 1000) (h : Q (.int ((2 ^ k : Nat) : Int)) H) : rShl (.int 1) (.int (k : Int)) H Q := by
  refine ⟨1, k, rfl, rfl, by decide, hk, ?_⟩
  rw [Nat.one_mul]
  exact h
theorem v_eqI {a b : Int} (h : Q (.bl (decide (a = b))) H) : rEq (.int a) (.int b) H Q := by
  refine ⟨rfl, ?_⟩
  have e : decide (V.int a = V.int b) = decide (a = b) := by simp
  rw [e]
  exact h
theorem v_neI {a b : Int} (h : Q (.bl (!decide (a = b))) H) : rNe (.int a) (.int b) H Q := by
  refine ⟨rfl, ?_⟩
  have e : decide (V.int a = V.int b) = decide (a = b) := by simp
  rw [e]
  exact h
theorem v_eqS {a b : Str} (h : Q (.bl (decide (a = b))) H) : rEq (.str a) (.str b) H Q := by
  refine ⟨rfl, ?_⟩
  have e : decide (V.str a = V.str b) = decide (a = b) := by simp
  rw [e]
  exact h
theorem v_neS {a b : Str} (h : Q (.bl (!decide (a = b))) H) : rNe (.str a) (.str b) H Q := by
  refine ⟨rfl, ?_⟩
  have e : decide (V.str a = V.str b) = decide (a = b) := by simp
  rw [e]
  exact h
theorem v_eqB {a b : Bool} (h : Q (.bl (decide (a = b))) H) : rEq (.bl a) (.bl b) H Q := by
  refine ⟨rfl, ?_⟩
  have e : decide (V.bl a = V.bl b) = decide (a = b) := by simp
  rw [e]
  exact h
theorem v_neB {a b : Bool} (h : Q (.bl (!decide (a = b))) H) : rNe (.bl a) (.bl b) H Q := by
  refine ⟨rfl, ?_⟩
  have e : decide (V.bl a = V.bl b) = decide (a = b) := by simp
  rw [e]
  exact h
theorem v_isN (h : Q (.bl (decide (v = .non))) H) : rIsN v .non H Q := ⟨rfl, h⟩
theorem v_notN (h : Q (.bl (!decide (v = .non))) H) : rNotN v .non H Q := ⟨rfl, h⟩
theorem v_inS {c : Nat} {z : Str} (h : Q (.bl (decide (c ∈ z.cps.toList))) H) : rInS (.str ⟨#[c]⟩) (.str z) H Q := ⟨c, z, rfl, rfl, h⟩
theorem v_notInS {c : Nat} {z : Str} (h : Q (.bl (!decide (c ∈ z.cps.toList))) H) : rNotInS (.str ⟨#[c]⟩) (.str z) H Q := ⟨c, z, rfl, rfl, h⟩
theorem v_lenS {z : Str} (hl : z.length ≤ 100000) (h : Q (.int z.length) H) : rLenS [.str z] H Q := ⟨z, rfl, Evl.sz_of hl, h⟩
theorem v_lenL {p : Addr} {ys : List V} (hs : SqL K H p ys) (h : Q (.int ys.length) H) : rLenQ K [.ref p] H Q := ⟨p, ys, rfl, .inl hs, h⟩
theorem v_lenT {p : Addr} {ys : List V} (hs : SqT K H p ys) (h : Q (.int ys.length) H) : rLenQ K [.ref p] H Q := ⟨p, ys, rfl, .inr hs, h⟩
theorem v_int {a : Int} (h : Q (.int a) H) : rInt [.int a] H Q := ⟨a, rfl, h⟩
theorem v_intS {a : Str} {n : Int} (e : PySem.intText? a = some n) (hl : a.length ≤ 640) (h : Q (.int n) H) : rIntS [.str a] H Q := ⟨a, n, rfl, e, hl, h⟩
theorem v_str {a : Int} (hl : a.natAbs.log2 < 1920) (h : Q (.str (toString a)) H) : rStr [.int a] H Q := ⟨a, rfl, hl, h⟩
theorem v_min2 {a b : Int} (h : Q (.int (if b < a then b else a)) H) : rMin2 [.int a, .int b] H Q := ⟨a, b, rfl, h⟩
theorem v_max2 {a b : Int} (h : Q (.int (if b > a then b else a)) H) : rMax2 [.int a, .int b] H Q := ⟨a, b, rfl, h⟩
theorem v_ixL {p : Addr} {ys : List V} {a : Int} (hs : SqL K H p ys) (e : atI ys a = some v) (h : Q v H) : rIxL K (.ref p) (.int a) H Q := ⟨p, ys, a, v, rfl, rfl, hs, e, h⟩
theorem v_ixT {p : Addr} {ys : List V} {a : Int} (hs : SqT K H p ys) (e : atI ys a = some v) (h : Q v H) : rIxT K (.ref p) (.int a) H Q := ⟨p, ys, a, v, rfl, rfl, hs, e, h⟩
theorem v_ixS {z : Str} {a : Int} {c : Nat} (hl : z.length ≤ 100000) (e : atI z.cps.toList a = some c) (h : Q (.str ⟨#[c]⟩) H) : rIxS (.str z) (.int a) H Q := ⟨z, a, c, rfl, rfl, Evl.sz_of hl, e, h⟩
theorem v_slS {z : Str} {lo hi : Option Int} (hl : z.length ≤ 100000) (h : Q (.str (cutS z lo hi)) H) : rSlS (.str z) lo hi H Q := ⟨z, rfl, Evl.sz_of hl, h⟩
theorem v_bl {b : Bool} {R : Bool → Prop} (h : R b) : ∃ k, V.bl b = V.bl k ∧ R k := ⟨b, rfl, h⟩
theorem v_in {a : Int} {R : Int → Prop} (h : R a) : ∃ k, V.int a = V.int k ∧ R k := ⟨a, rfl, h⟩
theorem v_st {z : Str} {B : Prop} (h : B) : (∃ a, V.str z = V.str a) ∧ B := ⟨⟨z, rfl⟩, h⟩
theorem v_two {R : V → V → Prop} (h : R v w) : ∃ a b, [v, w] = [a, b] ∧ R a b := ⟨v, w, rfl, h⟩
end
/-- a new object: the heap behind it -/
@[elab_as_elim] theorem g_new {p : Addr} {H : Hp} {o : HO} {G : Hp → Prop} (hp : H p = none) (h : ∀ H', Ex H H' → H' p = some o → G H') : G (upd H p o) := h _ (ex_new hp) upd_same
/-- all but the object at r stays -/
def Exc (r : Addr) (H H' : Hp) : Prop := ∀ a o, a ≠ r → H a = some o → H' a = some o
theorem Ex.exc {r : Addr} {H H' : Hp} (e : Ex H H') : Exc r H H' := fun a o _ h => e a o h
theorem exc_refl {r : Addr} {H : Hp} : Exc r H H := fun _ _ _ h => h
theorem Exc.trans {r : Addr} {H H1 H2 : Hp} (a : Exc r H H1) (b : Exc r H1 H2) : Exc r H H2 := fun x o n h => b x o n (a x o n h)
theorem Exc.ex {r : Addr} {H0 H H' : Hp} (b : Exc r H H') (a : Ex H0 H) (n : H0 r = none) : Ex H0 H' := fun x o h => b x o (ne_of_none h n) (a x o h)
/-- an object is written -/
@[elab_as_elim] theorem g_put {r : Addr} {H : Hp} {o : HO} {G : Hp → Prop} (h : ∀ H', Exc r H H' → H' r = some o → G H') : G (upd H r o) := h _ (fun a u n e => by rw [upd_ne n]; exact e) upd_same
/-! facts carried to a later heap -/
theorem up_o {H H' : Hp} {a : Addr} {o : HO} (e : Ex H H') (h : H a = some o) : H' a = some o := e a o h
theorem up_l {K : PySem.W.Frag} {H H' : Hp} {a : Addr} {xs : List V} (e : Ex H H') (h : SqL K H a xs) : SqL K H' a xs := Evl.ex_l e h
theorem up_t {K : PySem.W.Frag} {H H' : Hp} {a : Addr} {xs : List V} (e : Ex H H') (h : SqT K H a xs) : SqT K H' a xs := Evl.ex_t e h
theorem st_of {K : PySem.W.Frag} {H : Hp} {a : Addr} {xs : List V} (h : H a = some (.tup xs)) : SqT K H a xs := Evl.st_of h
theorem sl_of {K : PySem.W.Frag} {H : Hp} {a : Addr} {xs : List V} (h : H a = some (.lst xs)) : SqL K H a xs := Evl.sq_of h
mutual
theorem up_d {K : PySem.W.Frag} {H H' : Hp} (e : Ex H H') : ∀ (d : PyData) (v : V), Dp K H v d → Dp K H' v d
  | .none, _, h => by cases h; exact .non
  | .bool b, _, h => by cases h; exact .bl b
  | .int i, _, h => by cases h; exact .int i
  | .str x, _, h => by cases h; exact .str x
  | .list ds, _, h => by
    cases h with
    | lst a b => exact .lst (up_l e a) (up_ds e ds _ b)
  | .tuple ds, _, h => by
    cases h with
    | tup a b => exact .tup (up_t e a) (up_ds e ds _ b)
  | .dict _, _, h => by cases h
theorem up_ds {K : PySem.W.Frag} {H H' : Hp} (e : Ex H H') : ∀ (ds : List PyData) (vs : List V), DpAll K H vs ds → DpAll K H' vs ds
  | [], _, h => by cases h; exact .nil
  | d :: ds, _, h => by
    cases h with
    | cons a b => exact .cons (up_d e d _ a) (up_ds e ds _ b)
end
theorem iteT' {A B : Prop} (h : A) : if true = true then A else B := by rw [if_pos rfl]; exact h
theorem iteF' {A B : Prop} (h : B) : if false = true then A else B := by rw [if_neg Bool.false_ne_true]; exact h
theorem w_ite {b : Bool} {A B : Prop} (h1 : b = true → A) (h2 : b = false → B) : if b = true then A else B := by
  cases b with
  | true => exact iteT' (h1 rfl)
  | false => exact iteF' (h2 rfl)
theorem w_dec {p : Prop} [Decidable p] {A B : Prop} (h1 : p → A) (h2 : ¬ p → B) : if decide p = true then A else B := by
  by_cases h : p
  · rw [if_pos (decide_eq_true h)]
    exact h1 h
  · rw [if_neg (by simp [h])]
    exact h2 h
theorem w_ndec {p : Prop} [Decidable p] {A B : Prop} (h1 : ¬ p → A) (h2 : p → B) : if (!decide p) = true then A else B := by
  by_cases h : p
  · rw [if_neg (by simp [h])]
    exact h2 h
  · rw [if_pos (by simp [h])]
    exact h1 h
end LW
/-! Values of any kind, isinstance; what the checks of plain values promise. -/
namespace LW
open PySem PySem.Spec PyProof.Rows L2
def tyNames : List String := ["NoneType", "bool", "int", "str", "list", "tuple", "dict"]
def isK (n T : String) : Bool := n == T || (n == "bool" && T == "int")
theorem isK_ok : ∀ n ∈ tyNames, ∀ T ∈ tyNames, kitB n T = some (isK n T) := by decide +kernel
/-- x is of the built-in type n -/
def Kn (K : PySem.W.Frag) (H : Hp) (x : V) (n : String) : Prop := TyX K H x (.type n) ∧ n ∈ tyNames
section
variable {K : PySem.W.Frag} {H H' : Hp} {x : V} {n T : String} {Q : VK}
theorem v_isi (h : Kn K H x n) (hT : T ∈ tyNames) (q : Q (.bl (isK n T)) H) : rIsi K [x, .ty T] H Q := ⟨x, .ty T, _, _, _, rfl, .ty T, h.1, kit_ty (isK_ok n h.2 T hT), q⟩
theorem v_isiT {tp : Addr} {T U : String} (h : Kn K H x n) (hT : T ∈ tyNames) (hU : U ∈ tyNames) (ht : H tp = some (.tup [.ty T, .ty U])) (q : Q (.bl (isK n T || isK n U)) H) : rIsiT K [x, .ref tp] H Q :=
  ⟨x, tp, _, _, _, _, rfl, ht, .cons (.ty T) (.cons (.ty U) .nil), h.1, kitAny_cons (kit_ty (isK_ok n h.2 T hT)) (fun e => kitAny_cons (r := isK n T || isK n U) (kit_ty (isK_ok n h.2 U hU)) (fun e2 => by rw [e, e2]; exact kitAny_nil) fun e2 => by rw [e2, Bool.or_true]) fun e => by rw [e, Bool.true_or], q⟩
theorem kn_non : Kn K H .non "NoneType" := ⟨.base .non, by decide⟩
theorem kn_bl {b : Bool} : Kn K H (.bl b) "bool" := ⟨.base (.bl b), by decide⟩
theorem kn_int {i : Int} : Kn K H (.int i) "int" := ⟨.base (.int i), by decide⟩
theorem kn_str {z : Str} : Kn K H (.str z) "str" := ⟨.base (.str z), by decide⟩
theorem kn_lst {a : Addr} {xs : List V} (h : H a = some (.lst xs)) : Kn K H (.ref a) "list" := ⟨.base (.lst h), by decide⟩
theorem kn_tup {a : Addr} {xs : List V} (h : H a = some (.tup xs)) : Kn K H (.ref a) "tuple" := ⟨.base (.tup h), by decide⟩
theorem kn_dK {a : Addr} {xs : List (Key × V)} (h : H a = some (.dK xs)) : Kn K H (.ref a) "dict" := ⟨.base (.dK h), by decide⟩
theorem kn_int_inv (h : Kn K H x "int") : ∃ i, x = .int i := by
  obtain ⟨h, _⟩ := h
  generalize e : Value.type "int" = t at h
  cases h with
  | base b => cases b <;> first | exact ⟨_, rfl⟩ | exact absurd (Value.type.inj e) (by decide) | cases e
  | _ => exact absurd (Value.type.inj e) (by decide)
theorem kn_str_inv (h : Kn K H x "str") : ∃ z, x = .str z := by
  obtain ⟨h, _⟩ := h
  generalize e : Value.type "str" = t at h
  cases h with
  | base b => cases b <;> first | exact ⟨_, rfl⟩ | exact absurd (Value.type.inj e) (by decide) | cases e
  | _ => exact absurd (Value.type.inj e) (by decide)
theorem kn_of_int {i : Int} (h : Kn K H (.int i) n) : n = "int" := by
  obtain ⟨h, _⟩ := h
  cases h with
  | base b => cases b; rfl
theorem kn_of_str {i : Str} (h : Kn K H (.str i) n) : n = "str" := by
  obtain ⟨h, _⟩ := h
  cases h with
  | base b => cases b; rfl
theorem up_k (e : Ex H H') (h : Kn K H x n) : Kn K H' x n := by
  obtain ⟨h, m⟩ := h
  refine ⟨?_, m⟩
  cases h with
  | base b =>
    cases b with
    | non => exact .base .non
    | bl b => exact .base (.bl b)
    | int b => exact .base (.int b)
    | str b => exact .base (.str b)
    | flt b => exact .base (.flt b)
    | lst q => exact .base (.lst (e _ _ q))
    | frz q => exact .base (.frz (e _ _ q))
    | tup q => exact .base (.tup (e _ _ q))
    | dK q => exact .base (.dK (e _ _ q))
    | dT q => exact .base (.dT (e _ _ q))
  | byt b => exact .byt b
  | set q => exact .set (e _ _ q)
  | kList a b => exact .kList a b
  | kTuple a b => exact .kTuple a b
  | kDict a b => exact .kDict a b
  | fTuple q => exact .fTuple (e _ _ q)
  | fDict q => exact .fDict (e _ _ q)
end
/-- x is a whole number (no bool) within these bounds -/
def within (x : V) (lo hi : Int) : Bool := match x with
  | .int i => decide (lo ≤ i) && decide (i ≤ hi)
  | _ => false
def isBit (c : Nat) : Bool := decide (c = 48) || decide (c = 49)
/-- x is a text of at most m bits -/
def bits (x : V) (m : Int) : Bool := match x with
  | .str z => decide ((z.length : Int) ≤ m) && z.cps.toList.all isBit
  | _ => false
/-- what is wished of an exception of the class c that keeps v -/
def Rz (K : PySem.W.Frag) (c : Str) (v : V) (H : Hp) (E : XK) : Prop := ∀ d H', H d = none → Ex H H' → H' d = some (.xd [("value", v)]) → E (.ref (He.ga K c)) (some d) H'
def spIsInteger (K : PySem.W.Frag) : Sp := fun vs H Q _ => ∃ (x : V) (n : String), vs = [x] ∧ Kn K H x n ∧ Q (.bl (n == "int")) H
def spWithin (K : PySem.W.Frag) : Sp := fun vs H Q _ => ∃ (x : V) (n : String) (lo hi : Int), vs = [x, .int lo, .int hi] ∧ Kn K H x n ∧ Q (.bl (within x lo hi)) H
def spBits (K : PySem.W.Frag) : Sp := fun vs H Q _ => ∃ (x : V) (n : String) (m : Int), vs = [x, .int m] ∧ Kn K H x n ∧ (∀ z, x = .str z → z.length ≤ 100000) ∧ ∀ H', Ex H H' → Q (.bl (bits x m)) H'
def spNeedWidth (K : PySem.W.Frag) : Sp := fun vs H Q E => ∃ (x : V) (n : String), vs = [x] ∧ Kn K H x n ∧ (within x 1 64 = true → Q .non H) ∧ (within x 1 64 = false → Rz K "BadWidth" x H E)
end LW
/-! Comprehensions and loops told by a function; texts as lists of codes. -/
namespace LW
open PySem PySem.Spec PyProof.Rows L2 SX
section
variable {J : It} {n : Nat} {G : Hp → Prop} {Y : Nat → Hp → V → Hp → Prop}
/-- [e for ..]: turn i gives f i, what stood stands -/
theorem lc_map (wk : Walk J n G Y) {g : TG} {te : TE} {vs : List Nat} {σ : L2.St} {H1 : Hp} {D : Addr} {Qd : Hp → Prop} (f : Nat → V) (hn : n ≤ 100000) (hD : H1 D = none) (hG : ∀ H, Ex H1 H → G H)
    (hs : ∀ i x H H', i < n → Ex H1 H → Y i H x H' → ∀ R : VK, (∀ H3, Ex H H3 → R (f i) H3) → g x (wipe σ vs) H' fun σ2 H2 => wipe σ2 vs = wipe σ vs ∧ te σ2 H2 R)
    (hd : ∀ H, Ex H1 H → H D = some (.lst ((List.range n).map f)) → Qd H) :
    ∃ W : Nat → Nat → Hp → Prop, (∃ m, W 0 m (upd H1 D (.lst []))) ∧ ∀ i m H, W i m H →
      (J.stop i H ∧ Qd H) ∨ (J.go i H ∧ ∃ Nx : Hp → Prop, (∀ H', Nx H' → ∃ m', m' < m ∧ W (i + 1) m' H') ∧ ∀ x H', J.yld i H x H' → g x (wipe σ vs) H' fun σ2 H2 => wipe σ2 vs = wipe σ vs ∧ tYes σ2 H2 fun b H3 =>
        if b = true then te σ2 H3 fun y H4 => ∃ acc, H4 D = some (.lst acc) ∧ acc.length < sizeLine ∧ Nx (upd H4 D (.lst (acc ++ [y]))) else Nx H3) := by
  refine lc_it wk (fun i H => Ex H1 H ∧ H D = some (.lst ((List.range i).map f))) ⟨ex_new hD, upd_same⟩ (fun i H _ p => hG H p.1) (fun i x H H' hi p y => ?_) fun H p => hd H p.1 p.2
  obtain ⟨e, hl⟩ := p
  refine hs i x H H' hi e y _ fun H3 e3 => ?_
  refine ⟨_, e3 D _ hl, by rw [List.length_map, List.length_range]; exact Evl.sz_lt (by omega), Evl.Ex.mut (Evl.Ex.trans e e3) hD, ?_⟩
  rw [upd_same, List.range_succ, List.map_append] <;> rfl
/-- [e for .. if t]: turn i gives f i where c i holds -/
theorem lc_filter (wk : Walk J n G Y) {g : TG} {tt : TT} {te : TE} {vs : List Nat} {σ : L2.St} {H1 : Hp} {D : Addr} {Qd : Hp → Prop} (c : Nat → Bool) (f : Nat → V) (hn : n ≤ 100000) (hD : H1 D = none) (hG : ∀ H, Ex H1 H → G H)
    (hs : ∀ i x H H', i < n → Ex H1 H → Y i H x H' → ∀ R : Bool → VK, (∀ H3, Ex H H3 → c i = true → R true (f i) H3) → (∀ H3, Ex H H3 → c i = false → R false .non H3) →
      g x (wipe σ vs) H' fun σ2 H2 => wipe σ2 vs = wipe σ vs ∧ tt σ2 H2 fun b H3 => if b = true then te σ2 H3 (R true) else R false .non H3)
    (hd : ∀ H, Ex H1 H → H D = some (.lst (((List.range n).filter c).map f)) → Qd H) :
    ∃ W : Nat → Nat → Hp → Prop, (∃ m, W 0 m (upd H1 D (.lst []))) ∧ ∀ i m H, W i m H →
      (J.stop i H ∧ Qd H) ∨ (J.go i H ∧ ∃ Nx : Hp → Prop, (∀ H', Nx H' → ∃ m', m' < m ∧ W (i + 1) m' H') ∧ ∀ x H', J.yld i H x H' → g x (wipe σ vs) H' fun σ2 H2 => wipe σ2 vs = wipe σ vs ∧ tt σ2 H2 fun b H3 =>
        if b = true then te σ2 H3 fun y H4 => ∃ acc, H4 D = some (.lst acc) ∧ acc.length < sizeLine ∧ Nx (upd H4 D (.lst (acc ++ [y]))) else Nx H3) := by
  refine lc_it wk (fun i H => Ex H1 H ∧ H D = some (.lst (((List.range i).filter c).map f))) ⟨ex_new hD, upd_same⟩ (fun i H _ p => hG H p.1) (fun i x H H' hi p y => ?_) fun H p => hd H p.1 p.2
  obtain ⟨e, hl⟩ := p
  have key := hs i x H H' hi e y (fun b y H4 => if b = true then ∃ acc, H4 D = some (.lst acc) ∧ acc.length < sizeLine ∧ (Ex H1 (upd H4 D (.lst (acc ++ [y]))) ∧ (upd H4 D (.lst (acc ++ [y]))) D = some (.lst (((List.range (i + 1)).filter c).map f)))
      else (Ex H1 H4 ∧ H4 D = some (.lst (((List.range (i + 1)).filter c).map f)))) (fun H3 e3 hc => ?_) (fun H3 e3 hc => ?_)
  · exact key
  · refine iteT' ⟨_, e3 D _ hl, ?_, Evl.Ex.mut (Evl.Ex.trans e e3) hD, ?_⟩
    · have := List.length_filter_le c (List.range i)
      rw [List.length_map]
      rw [List.length_range] at this
      exact Evl.sz_lt (by omega)
    · rw [upd_same, List.range_succ, List.filter_append, List.map_append, List.filter_cons, if_pos hc] <;> rfl
  · refine iteF' ⟨Evl.Ex.trans e e3, ?_⟩
    rw [List.range_succ, List.filter_append, List.map_append, List.filter_cons, if_neg (by rw [hc]; decide)]
    show _ = some (HO.lst (_ ++ []))
    rw [List.append_nil]
    exact e3 D _ hl
end
theorem w_rng1 {A : TA} {σ : L2.St} {H : Hp} {R : It → Hp → Prop} (h : A σ H fun vs H1 => ∃ j : Int, vs = [.int j] ∧ -(2 ^ 62) ≤ j ∧ j < 2 ^ 62 ∧ R (Itr 0 j.toNat) H1) : iRng1 A σ H R := h
theorem w_rng2 {A : TA} {σ : L2.St} {H : Hp} {R : It → Hp → Prop} (h : A σ H fun vs H1 => ∃ i j : Int, vs = [.int i, .int j] ∧ (-(2 ^ 62) ≤ i ∧ i < 2 ^ 62 ∧ -(2 ^ 62) ≤ j ∧ j < 2 ^ 62) ∧ R (Itr i (j - i).toNat) H1) : iRng2 A σ H R := h
theorem w_rng3 {A : TA} {σ : L2.St} {H : Hp} {R : It → Hp → Prop} (h : A σ H fun vs H1 => ∃ (i j c : Int) (n : Nat), vs = [.int i, .int j, .int c] ∧ RgC i j c n ∧ R (Itc i c n) H1) : iRng3 A σ H R := h
theorem w_istr {te : TE} {σ : L2.St} {H : Hp} {R : It → Hp → Prop} (h : te σ H fun v H1 => ∃ x, v = .str x ∧ R (Its x) H1) : iStr te σ H R := h
theorem w_ilist {K : PySem.W.Frag} {te : TE} {σ : L2.St} {H : Hp} {R : It → Hp → Prop} (h : te σ H fun x H1 => ∃ a, x = .ref a ∧ (∃ xs, SqL K H1 a xs) ∧ R (Itl K a) H1) : iList K te σ H R := h
theorem w_itup {K : PySem.W.Frag} {te : TE} {σ : L2.St} {H : Hp} {R : It → Hp → Prop} (h : te σ H fun x H1 => ∃ a, x = .ref a ∧ (∃ xs, SqT K H1 a xs) ∧ R (Itt K a) H1) : iTup K te σ H R := h
theorem w_izip {K : PySem.W.Frag} {A : TA} {σ : L2.St} {H : Hp} {R : It → Hp → Prop} (h : A σ H fun vs H1 => ∃ a b xs ys, vs = [.ref a, .ref b] ∧ ((SqL K H1 a xs ∧ SqL K H1 b ys ∧ R (Itz K a b) H1) ∨ (SqT K H1 a xs ∧ SqT K H1 b ys ∧ R (RZ.ItzT K a b) H1))) : RZ.iZipA K A σ H R := h
theorem w_for {wi : TI} {g : TG} {tb : TS} {D : Ends} {σ : L2.St} {H : Hp} (h : wi σ H fun J H1 => ∃ W : Nat → Nat → L2.St → Hp → Prop, (∃ m, W 0 m σ H1) ∧ ∀ i m σ H, W i m σ H →
      (J.stop i H ∧ D.nx σ H) ∨ (J.go i H ∧ ∃ N : L2.St → Hp → Prop, (∀ σ' H', N σ' H' → ∃ m', m' < m ∧ W (i + 1) m' σ' H') ∧ ∀ x H', J.yld i H x H' → g x σ H' fun σ2 H2 => tb { D with nx := N, ct := N, bk := D.nx } σ2 H2)) : tFor wi g tb D σ H := h
theorem w_lc {wi : TI} {g : TG} {tt : TT} {te : TE} {vs : List Nat} {σ : L2.St} {H : Hp} {Q : VK} (h : wi σ H fun J H1 => ∀ D, H1 D = none → ∃ W : Nat → Nat → Hp → Prop, (∃ m, W 0 m (upd H1 D (.lst []))) ∧ ∀ i m H, W i m H →
      (J.stop i H ∧ Q (.ref D) H) ∨ (J.go i H ∧ ∃ Nx : Hp → Prop, (∀ H', Nx H' → ∃ m', m' < m ∧ W (i + 1) m' H') ∧ ∀ x H', J.yld i H x H' → g x (wipe σ vs) H' fun σ2 H2 => wipe σ2 vs = wipe σ vs ∧ tt σ2 H2 fun b H3 =>
        if b = true then te σ2 H3 fun y H4 => ∃ acc, H4 D = some (.lst acc) ∧ acc.length < sizeLine ∧ Nx (upd H4 D (.lst (acc ++ [y]))) else Nx H3)) : tLc wi g tt te vs σ H Q := h
theorem w_gname {i : Nat} {v : V} {σ : L2.St} {H : Hp} {Q : L2.St → Hp → Prop} (h : Q (σ.set i (some v)) H) : gName i v σ H Q := h
theorem w_gtup {K : PySem.W.Frag} {n : Nat} {t : TGs} {a : Addr} {xs : List V} {σ : L2.St} {H : Hp} {Q : L2.St → Hp → Prop} (hs : SqT K H a xs) (hn : xs.length = n) (h : t xs σ H Q) : gTup K n t (.ref a) σ H Q := ⟨a, xs, rfl, hs, hn, h⟩
theorem w_gcons {t : TG} {u : TGs} {v : V} {r : List V} {σ : L2.St} {H : Hp} {Q : L2.St → Hp → Prop} (h : t v σ H fun σ' H' => u r σ' H' Q) : gCons t u (v :: r) σ H Q := ⟨v, r, rfl, h⟩
theorem w_gnil {σ : L2.St} {H : Hp} {Q : L2.St → Hp → Prop} (h : Q σ H) : gNil [] σ H Q := ⟨rfl, h⟩
theorem w_gsub {to ti : TE} {t : TSet} {v : V} {σ : L2.St} {H : Hp} {Q : L2.St → Hp → Prop} (h : to σ H fun o H1 => ti σ H1 fun i H2 => t o i v H2 fun H3 => Q σ H3) : gSub to ti t v σ H Q := h
theorem v_setL {l : Addr} {xs : List V} {k : Int} {j : Nat} {v : V} {H : Hp} {Q : Hp → Prop} (hl : H l = some (.lst xs)) (hj : ixN xs.length k = some j) (h : Q (upd H l (.lst (xs.set j v)))) : rSetL (.ref l) (.int k) v H Q := ⟨l, xs, k, j, rfl, rfl, hl, hj, h⟩
theorem v_app {l : Addr} {xs : List V} {v : V} {H : Hp} {Q : VK} (hl : H l = some (.lst xs)) (hn : xs.length < 100000) (h : Q .non (upd H l (.lst (xs ++ [v])))) : rAppend (.ref l) [v] H Q := ⟨l, xs, v, rfl, rfl, hl, Evl.sz_lt hn, h⟩
theorem ty_list {K : PySem.W.Frag} {l : Addr} {xs : List V} {H : Hp} (hl : H l = some (.lst xs)) : tyV K "list" (.ref l) H := .inl ⟨rfl, xs, sl_of hl⟩
theorem v_all {K : PySem.W.Frag} {H : Hp} {a : Addr} {bs : List Bool} {Q : VK} (h : SqL K H a (bs.map V.bl)) (q : Q (.bl (bs.all id)) H) : rAll K [.ref a] H Q := ⟨a, bs, rfl, h, q⟩
theorem v_jn {K : PySem.W.Frag} {H : Hp} {a : Str} {p : Addr} {ys : List Str} {Q : VK} (h : SqL K H p (ys.map V.str)) (hz : (ys.map (·.length)).sum + ys.length * a.length ≤ 100000) (q : Q (.str (Txt.join a ys)) H) : rJn K (.str a) [.ref p] H Q :=
  ⟨a, p, ys, rfl, rfl, .inl h, by omega, q⟩
theorem v_tupL {K : PySem.W.Frag} {H : Hp} {p : Addr} {ys : List V} {Q : VK} (h : SqL K H p ys) (q : ∀ l H', H l = none → Ex H H' → H' l = some (.tup ys) → Q (.ref l) H') : rTupOf K [.ref p] H Q :=
  ⟨p, ys, rfl, .inl ⟨h, fun l hl => q l _ hl (ex_new hl) upd_same⟩⟩
theorem rgc_down {w : Nat} (hw : w ≤ 100000) : RgC ((w : Int) - 1) (-1) (-1) w := by
  have h := RgC.neg (i := (w : Int) - 1) (j := -1) (by omega) (by omega) (by omega) (by omega)
  have e : ((w : Int) - 1 - -1).toNat = w := by omega
  rw [e] at h
  exact h

theorem isK_int : ∀ n ∈ tyNames, isK n "int" = true → (n == "int") = !isK n "bool" := by decide +kernel
theorem isK_str : ∀ n ∈ tyNames, isK n "str" = (n == "str") := by decide +kernel
theorem isK_tup : ∀ n ∈ tyNames, isK n "tuple" = (n == "tuple") := by decide +kernel
theorem isK_list : ∀ n ∈ tyNames, isK n "list" = (n == "list") := by decide +kernel
theorem isK_dict : ∀ n ∈ tyNames, isK n "dict" = (n == "dict") := by decide +kernel
theorem map_at {α : Type} (l : List Nat) (f : Nat → α) : (List.range l.length).map (fun i => f (l.getD i 0)) = l.map f := by
  apply List.ext_getElem
  · simp
  · intro i h1 h2
    simp at h1
    simp [h1]
theorem in01 (c : Nat) : decide (c ∈ ("01" : Str).cps.toList) = isBit c := by
  have e : ("01" : Str).cps.toList = [48, 49] := rfl
  rw [e]
  simp [isBit]
/-! ### texts as lists of codes -/
theorem str_S (z : Str) : z = S z.cps.toList := (S_tl z).symm
theorem S_cps (l : List Nat) : (S l).cps.toList = l := rfl
theorem S_len' (l : List Nat) : (S l).length = l.length := S_len l
/-- the signs joined by nothing -/
theorem joinL_one : ∀ l : List Nat, TL.joinL [] (l.map fun c => [c]) = l
  | [] => rfl
  | [c] => rfl
  | c :: d :: l => by
    have ih := joinL_one (d :: l)
    simp only [List.map_cons, TL.joinL] at ih ⊢
    rw [ih]
    rfl
theorem join_signs (l : List Nat) : Txt.join (S []) (l.map fun c => S [c]) = S l := by
  have e : (l.map fun c => S [c]) = (l.map fun c => [c]).map S := by rw [List.map_map]; rfl
  rw [e, join_S, joinL_one]
theorem signs_size : ∀ l : List Nat, ((l.map fun c => S [c]).map (·.length)).sum + (l.map fun c => S [c]).length * (S []).length = l.length
  | [] => rfl
  | c :: l => by
    have ih := signs_size l
    simp only [List.map_cons, List.sum_cons, List.length_cons] at ih ⊢
    have e1 : (S [c]).length = 1 := rfl
    have e2 : (S []).length = 0 := rfl
    rw [e1]
    rw [e2] at ih ⊢
    omega
theorem v_jnS {K : PySem.W.Frag} {H : Hp} {p : Addr} {l : List Nat} {Q : VK} (h : SqL K H p ((l.map fun c => S [c]).map V.str)) (hl : l.length ≤ 100000) (q : Q (.str (S l)) H) : rJn K (.str "") [.ref p] H Q := by
  have e : ("" : Str) = S [] := rfl
  rw [e]
  refine v_jn h (by rw [signs_size]; exact hl) ?_
  rw [join_signs]
  exact q
/-- a for over a walk, its ends told apart -/
theorem for_x {J : It} {n : Nat} {G : Hp → Prop} {Y : Nat → Hp → V → Hp → Prop} (w : Walk J n G Y) {g : TG} {tb : TS} {nx : L2.St → Hp → Prop} {rt : VK} {σ : L2.St} {H : Hp} (Pv : Nat → L2.St → Hp → Prop) (h0 : Pv 0 σ H) (hG : ∀ i σ H, i ≤ n → Pv i σ H → G H)
    (hs : ∀ i x σ H H', i < n → Pv i σ H → Y i H x H' → g x σ H' fun σ2 H2 => tb { nx := Pv (i + 1), rt := rt, ct := Pv (i + 1), bk := nx } σ2 H2) (hd : ∀ σ H, Pv n σ H → nx σ H) :
    ∃ W : Nat → Nat → L2.St → Hp → Prop, (∃ m, W 0 m σ H) ∧ ∀ i m σ H, W i m σ H →
      (J.stop i H ∧ nx σ H) ∨ (J.go i H ∧ ∃ N : L2.St → Hp → Prop, (∀ σ' H', N σ' H' → ∃ m', m' < m ∧ W (i + 1) m' σ' H') ∧ ∀ x H', J.yld i H x H' → g x σ H' fun σ2 H2 => tb { nx := N, rt := rt, ct := N, bk := nx } σ2 H2) :=
  for_it w (D := { nx := nx, rt := rt }) Pv h0 hG hs hd
/-- while: W with its measure -/
theorem w_while {c : TT} {tb : TS} {D : Ends} {σ : L2.St} {H : Hp} (W : Nat → L2.St → Hp → Prop) (m0 : Nat) (h0 : W m0 σ H)
    (hs : ∀ m σ H, W m σ H → c σ H fun b H1 => if b = true then ∃ N : L2.St → Hp → Prop, (∀ σ' H', N σ' H' → ∃ m', m' < m ∧ W m' σ' H') ∧ tb { nx := N, rt := D.rt, ct := N, bk := D.nx } σ H1 else D.nx σ H1) : tWhile c tb D σ H := ⟨W, ⟨m0, h0⟩, hs⟩
theorem v_N {m : Nat} {W : Nat → L2.St → Hp → Prop} {B : (L2.St → Hp → Prop) → Prop} (h : B (fun σ' H' => ∃ m', m' < m ∧ W m' σ' H')) : ∃ N : L2.St → Hp → Prop, (∀ σ' H', N σ' H' → ∃ m', m' < m ∧ W m' σ' H') ∧ B N := ⟨_, fun _ _ h => h, h⟩
end LW
/-! More rules: str * int, sorted of texts, zip of tuples, comprehensions by an invariant; what a law's draws promise. -/
namespace LW
open PySem PySem.Spec PyProof.Rows L2 SX

/-! ### one sign, many times -/
def rRep1 : R2 := fun x y H Q => ∃ (c k : Nat), x = .str (S [c]) ∧ y = .int (k : Int) ∧ k ≤ 100000 ∧ Q (.str (S (List.replicate k c))) H
theorem foldl_one (c : Nat) : ∀ (k : Nat) (a : Array Nat), ((List.replicate k (#[c] : Array Nat)).foldl (· ++ ·) a).toList = a.toList ++ List.replicate k c
  | 0, a => by simp
  | k + 1, a => by
    rw [List.replicate_succ, List.foldl_cons, foldl_one c k, List.replicate_succ]
    simp
theorem mul_one' (c k : Nat) : Txt.mul (S [c]) (k : Int) = S (List.replicate k c) := by
  unfold Txt.mul
  by_cases h1 : (k : Int) < 1
  · rw [if_pos h1]
    have : k = 0 := by omega
    subst this
    rfl
  · rw [if_neg h1]
    by_cases h2 : ((k : Int) == 1 || (S [c]).length == 0) = true
    · rw [if_pos h2]
      have h3 : (S [c]).length = 1 := rfl
      rw [h3] at h2
      have h4 : (k : Int) = 1 := by simpa using h2
      have : k = 1 := by omega
      subst this
      rfl
    · rw [if_neg h2, Int.toNat_natCast]
      have e : (S [c]).cps = #[c] := rfl
      rw [e]
      have h := foldl_one c k #[]
      unfold S
      congr 1
      rw [← Array.toList_inj, h]
      simp
theorem o_rep1 {X : Cx} : OpR X (binaryOp .Mult) rRep1 := by
  intro pins s σ H x y v u Q I rx ry h
  obtain ⟨c, k, rfl, rfl, hk, q⟩ := h
  obtain ⟨t, rfl⟩ := rx
  obtain ⟨t2, rfl⟩ := ry
  have hl : (S [c]).length = 1 := rfl
  refine SB.mul ⟨?_, fun h1 _ z => ?_, fun h1 _ => ?_⟩ fun t' k' => ?_
  · rw [Bool.or_eq_false_iff]
    exact ⟨decide_eq_false (by omega), decide_eq_false (by omega)⟩
  · rw [hl] at z
    have hk0 : (0 : Int) < k := by omega
    have h2 : (1 : Int) ≤ (2 ^ 63 - 1) / (k : Int) := by
      refine (Int.le_ediv_iff_mul_le hk0).mpr ?_
      omega
    omega
  · rw [hl, Int.toNat_natCast, Nat.one_mul]
    have : k ≤ sizeLine := Evl.sz_of hk
    unfold Builtin.Str.tooLong
    simpa using this
  · rw [mul_one']
    exact ⟨.str (S (List.replicate k c)), H, I.kept (t' := k') fun _ _ z => z, ⟨_, rfl⟩, q⟩

/-! ### sorted of texts, a list or a tuple, any number of them -/
section
open PySem.Spec
variable {prog : Program} {w : World} {A : Around} {E : Value → Shared → Prop} {s : Shared}
theorem collect_tup {l : Addr} {vs : List Value} {Q : List Value → Shared → Prop} (hl : s.heap.IsTuple l vs.toArray)
    (h : Q vs { s with heap := (s.heap.push (seqObj "list" #[] 0)).update s.heap.objs.size (Obj.mapSeq (· ++ vs.toArray)) }) (hsz : vs.length ≤ sizeLine) :
    wpAny (model prog w) A (collect (.ref l)) Q E s := by
  obtain ⟨o, ho, hc, n, hd⟩ := id hl
  unfold collect
  refine wpAny_bind (wpAny_runValue (codeAny_builtin entry_proto_collect' ?_))
  show wpAny _ _ (do again (.builtin "list.__iadd__" ⟨[← newList [], .ref l], []⟩)) _ _ s
  refine wpAny_bind (wpAny_newList (wpAny_pure ⟨Code.quiet_builtin _ (by decide +kernel), codeAny_builtin entry_list_iadd' ?_⟩))
  show wpAny _ _ (Builtin.List.listExtendWith (.ref s.heap.objs.size) (.ref l) (.ref s.heap.objs.size)) _ _ { s with heap := s.heap.push (seqObj "list" #[] 0) }
  unfold Builtin.List.listExtendWith
  have ho' : (s.heap.push (seqObj "list" #[] 0)).get? l = some o := Heap.get?_push_of_some _ ho
  refine wpAny_bind (wpAny_typeOf (T := "tuple") ⟨o, ho', hc⟩ ?_)
  have ht : (Value.type "tuple" == Value.type "tuple") = true := by rfl
  rw [if_pos (by rw [ht]; simp)]
  refine wpAny_bind (listItems_at ho' hd ?_)
  refine wpAny_bind (listItems_at (xs := #[]) (n := 0) (Heap.get?_push_size _ rfl) rfl ?_)
  rw [if_neg (by simp)]
  refine wpAny_bind (listUpdate_at (xs := #[]) (n := 0) (Heap.get?_push_size _ rfl) rfl ?_ (Nat.zero_le _) (by show (#[] ++ vs.toArray).size ≤ sizeLine + 1; simp only [Array.size_append, List.size_toArray, List.length_nil]; omega))
  refine wpAny_pure ?_
  show wpAny (model prog w) A (do
      let o ← load s.heap.objs.size
      match o.data with
      | .seq xs _ => pure xs.toList
      | _ => unsupported "internal:collect") Q E { s with heap := (s.heap.push (seqObj "list" #[] 0)).update s.heap.objs.size (Obj.mapSeq (· ++ vs.toArray)) }
  refine wpAny_bind (wpAny_load (get?_update_seq (Heap.get?_push_size _ rfl) _) ?_)
  show wpAny _ _ (pure ((#[] : Array Value) ++ vs.toArray).toList) Q E _
  rw [show ((#[] : Array Value) ++ vs.toArray).toList = vs by simp]
  exact wpAny_pure h
theorem sortedKT {κ : KeyKind} (hO : κ.OneLt) {l : Addr} {vs : List Value} {Q : Value → Shared → Prop} (hl : s.heap.IsTuple l vs.toArray) (h0 : KeysOf κ (pairsOf vs)) (hkk : ∀ v₁ v₂ rest, vs = v₁ :: v₂ :: rest → keyKind' (v₁ :: v₂ :: rest).toArray = pure oneType') (hL : vs.length ≤ sizeLine)
    (h : ∀ st' : SortSt, (arrOf st').Perm (pairsOf vs) → SortedToK κ (arrOf st') (pairsOf vs).size → Q (.ref (s.heap.objs.size + 1)) { s with heap := sortedAll s.heap vs ((arrOf st').map (·.2)) }) :
    wpAny (model prog w) A (call (.builtin "sorted") [.ref l]) Q E s := by
  refine Calls.call_function_entry kind_sorted plain_sorted entry_sorted (args_sorted1 _) ?_
  unfold Builtin.«sorted»
  refine wpAny_bind (m := checkCount "sorted" 1 1 _) (wpAny_pure ?_)
  refine wpAny_bind (collect_tup hl ?_ hL)
  refine wpAny_bind (wpAny_newList ?_)
  have hsz : ((s.heap.push (seqObj "list" #[] 0)).update s.heap.objs.size (Obj.mapSeq (· ++ vs.toArray))).objs.size = s.heap.objs.size + 1 := by
    rw [Heap.size_update, size_push']
  have hoL : (((s.heap.push (seqObj "list" #[] 0)).update s.heap.objs.size (Obj.mapSeq (· ++ vs.toArray))).push (seqObj "list" vs.toArray 0)).get? (s.heap.objs.size + 1) = some (seqObj "list" vs.toArray 0) := by
    rw [← hsz]; exact Heap.get?_push_size _ rfl
  show wpAny _ _ _ _ _ { s with heap := ((s.heap.push (seqObj "list" #[] 0)).update s.heap.objs.size (Obj.mapSeq (· ++ vs.toArray))).push (seqObj "list" vs.toArray 0) }
  rw [hsz]
  refine wpAny_bind (wpAny_holding (wpAny_call_entry slot_list_sort ⟨_, hoL, rfl⟩ entry_list_sort (list_sort_treeKAny hO hoL h0 hkk hL fun st' a1 a2 => ⟨_, rfl, ?_⟩) (args_list_sort _)))
  exact wpAny_pure ⟨_, rfl, h st' a1 a2⟩
theorem sorted_strsT {l : Addr} {vs : List Value} {ss : List Str} {Q : Value → Shared → Prop} (hl : s.heap.IsTuple l vs.toArray) (hS : StrsAre vs ss) (hL : vs.length ≤ sizeLine)
    (h : ∀ (out : Array Value) (ss' : List Str), StrsAre out.toList ss' → ss'.Perm ss → sortedS ss' = true → Q (.ref (s.heap.objs.size + 1)) { s with heap := sortedAll s.heap vs out }) :
    wpAny (model prog w) A (call (.builtin "sorted") [.ref l]) Q E s := by
  refine sortedKT strKind_oneLt hl hS.keysOf (fun v₁ v₂ rest e => keyKind_strs (by rw [← e]; exact hS)) hL fun st' hp hs => ?_
  obtain ⟨ss', h1, h2, h3⟩ := sorted_out_str hS hp hs
  exact h _ ss' h1 h2 h3
end
def rSrtS (K : PySem.W.Frag) : List V → Hp → VK → Prop := fun vs H Q => ∃ (a : Addr) (xs : List Str), vs = [V.ref a] ∧ (SqL K H a (xs.map V.str) ∨ SqT K H a (xs.map V.str)) ∧
  ∀ (ys : List Str) (p : Addr), ys.Perm xs → sortedS ys = true → H p = none → Q (.ref p) (upd H p (.lst (ys.map V.str)))
theorem c_sortedS {X : Cx} : CallR X (.builtin "sorted") (rSrtS X.K) := by
  intro pins s σ H vs us Q I r h
  obtain ⟨a, xs, rfl, hs, q⟩ := h
  rw [Vals.ref1 r]
  rcases hs with hs | hs
  · obtain ⟨its, rv, hl, hz⟩ := I.list hs
    have hlen0 := rv.length
    refine PyProof.Rows.sorted_strsAny hl.isList rv.strs (by rw [← hlen0]; exact hz) fun out ys h1 h2 h3 => ?_
    obtain ⟨ep, he'⟩ := PyProof.Rows.sortedAll_at s.heap its out
    have hlen : (ys.map V.str).length ≤ sizeLine := by
      rw [List.length_map] at hz ⊢
      rw [h2.length_eq]
      exact hz
    exact ⟨.ref _, upd H (s.heap.objs.size + 1) (.lst (ys.map V.str)), I.laid (t' := s.toks) (fun _ _ => PyProof.Rows.sortedAll_old) (Nat.le_succ _) ⟨hlen, out.toList, ep, vals_of_strs h1, he'⟩, rfl, q ys _ h2 h3 (I.hok.fresh (Nat.le_succ _))⟩
  · obtain ⟨its, rv, hl, hz⟩ := I.tuple hs
    have hlen0 := rv.length
    refine sorted_strsT (show s.heap.IsTuple a its.toArray from hl) rv.strs (by rw [← hlen0]; exact hz) fun out ys h1 h2 h3 => ?_
    obtain ⟨ep, he'⟩ := PyProof.Rows.sortedAll_at s.heap its out
    have hlen : (ys.map V.str).length ≤ sizeLine := by
      rw [List.length_map] at hz ⊢
      rw [h2.length_eq]
      exact hz
    exact ⟨.ref _, upd H (s.heap.objs.size + 1) (.lst (ys.map V.str)), I.laid (t' := s.toks) (fun _ _ => PyProof.Rows.sortedAll_old) (Nat.le_succ _) ⟨hlen, out.toList, ep, vals_of_strs h1, he'⟩, rfl, q ys _ h2 h3 (I.hok.fresh (Nat.le_succ _))⟩

/-! ### zip of two tuples -/
theorem walk_zipT {K : PySem.W.Frag} {a b : Addr} {xs ys : List V} {n : Nat} (hn : n = min xs.length ys.length) : Walk (RZ.ItzT K a b) n (fun H => SqT K H a xs ∧ SqT K H b ys) (YPair (fun i => xs[i]?) (fun i => ys[i]?)) := by
  subst hn
  refine ⟨fun i _ hi q => ?_, fun _ q => ⟨xs, ys, q.1, q.2, by omega⟩, fun i H v H' _ q y => ?_⟩
  · have h1 : i < xs.length := by omega
    have h2 : i < ys.length := by omega
    exact ⟨xs, ys, xs[i], ys[i], q.1, q.2, by simp [h1], by simp [h2]⟩
  · obtain ⟨T, x, z, h1, h2, h3, h4, h5⟩ := y
    exact ⟨T, x, z, h1, h2, h3, h4 xs q.1, h5 ys q.2⟩

/-! ### a comprehension by an invariant of what it has put together -/
theorem lc_inv {J : It} {n : Nat} {G : Hp → Prop} {Y : Nat → Hp → V → Hp → Prop} (wk : Walk J n G Y) {g : TG} {tt : TT} {te : TE} {vs : List Nat} {σ : L2.St} {H1 : Hp} {D : Addr} {Qd : Hp → Prop} (Pv : Nat → List V → Hp → Prop)
    (h0 : ∀ H, Ex H1 H → H D = some (.lst []) → Pv 0 [] H) (hD : H1 D = none) (hG : ∀ i acc H, Pv i acc H → G H) (hn : n ≤ 100000)
    (hs : ∀ i x acc H H', i < n → Pv i acc H → H D = some (.lst acc) → Y i H x H' → ∀ R : Bool → VK, (∀ y H4, H4 D = some (.lst acc) → (∀ H5, Exc D H4 H5 → H5 D = some (.lst (acc ++ [y])) → Pv (i + 1) (acc ++ [y]) H5) → R true y H4) → (∀ H4, H4 D = some (.lst acc) → Pv (i + 1) acc H4 → R false .non H4) →
      g x (wipe σ vs) H' fun σ2 H2 => wipe σ2 vs = wipe σ vs ∧ tt σ2 H2 fun b H3 => if b = true then te σ2 H3 (R true) else R false .non H3) (hd : ∀ acc H, Pv n acc H → H D = some (.lst acc) → Qd H) :
    ∃ W : Nat → Nat → Hp → Prop, (∃ m, W 0 m (upd H1 D (.lst []))) ∧ ∀ i m H, W i m H →
      (J.stop i H ∧ Qd H) ∨ (J.go i H ∧ ∃ Nx : Hp → Prop, (∀ H', Nx H' → ∃ m', m' < m ∧ W (i + 1) m' H') ∧ ∀ x H', J.yld i H x H' → g x (wipe σ vs) H' fun σ2 H2 => wipe σ2 vs = wipe σ vs ∧ tt σ2 H2 fun b H3 =>
        if b = true then te σ2 H3 fun y H4 => ∃ acc, H4 D = some (.lst acc) ∧ acc.length < sizeLine ∧ Nx (upd H4 D (.lst (acc ++ [y]))) else Nx H3) := by
  refine lc_it wk (fun i H => ∃ acc, acc.length ≤ i ∧ H D = some (.lst acc) ∧ Pv i acc H) ⟨[], Nat.le_refl _, upd_same, h0 _ (ex_new hD) upd_same⟩ (fun i H _ p => ?_) (fun i x H H' hi p y => ?_) fun H p => ?_
  · obtain ⟨acc, _, _, p⟩ := p
    exact hG i acc H p
  · obtain ⟨acc, hl, hacc, p⟩ := p
    exact hs i x acc H H' hi p hacc y (fun b y H4 => if b = true then ∃ acc, H4 D = some (.lst acc) ∧ acc.length < sizeLine ∧ ∃ acc', acc'.length ≤ i + 1 ∧ (upd H4 D (.lst (acc ++ [y]))) D = some (.lst acc') ∧ Pv (i + 1) acc' (upd H4 D (.lst (acc ++ [y])))
        else ∃ acc', acc'.length ≤ i + 1 ∧ H4 D = some (.lst acc') ∧ Pv (i + 1) acc' H4)
      (fun y H4 h1 h2 => iteT' ⟨acc, h1, Evl.sz_lt (by omega), acc ++ [y], by simp; omega, upd_same, h2 _ (fun a u ne e => by rw [upd_ne ne]; exact e) upd_same⟩)
      (fun H4 h1 h2 => iteF' ⟨acc, by omega, h1, h2⟩)
  · obtain ⟨acc, _, hacc, p⟩ := p
    exact hd acc H p hacc
end LW
/-! What the helpers of a law promise: draws, likeness. -/
namespace LW
open PySem PySem.Spec PyProof.Rows L2 SX
theorem intBits_mono {a b : Int} (h0 : 0 ≤ a) (h : a ≤ b) : Builtin.Int.intBits a ≤ Builtin.Int.intBits b := by
  unfold Builtin.Int.intBits
  by_cases h1 : a = 0
  · subst h1
    simp
  · have h2 : b ≠ 0 := by omega
    rw [if_neg (by simpa using h1), if_neg (by simpa using h2)]
    have e : a.natAbs ≤ b.natAbs := by omega
    have h3 : 2 ^ a.natAbs.log2 ≤ a.natAbs := Nat.log2_self_le (by omega)
    have h4 := (Nat.le_log2 (n := b.natAbs) (k := a.natAbs.log2) (by omega)).mpr (Nat.le_trans h3 e)
    omega
theorem div_bits {a b : Int} (h0 : 0 ≤ a) (hb : 0 < b) : Builtin.Int.intBits (a / b) ≤ Builtin.Int.intBits a :=
  intBits_mono (Int.ediv_nonneg h0 (Int.le_of_lt hb)) (Int.ediv_le_self b h0)
/-- the row of a law's draws at r: the script's list, the place, the mixed number, the rest of a cell -/
structure RowAt (K : PySem.W.Frag) (H : Hp) (r a : Addr) (ns : List Int) (i m c : Int) : Prop where
  at_ : H r = some (.lst [.ref a, .int i, .int m, .int c])
  sq : SqL K H a (ns.map V.int)
  few : ns.length ≤ 63
  i0 : 0 ≤ i
  m0 : 0 ≤ m ∧ m < 2147483647
  c0 : 0 ≤ c
abbrev Scr := Addr × List Int
def RowOk (K : PySem.W.Frag) (sc : Scr) (H : Hp) (r : Addr) : Prop := ∃ i m c, RowAt K H r sc.1 sc.2 i m c
section
variable {K : PySem.W.Frag} {sc : Scr} {H H' : Hp} {r a b : Addr} {xs ys : List V} {o : HO}
theorem exc_o (h : H a = some o) (hr : H r = some (.lst ys)) (hn : o ≠ .lst ys) (e : Exc r H H') : H' a = some o := e a o (fun z => hn (by rw [z, hr] at h; exact (Option.some.inj h).symm)) h
theorem exc_l (h : SqL K H a xs) (hr : H r = some (.lst ys)) (hn : xs ≠ ys) (e : Exc r H H') : SqL K H' a xs := by
  rcases h with (h | ⟨o, h⟩) | h
  · exact .inl (.inl (exc_o h hr (fun z => hn (by cases z; rfl)) e))
  · exact .inl (.inr ⟨o, exc_o h hr (fun z => by cases z) e⟩)
  · exact .inr h
theorem exc_t (h : SqT K H a xs) (hr : H r = some (.lst ys)) (e : Exc r H H') : SqT K H' a xs := by
  rcases h with (h | ⟨o, h⟩) | h
  · exact .inl (.inl (exc_o h hr (fun z => by cases z) e))
  · exact .inl (.inr ⟨o, exc_o h hr (fun z => by cases z) e⟩)
  · exact .inr h
theorem row_sq {ns : List Int} (h : SqL K H a (ns.map V.int)) (hr : H r = some (.lst (.ref b :: ys))) (e : Exc r H H') : SqL K H' a (ns.map V.int) :=
  exc_l h hr (fun z => by
    cases ns with
    | nil => cases z
    | cons n ns => cases z) e
theorem RowOk.ex (h : RowOk K sc H r) (e : Ex H H') : RowOk K sc H' r := by
  obtain ⟨i, m, c, R⟩ := h
  exact ⟨i, m, c, e _ _ R.at_, up_l e R.sq, R.few, R.i0, R.m0, R.c0⟩
theorem RowOk.lst (h : RowOk K sc H r) : ∃ ys, H r = some (.lst ys) := by
  obtain ⟨i, m, c, R⟩ := h
  exact ⟨_, R.at_⟩
/-- what is no list at r stays -/
theorem RowOk.keep (h : RowOk K sc H r) (e : Exc r H H') (ha : H a = some o) (hn : ∀ ys, o ≠ .lst ys) : H' a = some o := by
  obtain ⟨ys, hr⟩ := h.lst
  exact exc_o ha hr (hn ys) e
theorem RowOk.t (h : RowOk K sc H r) (e : Exc r H H') (ha : SqT K H a xs) : SqT K H' a xs := by
  obtain ⟨ys, hr⟩ := h.lst
  exact exc_t ha hr e
end
/-- a list that was not there at H0 is written -/
theorem exc_n {K : PySem.W.Frag} {H0 H H' : Hp} {D a : Addr} {xs : List V} (h0 : SqL K H0 a xs) (hD : H0 D = none) (h : SqL K H a xs) (e : Exc D H H') : SqL K H' a xs := by
  by_cases z : a = D
  · subst z
    rcases h0 with (h0 | ⟨o, h0⟩) | h0
    · rw [hD] at h0; cases h0
    · rw [hD] at h0; cases h0
    · exact .inr h0
  · rcases h with (h | ⟨o, h⟩) | h
    · exact .inl (.inl (e a _ z h))
    · exact .inl (.inr ⟨o, e a _ z h⟩)
    · exact .inr h
theorem RowOk.new {K : PySem.W.Frag} {sc : Scr} {H0 H H' : Hp} {D r : Addr} (h0 : RowOk K sc H0 r) (hD : H0 D = none) (h : RowOk K sc H r) (e : Exc D H H') : RowOk K sc H' r := by
  obtain ⟨i0, m0, c0, R0⟩ := h0
  obtain ⟨i, m, c, R⟩ := h
  have hne : r ≠ D := fun z => by
    have := R0.at_
    rw [z, hD] at this
    cases this
  exact ⟨i, m, c, e _ _ hne R.at_, exc_n R0.sq hD R.sq e, R.few, R.i0, R.m0, R.c0⟩
/-- all but the row stays, a list that was not there is written -/
theorem Exc.new {H0 H H' : Hp} {D r : Addr} (a : Exc r H0 H) (hD : H0 D = none) (e : Exc D H H') : Exc r H0 H' := fun b o n hb => e b o (fun z => by rw [z, hD] at hb; cases hb) (a b o n hb)
theorem RowOk.ne {K : PySem.W.Frag} {sc : Scr} {H0 : Hp} {D r : Addr} (h0 : RowOk K sc H0 r) (hD : H0 D = none) : D ≠ r := fun z => by
  obtain ⟨ys, hy⟩ := h0.lst
  rw [z, hy] at hD
  cases hD
def spTaken (K : PySem.W.Frag) : Sp := fun vs H Q _ => ∃ (r : Addr) (sc : Scr) (many : Nat), vs = [.ref r, .int (many : Int)] ∧ RowOk K sc H r ∧ 0 < many ∧ many < 2 ^ 62 ∧ ∀ (v : Nat) H', v < many → Exc r H H' → RowOk K sc H' r → Q (.int (v : Int)) H'
def spPick (K : PySem.W.Frag) : Sp := fun vs H Q _ => ∃ (r l : Addr) (sc : Scr) (ys : List V), vs = [.ref r, .ref l] ∧ RowOk K sc H r ∧ (H l = some (.lst ys) ∧ l ≠ r ∨ H l = some (.tup ys)) ∧ ys ≠ [] ∧ ys.length ≤ 100000 ∧ ∀ y ∈ ys, ∀ H', Exc r H H' → RowOk K sc H' r → Q y H'
def spLawBits (K : PySem.W.Frag) : Sp := fun vs H Q _ => ∃ (r : Addr) (sc : Scr) (most : Nat), vs = [.ref r, .int (most : Int)] ∧ RowOk K sc H r ∧ most ≤ 1000 ∧ ∀ l H', l.all isBit = true → l.length ≤ most → Exc r H H' → RowOk K sc H' r → Q (.str (S l)) H'
/-! ### likeness -/
mutual
/-- data of at most n levels over its atoms, no part longer than a line, no dicts -/
def okd : Nat → PyData → Bool
  | _, .none => true
  | _, .bool _ => true
  | _, .int _ => true
  | _, .str _ => true
  | n + 1, .list ds => decide (ds.length ≤ 100000) && okds n ds
  | n + 1, .tuple ds => decide (ds.length ≤ 100000) && okds n ds
  | _, _ => false
def okds : Nat → List PyData → Bool
  | _, [] => true
  | n, d :: ds => okd n d && okds n ds
end
theorem okds_mem : ∀ {ds : List PyData} {n : Nat}, okds n ds = true → ∀ d ∈ ds, okd n d = true
  | [], _, _, d, h => absurd h (by simp)
  | e :: ds, n, hk, d, h => by
    unfold okds at hk
    rw [Bool.and_eq_true] at hk
    rcases List.mem_cons.mp h with rfl | h
    · exact hk.1
    · exact okds_mem hk.2 d h
def spAlike (K : PySem.W.Frag) : Nat → Sp
  | 0 => fun _ _ _ _ => False
  | n + 1 => fun vs H Q _ => ∃ (x y : V) (d : PyData), vs = [x, y] ∧ Dp K H x d ∧ Dp K H y d ∧ okd n d = true ∧ ∀ H', Ex H H' → Q (.bl true) H'
section
variable {K : PySem.W.Frag} {H : Hp} {x : V}
theorem kn_sqL {a : Addr} {xs : List V} (h : SqL K H a xs) : Kn K H (.ref a) "list" := by
  rcases h with (h | ⟨o, h⟩) | ⟨o, its, n, h, c, _⟩
  · exact ⟨.base (.lst h), by decide⟩
  · exact ⟨.base (.frz h), by decide⟩
  · exact ⟨.kList h c, by decide⟩
theorem kn_sqT {a : Addr} {xs : List V} (h : SqT K H a xs) : Kn K H (.ref a) "tuple" := by
  rcases h with (h | ⟨o, h⟩) | ⟨o, its, n, h, c, _⟩
  · exact ⟨.base (.tup h), by decide⟩
  · exact ⟨.fTuple h, by decide⟩
  · exact ⟨.kTuple h c, by decide⟩
theorem dpAll_len : ∀ {xs : List V} {ds : List PyData}, DpAll K H xs ds → xs.length = ds.length
  | _, _, .nil => rfl
  | _, _, .cons _ r => congrArg (· + 1) (dpAll_len r)
theorem dpAll_at : ∀ {xs : List V} {ds : List PyData} {i : Nat} {d : PyData}, DpAll K H xs ds → ds[i]? = some d → ∃ v, xs[i]? = some v ∧ Dp K H v d
  | [], _, _, _, .nil, h => by simp at h
  | v :: xs, e :: ds, 0, d, .cons a r, h => by
    have h' : e = d := by simpa using h
    subst h'
    exact ⟨_, rfl, a⟩
  | v :: xs, e :: ds, i + 1, d, .cons a r, h => by
    have h' : ds[i]? = some d := by simpa using h
    obtain ⟨u, h1, h2⟩ := dpAll_at r h'
    exact ⟨u, by simpa using h1, h2⟩
end
/-- x[i] of a list or a tuple -/
def rIxLT (K : PySem.W.Frag) : R2 := fun x y H Q => rIxL K x y H Q ∨ rIxT K x y H Q
theorem ix_lt {X : Cx} : IxR X (rIxLT X.K) := L2.ix_list.or L2.ix_tup
/-! the same rules, K named: for blocks -/
section
variable {X : Cx} {K : PySem.W.Frag}
theorem ix_ltK (h : X.K = K := by rfl) : IxR X (rIxLT K) := h ▸ ix_lt
theorem ix_listK (h : X.K = K := by rfl) : IxR X (rIxL K) := h ▸ L2.ix_list
theorem ix_tupK (h : X.K = K := by rfl) : IxR X (rIxT K) := h ▸ L2.ix_tup
theorem c_lenQK (h : X.K = K := by rfl) : CallR X (.builtin "len") (rLenQ K) := h ▸ c_lenQ
theorem c_isiK (h : X.K = K := by rfl) : CallR X (.builtin "isinstance") (rIsi K) := h ▸ c_isi
theorem c_isiTK (h : X.K = K := by rfl) : CallR X (.builtin "isinstance") (rIsiT K) := h ▸ c_isiT
theorem sl_listK (h : X.K = K := by rfl) : SlR X (rSlL K) := h ▸ L2.sl_list
theorem sl_tupK (h : X.K = K := by rfl) : SlR X (rSlT K) := h ▸ L2.sl_tup
theorem o_inQK (h : X.K = K := by rfl) : OpR X (compareOp .In) (rIn K false) := h ▸ o_inQ
theorem o_notInQK (h : X.K = K := by rfl) : OpR X (compareOp .NotIn) (rIn K true) := h ▸ o_notInQ
theorem o_dEqK (hu : X.A.units + 64 < cLine) (h : X.K = K := by rfl) : OpR X (compareOp .Eq) (rEqD K) := h ▸ o_dEq hu
theorem o_dNeK (hu : X.A.units + 64 < cLine) (h : X.K = K := by rfl) : OpR X (compareOp .NotEq) (rNeD K) := h ▸ o_dNe hu
theorem pg_tupK {es : List Expr} {k : Nat} {pos : Pos} {t : TGs} {n : Nat} (hc : X.calm = true) (h : PGs X es t) (hk : X.K = K := by rfl)
    (hn : (assignEach es X.env).length = n := by rfl) (hst : (assignEach es X.env).findIdx? (·.1) = none := by rfl) : PG X (.Tuple es k pos) (gTup K n t) := hk ▸ pg_tup hc h hn hst
theorem c_tupleK (h : X.K = K := by rfl) : CallR X (.type "tuple") (rTupOf K) := h ▸ c_tuple
theorem c_listK (h : X.K = K := by rfl) : CallR X (.type "list") (rLstOf K) := h ▸ c_list
end
end LW
/-! A law's def that calls a lambda and tells the error: what it promises. -/
namespace LW
open PySem PySem.Spec PyProof.Rows L2 SX
/-- x() where x holds the lambda f: what it lets out is taken by W -/
def tAct (f c' : Addr) (q : Str) (tl : XK → Hp → VK → Prop) (W : WX) : TE := fun σ H Q => ∃ Ech : XK, (∀ cls d σ' H', Ech cls d H' → W cls d σ' H') ∧ σ[0]? = some (some (.ref f)) ∧ H c' = some (LamX.CodeO c' q) ∧ tl Ech H Q
theorem pe_actW {X : Cx} {e : Expr} {f c' : Addr} {q : Str} {tl : XK → Hp → VK → Prop} {W : WX} (hp : ∀ E : XK, (∀ cls d σ' H', E cls d H' → W cls d σ' H') → PE X e (fun σZ HZ Q => σZ[0]? = some (some (.ref f)) ∧ HZ c' = some (LamX.CodeO c' q) ∧ tl E HZ Q)) : PE X e (tAct f c' q tl W) :=
  ⟨fun pins s σ H Q I h => by
    obtain ⟨E, hW, h⟩ := h
    exact (hp E hW).run pins s σ H Q I h⟩
/-- what is taken with the slots that the def has -/
theorem takes_len {X : Cx} {W : WX} (t : Takes X W) : Takes X (fun c d σ H => σ.length = X.N.length → W c d σ H) := fun u s' ⟨a, B, sI, pins, σ, H, cls, d, e, I, nb, up, sky, na, os, ag, w⟩ =>
  t u s' ⟨a, B, sI, pins, σ, H, cls, d, e, I, nb, up, sky, na, os, ag, w I.len⟩
/-- the clause of one class: return (word, e.value) -/
def hdOf (K : PySem.W.Frag) (p : Str × Str) : HdS := (.ref (He.ga K p.1), 1, fun a cls d => tRet (tTupN (tCons (tC (.str p.2)) (tCons (tXf a cls d (He.ga K p.1) "value" (tVar 1)) tNil))))
/-- what is wished of the error and of the end without one -/
def refX (K : PySem.W.Frag) (L : List (Str × Str)) (Q : VK) : XK := fun cls d H' => ∃ (p : Str × Str) (dd : Addr) (v : V), p ∈ L ∧ cls = .ref (He.ga K p.1) ∧ d = some dd ∧ H' dd = some (.xd [("value", v)]) ∧ ∀ t H2, H' t = none → Ex H' H2 → H2 t = some (.tup [.str p.2, v]) → Q (.ref t) H2
def TTref (K : PySem.W.Frag) (L : List (Str × Str)) (end_ : V) : (XK → Hp → VK → Prop) → Hp → VK → Prop := fun tl H Q =>
  tl (refX K L Q) H (fun _ H' => tTupN (tCons (tC (.str "")) (tCons (tC end_) tNil)) [] H' Q)
theorem wNamed_ref {K : PySem.W.Frag} {Wout : WX} {D : Ends} {σ : L2.St} (hσ : σ.length = 2) {H' : Hp} : ∀ {L M : List (Str × Str)} {cls : Value} {d : Option Addr},
    (∀ p ∈ L, ∀ p' ∈ L, PySem.W.exmOne K (.ref (He.ga K p.1)) (.ref (He.ga K p'.1)) = some (decide (p = p'))) → (∀ p ∈ M, p ∈ L) →
    (∃ (p : Str × Str) (dd : Addr) (v : V), p ∈ M ∧ p ∈ L ∧ cls = .ref (He.ga K p.1) ∧ d = some dd ∧ H' dd = some (.xd [("value", v)]) ∧ ∀ t H2, H' t = none → Ex H' H2 → H2 t = some (.tup [.str p.2, v]) → D.rt (.ref t) H2) →
    wNamed K Wout D (M.map (hdOf K)) cls d σ H'
  | L, [], cls, d, _, _, h => by
    obtain ⟨p, dd, v, hp, _⟩ := h
    cases hp
  | L, m :: M, cls, d, hx, hM, h => by
    obtain ⟨p, dd, v, hp, hpL, rfl, rfl, hd, q⟩ := h
    refine ⟨_, hx p hpL m (hM m List.mem_cons_self), fun hb a ha => ?_, fun hb => ?_⟩
    · have e := of_decide_eq_true hb
      subst e
      have hv : (σ.set 1 (some (V.ref a)))[1]? = some (some (.ref a)) := by
        rw [List.getElem?_set_self (by omega)]
      refine w_ret (w_tup (w_cons (w_c (w_cons ?_))))
      refine ⟨.ref a, hv, rfl, rfl, dd, _, v, rfl, hd, rfl, ?_⟩
      refine w_nil ⟨by simp, fun t H2 ht e2 h2 => q t H2 ht e2 h2⟩
    · have ne := of_decide_eq_false hb
      refine wNamed_ref hσ hx (fun p' hp' => hM p' (List.mem_cons_of_mem _ hp')) ⟨p, dd, v, ?_, hpL, rfl, rfl, hd, q⟩
      rcases List.mem_cons.mp hp with e | h
      · exact absurd e ne
      · exact h
end LW
/-! Heaps behind lambdas; a call that is refused, and its repr. -/
namespace LW
open PySem PySem.Spec PyProof.Rows L2 SX
abbrev ExtN := LamX.ExtN
theorem Ex.n {H H' : Hp} (e : Ex H H') : ExtN H H' := LamX.ExtN.of e
section
variable {K : PySem.W.Frag} {sc : Scr} {H H' : Hp} {r a : Addr} {xs : List V} {o : HO} {x : V} {n : String}
theorem extn_o (e : ExtN H H') (h : H a = some o) (hn : ∀ ps, o ≠ .tbl ps) : H' a = some o := e a o h hn
theorem extn_l (e : ExtN H H') (h : SqL K H a xs) : SqL K H' a xs := by
  rcases h with (h | ⟨o, h⟩) | h
  · exact .inl (.inl (e _ _ h (fun _ z => by cases z)))
  · exact .inl (.inr ⟨o, e _ _ h (fun _ z => by cases z)⟩)
  · exact .inr h
theorem extn_t (e : ExtN H H') (h : SqT K H a xs) : SqT K H' a xs := by
  rcases h with (h | ⟨o, h⟩) | h
  · exact .inl (.inl (e _ _ h (fun _ z => by cases z)))
  · exact .inl (.inr ⟨o, e _ _ h (fun _ z => by cases z)⟩)
  · exact .inr h
theorem RowOk.extn (h : RowOk K sc H r) (e : ExtN H H') : RowOk K sc H' r := by
  obtain ⟨i, m, c, R⟩ := h
  exact ⟨i, m, c, extn_o e R.at_ (fun _ z => by cases z), extn_l e R.sq, R.few, R.i0, R.m0, R.c0⟩
mutual
theorem extn_d (e : ExtN H H') : ∀ (d : PyData) (v : V), Dp K H v d → Dp K H' v d
  | .none, _, h => by cases h; exact .non
  | .bool b, _, h => by cases h; exact .bl b
  | .int i, _, h => by cases h; exact .int i
  | .str x, _, h => by cases h; exact .str x
  | .list ds, _, h => by
    cases h with
    | lst a b => exact .lst (extn_l e a) (extn_ds e ds _ b)
  | .tuple ds, _, h => by
    cases h with
    | tup a b => exact .tup (extn_t e a) (extn_ds e ds _ b)
  | .dict _, _, h => by cases h
theorem extn_ds (e : ExtN H H') : ∀ (ds : List PyData) (vs : List V), DpAll K H vs ds → DpAll K H' vs ds
  | [], _, h => by cases h; exact .nil
  | d :: ds, _, h => by
    cases h with
    | cons a b => exact .cons (extn_d e d _ a) (extn_ds e ds _ b)
end
theorem dp_kn : ∀ {d : PyData} {v : V}, Dp K H v d → ∃ n, Kn K H v n
  | .none, _, h => by cases h; exact ⟨_, kn_non⟩
  | .bool b, _, h => by cases h; exact ⟨_, kn_bl⟩
  | .int i, _, h => by cases h; exact ⟨_, kn_int⟩
  | .str x, _, h => by cases h; exact ⟨_, kn_str⟩
  | .list ds, _, h => by
    cases h with
    | lst a b => exact ⟨_, kn_sqL a⟩
  | .tuple ds, _, h => by
    cases h with
    | tup a b => exact ⟨_, kn_sqT a⟩
  | .dict _, _, h => by cases h
/-- the code tables stay where only the row is written -/
theorem tabs_exc {T : List (Addr × Str)} (t : LamX.Tabs T H) (h : RowOk K sc H r) (e : Exc r H H') : LamX.Tabs T H' := fun p hp => by
  obtain ⟨ps, h1, h2, h3⟩ := t p hp
  refine ⟨ps, h.keep e h1 (fun _ z => by cases z), h2, fun pos cv hc => ?_⟩
  obtain ⟨c, e1, e2⟩ := h3 pos cv hc
  exact ⟨c, e1, h.keep e e2 (fun _ z => by cases z)⟩
end
/-- data whose repr is to be had -/
def shows (d : PyData) : Bool := d.showable && !d.hasDict && decide (d.depth ≤ 32) && decide (d.shown.length ≤ 100000)
theorem v_repr {K : PySem.W.Frag} {H : Hp} {a : Addr} {d : PyData} {Q : VK} (h : Dp K H (.ref a) d) (g : shows d = true) (q : Q (.str d.shown) H) : rRepr K [.ref a] H Q := by
  unfold shows at g
  simp only [Bool.and_eq_true, decide_eq_true_eq, Bool.not_eq_true'] at g
  obtain ⟨⟨⟨g1, g2⟩, g3⟩, g4⟩ := g
  exact ⟨a, d, rfl, h, g1, g2, g3, Evl.sz_of g4, q⟩
section
variable {K : PySem.W.Frag} {H : Hp} {σ : L2.St} {T : List (Addr × Str)} {L : List (Str × Str)} {end_ : V} {tl : XK → TE} {Q : VK} {word : Str} {v : V} {d : PyData} {te2 : TE}
/-- an error of a listed class -/
theorem rz_ref {c : Str} (hp : (c, word) ∈ L) (q : ∀ t H3, Ex H H3 → H3 t = some (.tup [.str word, v]) → Q (.ref t) H3) : Rz K c v H (refX K L Q) := fun dd H2 nd e2 hd =>
  ⟨(c, word), dd, v, hp, rfl, rfl, hd, fun t H3 _ e3 h3 => q t H3 (e2.trans e3) h3⟩
/-- a lambda called that is refused -/
theorem lam_ref (hT : LamX.Tabs T H) (hcall : ∀ H1, ExtN H H1 → LamX.Tabs T H1 → ∀ R Q' : VK, (∀ t H3, Ex H1 H3 → H3 t = some (.tup [.str word, v]) → R (.ref t) H3) → tl (refX K L R) σ H1 Q')
    (q : ∀ t H', ExtN H H' → LamX.Tabs T H' → H' t = some (.tup [.str word, v]) → Q (.ref t) H') : LamX.tLam T (TTref K L end_) tl σ H Q :=
  ⟨hT, fun H1 e1 t1 => hcall H1 e1 t1 Q _ fun t H3 e3 h3 => q t H3 (e1.trans e3.n) (t1.ext e3) h3⟩
/-- repr of what it told against repr of what is due: alike -/
theorem ref_ne (hT : LamX.Tabs T H) (hd : Dp K H v d) (hs : shows (.tuple [.str word, d]) = true) (hte : ∀ H' (R : VK), R v H' → te2 σ H' R)
    (hcall : ∀ H1, ExtN H H1 → LamX.Tabs T H1 → ∀ R Q' : VK, (∀ t H3, Ex H1 H3 → H3 t = some (.tup [.str word, v]) → R (.ref t) H3) → tl (refX K L R) σ H1 Q')
    (q : ∀ H', ExtN H H' → LamX.Tabs T H' → Q (.bl false) H') :
    tOp rNe (tCB (rRepr K) (tCons (LamX.tLam T (TTref K L end_) tl) tNil)) (tCB (rRepr K) (tCons (tTupN (tCons (tC (.str word)) (tCons te2 tNil))) tNil)) σ H Q := by
  refine w_op (w_cb (w_cons (lam_ref hT hcall fun t H1 e1 t1 h1 => w_nil ?_)))
  refine v_repr (d := .tuple [.str word, d]) (.tup (st_of h1) (.cons (.str _) (.cons (extn_d e1 _ _ hd) .nil))) hs ?_
  refine w_cb (w_cons (w_tup (w_cons (w_c (w_cons (hte _ _ (w_nil ⟨by simp, fun p H2 np e2 h2 => w_nil ?_⟩)))))))
  refine v_repr (d := .tuple [.str word, d]) (.tup (st_of h2) (.cons (.str _) (.cons (extn_d (e1.trans e2.n) _ _ hd) .nil))) hs ?_
  refine v_neS ?_
  rw [decide_eq_true rfl]
  exact q H2 (e1.trans e2.n) (t1.ext e2)
end
end LW
local macro_rules | `(tactic| walk_at "s1") => `(tactic| with_reducible first
  | refine LW.w_seq ?_ | refine LW.w_set ?_ | refine LW.w_ret ?_ | refine LW.w_if ?_ | refine LW.w_next ?_ | refine LW.w_drop ?_ | refine LW.w_par ?_ | refine LW.w_retN ?_ | refine LW.w_brk ?_ | refine LW.w_cont ?_ | refine LW.w_asg ?_
  | refine LW.w_c ?_ | refine LW.w_op ?_ | refine LW.w_cons ?_ | refine LW.w_nil ?_ | refine LW.w_test ?_ | refine LW.w_B ?_ | refine LW.w_and ?_ | refine LW.w_or ?_ | refine LW.w_not ?_ | refine LW.w_yes ?_ | refine LW.w_tru ?_
  | refine LW.w_andV ?_ | refine LW.w_orV ?_ | refine LW.w_notV ?_ | refine LW.w_ifE ?_ | refine LW.w_cl ?_ | refine LW.w_cb ?_ | refine LW.w_tup ?_ | refine LW.w_lst ?_ | refine LW.w_sl ?_ | refine LW.w_noPart ?_ | refine LW.w_part ?_
  | refine LW.w_m1 ?_ | refine LW.w_bm ?_ | refine LW.w_chain ?_ | refine LW.w_un ?_
  | refine LW.v_I0 ?_ | refine LW.v_U ?_ | refine LW.v_eqI ?_ | refine LW.v_neI ?_ | refine LW.v_eqS ?_ | refine LW.v_neS ?_ | refine LW.v_eqB ?_ | refine LW.v_neB ?_ | refine LW.v_isN ?_ | refine LW.v_notN ?_ | refine LW.v_inS ?_ | refine LW.v_notInS ?_ | refine LW.v_int ?_ | refine LW.v_min2 ?_ | refine LW.v_max2 ?_
  | refine LW.iteT' ?_ | refine LW.iteF' ?_)
local macro_rules | `(tactic| walk_at "s2") => `(tactic| first
  | ((with_reducible refine' LW.w_var ?hv ?_); (case hv => rfl))
  | ((with_reducible refine' LW.w_aug ?hv ?_); (case hv => rfl))
  | (with_reducible refine LW.v_bl ?_) | (with_reducible refine LW.v_in ?_) | (with_reducible refine LW.v_st ?_) | (with_reducible refine LW.v_two ?_))
local macro_rules | `(tactic| walk_at "s") => `(tactic| first | walk_at "s1" | walk_at "s2" | walk_at "s3")
local macro_rules | `(tactic| walk_at "go") => `(tactic| ((try dsimp only [L2.cxOf]); (repeat (walk_at "s"; try dsimp only))))
local macro_rules | `(tactic| walk_at "up") => `(tactic| first
  | assumption
  | (refine LW.up_o (by assumption) ?_; walk_at "up")
  | (refine LW.up_l (by assumption) ?_; walk_at "up")
  | (refine LW.up_t (by assumption) ?_; walk_at "up")
  | (refine LW.up_d (by assumption) _ _ ?_; walk_at "up"))
local macro_rules | `(tactic| walk_at "s3") => `(tactic| with_reducible first
  | refine LW.w_for ?_ | refine LW.w_lc ?_ | refine LW.w_rng1 ?_ | refine LW.w_rng2 ?_ | refine LW.w_rng3 ?_ | refine LW.w_istr ?_ | refine LW.w_ilist ?_ | refine LW.w_itup ?_ | refine LW.w_izip ?_ | refine LW.w_gname ?_ | refine LW.w_gcons ?_ | refine LW.w_gnil ?_ | refine LW.w_gsub ?_)
local macro_rules | `(tactic| walk_at "open") => `(tactic| (refine ⟨_, rfl, fun D nD => ?_⟩))
namespace K34
open PySem PySem.Spec PyProof.Rows L2
/-! ### the text by places -/
def topS (i : Nat) : Stmt := PySem.Challenge.pw_leastroutes_k34_whole_ranges.main.body.getD i (.Pass ⟨0, 0, 0, 0⟩)
abbrev s_is_integer : Stmt := topS 2
abbrev s_is_within : Stmt := topS 3
abbrev s_is_bits : Stmt := topS 4
abbrev s_need_width : Stmt := topS 12
abbrev s_number_of : Stmt := topS 14
abbrev s_bits_told : Stmt := topS 15
abbrev s_need_number : Stmt := topS 16
abbrev s_address_of : Stmt := topS 17
abbrev s_range_of : Stmt := topS 18
abbrev s_blocks_between : Stmt := topS 19
abbrev s_range_blocks : Stmt := topS 20
abbrev s__law_taken : Stmt := topS 22
abbrev s__law_pick : Stmt := topS 23
abbrev s__law_alike : Stmt := topS 24
abbrev s__law_bits : Stmt := topS 25
abbrev s__law_binary : Stmt := topS 26
abbrev s__law_refused : Stmt := topS 27
abbrev s__law_big : Stmt := topS 28
abbrev s__law_range : Stmt := topS 29
abbrev s__law_refuses_ranges : Stmt := topS 30
abbrev s_law : Stmt := topS 31
abbrev s_RouteError_init : Stmt := inClass (topS 6) 0
theorem sc_is_integer : FnScope ["thing"] ["thing"] (defScope s_is_integer) := ⟨rfl, rfl, rfl, by decide +kernel, rfl, by decide +kernel, by decide +kernel⟩
theorem sc_is_within : FnScope ["thing", "least", "most"] ["thing", "least", "most"] (defScope s_is_within) := ⟨rfl, rfl, rfl, by decide +kernel, rfl, by decide +kernel, by decide +kernel⟩
theorem sc_is_bits : FnScope ["thing", "most", "sign"] ["thing", "most"] (defScope s_is_bits) := ⟨rfl, rfl, rfl, by decide +kernel, rfl, by decide +kernel, by decide +kernel⟩
theorem sc_need_width : FnScope ["width"] ["width"] (defScope s_need_width) := ⟨rfl, rfl, rfl, by decide +kernel, rfl, by decide +kernel, by decide +kernel⟩
theorem sc_number_of : FnScope ["address", "found", "sign"] ["address"] (defScope s_number_of) := ⟨rfl, rfl, rfl, by decide +kernel, rfl, by decide +kernel, by decide +kernel⟩
theorem sc_bits_told : FnScope ["number", "width", "place"] ["number", "width"] (defScope s_bits_told) := ⟨rfl, rfl, rfl, by decide +kernel, rfl, by decide +kernel, by decide +kernel⟩
theorem sc_need_number : FnScope ["number", "width"] ["number", "width"] (defScope s_need_number) := ⟨rfl, rfl, rfl, by decide +kernel, rfl, by decide +kernel, by decide +kernel⟩
theorem sc_address_of : FnScope ["number", "width"] ["number", "width"] (defScope s_address_of) := ⟨rfl, rfl, rfl, by decide +kernel, rfl, by decide +kernel, by decide +kernel⟩
theorem sc_range_of : FnScope ["prefix", "width", "low", "sign", "more"] ["prefix", "width"] (defScope s_range_of) := ⟨rfl, rfl, rfl, by decide +kernel, rfl, by decide +kernel, by decide +kernel⟩
theorem sc_blocks_between : FnScope ["low", "high", "width", "found", "more"] ["low", "high", "width"] (defScope s_blocks_between) := ⟨rfl, rfl, rfl, by decide +kernel, rfl, by decide +kernel, by decide +kernel⟩
theorem sc_range_blocks : FnScope ["low", "high", "width"] ["low", "high", "width"] (defScope s_range_blocks) := ⟨rfl, rfl, rfl, by decide +kernel, rfl, by decide +kernel, by decide +kernel⟩
theorem sc__law_taken : FnScope ["row", "many", "found", "cell"] ["row", "many"] (defScope s__law_taken) := ⟨rfl, rfl, rfl, by decide +kernel, rfl, by decide +kernel, by decide +kernel⟩
theorem sc__law_pick : FnScope ["row", "some"] ["row", "some"] (defScope s__law_pick) := ⟨rfl, rfl, rfl, by decide +kernel, rfl, by decide +kernel, by decide +kernel⟩
theorem sc__law_alike : FnScope ["found", "due", "k", "key"] ["found", "due"] (defScope s__law_alike) := ⟨rfl, rfl, rfl, by decide +kernel, rfl, by decide +kernel, by decide +kernel⟩
theorem sc__law_bits : FnScope ["row", "most", "many", "k"] ["row", "most"] (defScope s__law_bits) := ⟨rfl, rfl, rfl, by decide +kernel, rfl, by decide +kernel, by decide +kernel⟩
theorem sc__law_binary : FnScope ["number", "many", "k"] ["number", "many"] (defScope s__law_binary) := ⟨rfl, rfl, rfl, by decide +kernel, rfl, by decide +kernel, by decide +kernel⟩
theorem sc__law_refused : FnScope ["ask", "e"] ["ask"] (defScope s__law_refused) := ⟨rfl, rfl, rfl, by decide +kernel, rfl, by decide +kernel, by decide +kernel⟩
theorem sc__law_big : FnScope ["row", "width", "found", "k"] ["row", "width"] (defScope s__law_big) := ⟨rfl, rfl, rfl, by decide +kernel, rfl, by decide +kernel, by decide +kernel⟩
theorem sc__law_range : FnScope ["prefix", "width", "low", "sign"] ["prefix", "width"] (defScope s__law_range) := ⟨rfl, rfl, rfl, by decide +kernel, rfl, by decide +kernel, by decide +kernel⟩
theorem sc__law_refuses_ranges : FnScope ["row", "width", "most", "wrong", "bad", "ask", "told", "odd"] ["row", "width", "most"] (defScope s__law_refuses_ranges) := ⟨rfl, rfl, rfl, by decide +kernel, rfl, by decide +kernel, by decide +kernel⟩
theorem sc_law : FnScope ["script", "row", "width", "most", "low", "high", "blocks", "at", "block", "first", "last", "one", "two", "number", "address", "prefix"] ["script"] (defScope s_law) := ⟨rfl, rfl, rfl, by decide +kernel, rfl, by decide +kernel, by decide +kernel⟩
theorem sc_RouteError_init : FnScope ["self", "value"] ["self", "value"] (defScope s_RouteError_init) := ⟨rfl, rfl, rfl, by decide +kernel, rfl, by decide +kernel, by decide +kernel⟩
/-! ### the head's facts -/
def d_is_integer : He.DefD := ⟨("is_integer", none), "is_integer", "is_integer", defArgs s_is_integer, defBody s_is_integer, defScope s_is_integer, [], []⟩
def d_is_within : He.DefD := ⟨("is_within", none), "is_within", "is_within", defArgs s_is_within, defBody s_is_within, defScope s_is_within, [], []⟩
def d_is_bits : He.DefD := ⟨("is_bits", none), "is_bits", "is_bits", defArgs s_is_bits, defBody s_is_bits, defScope s_is_bits, [], []⟩
def d_need_width : He.DefD := ⟨("need_width", none), "need_width", "need_width", defArgs s_need_width, defBody s_need_width, defScope s_need_width, [], []⟩
def d_number_of : He.DefD := ⟨("number_of", none), "number_of", "number_of", defArgs s_number_of, defBody s_number_of, defScope s_number_of, [], []⟩
def d_bits_told : He.DefD := ⟨("bits_told", none), "bits_told", "bits_told", defArgs s_bits_told, defBody s_bits_told, defScope s_bits_told, [], []⟩
def d_need_number : He.DefD := ⟨("need_number", none), "need_number", "need_number", defArgs s_need_number, defBody s_need_number, defScope s_need_number, [], []⟩
def d_address_of : He.DefD := ⟨("address_of", none), "address_of", "address_of", defArgs s_address_of, defBody s_address_of, defScope s_address_of, [], []⟩
def d_range_of : He.DefD := ⟨("range_of", none), "range_of", "range_of", defArgs s_range_of, defBody s_range_of, defScope s_range_of, [], []⟩
def d_blocks_between : He.DefD := ⟨("blocks_between", none), "blocks_between", "blocks_between", defArgs s_blocks_between, defBody s_blocks_between, defScope s_blocks_between, [], []⟩
def d_range_blocks : He.DefD := ⟨("range_blocks", none), "range_blocks", "range_blocks", defArgs s_range_blocks, defBody s_range_blocks, defScope s_range_blocks, [], []⟩
def d__law_taken : He.DefD := ⟨("_law_taken", none), "_law_taken", "_law_taken", defArgs s__law_taken, defBody s__law_taken, defScope s__law_taken, [], []⟩
def d__law_pick : He.DefD := ⟨("_law_pick", none), "_law_pick", "_law_pick", defArgs s__law_pick, defBody s__law_pick, defScope s__law_pick, [], []⟩
def d__law_alike : He.DefD := ⟨("_law_alike", none), "_law_alike", "_law_alike", defArgs s__law_alike, defBody s__law_alike, defScope s__law_alike, [], []⟩
def d__law_bits : He.DefD := ⟨("_law_bits", none), "_law_bits", "_law_bits", defArgs s__law_bits, defBody s__law_bits, defScope s__law_bits, [], []⟩
def d__law_binary : He.DefD := ⟨("_law_binary", none), "_law_binary", "_law_binary", defArgs s__law_binary, defBody s__law_binary, defScope s__law_binary, [], []⟩
def d__law_refused : He.DefD := ⟨("_law_refused", none), "_law_refused", "_law_refused", defArgs s__law_refused, defBody s__law_refused, defScope s__law_refused, [], []⟩
def d__law_big : He.DefD := ⟨("_law_big", none), "_law_big", "_law_big", defArgs s__law_big, defBody s__law_big, defScope s__law_big, [], []⟩
def d__law_range : He.DefD := ⟨("_law_range", none), "_law_range", "_law_range", defArgs s__law_range, defBody s__law_range, defScope s__law_range, [], []⟩
def d__law_refuses_ranges : He.DefD := ⟨("_law_refuses_ranges", none), "_law_refuses_ranges", "_law_refuses_ranges", defArgs s__law_refuses_ranges, defBody s__law_refuses_ranges, defScope s__law_refuses_ranges, [], []⟩
def d_law : He.DefD := ⟨("law", none), "law", "law", defArgs s_law, defBody s_law, defScope s_law, [], []⟩
def d_RouteError_init : He.DefD := ⟨("RouteError", some "__init__"), "__init__", "RouteError.__init__", defArgs s_RouteError_init, defBody s_RouteError_init, defScope s_RouteError_init, [.non], []⟩
def fn : List He.DefD := [d_is_integer, d_is_within, d_is_bits, d_need_width, d_number_of, d_bits_told, d_need_number, d_address_of, d_range_of, d_blocks_between, d_range_blocks, d__law_taken, d__law_pick, d__law_alike, d__law_bits, d__law_binary, d__law_refused, d__law_big, d__law_range, d__law_refuses_ranges, d_law, d_RouteError_init]
def fa : List He.Fa := [.glo "is_integer", .glo "is_within", .glo "is_bits", .glo "RouteError", .glo "BadAddress", .glo "BadPrefix", .glo "BadWidth", .glo "BadNumber", .glo "need_width", .glo "number_of", .glo "bits_told", .glo "need_number", .glo "address_of", .glo "range_of", .glo "blocks_between", .glo "range_blocks", .glo "_law_taken", .glo "_law_pick", .glo "_law_alike", .glo "_law_bits", .glo "_law_binary", .glo "_law_refused", .glo "_law_big", .glo "_law_range", .glo "_law_refuses_ranges", .glo "law", .free "ValueError", .free "all", .free "bool", .free "dict", .free "int", .free "isinstance", .free "len", .free "list", .free "max", .free "min", .free "range", .free "repr", .free "sorted", .free "str", .free "tuple", .free "zip", .int "MOST_BITS" 64, .exm "BadAddress" "BadWidth" false, .exm "BadAddress" "BadNumber" false, .exm "BadAddress" "BadPrefix" false, .exm "BadAddress" "BadAddress" true, .exm "BadPrefix" "BadWidth" false, .exm "BadPrefix" "BadNumber" false, .exm "BadPrefix" "BadPrefix" true, .exm "BadPrefix" "BadAddress" false, .exm "BadWidth" "BadWidth" true, .exm "BadWidth" "BadNumber" false, .exm "BadWidth" "BadPrefix" false, .exm "BadWidth" "BadAddress" false, .exm "BadNumber" "BadWidth" false, .exm "BadNumber" "BadNumber" true, .exm "BadNumber" "BadPrefix" false, .exm "BadNumber" "BadAddress" false]
def tf : List He.Defn := [("_law_refuses_ranges", none)]
def exB (K : PySem.W.Frag) : Bool := (LW.xcB K "RouteError" "BadAddress") && (LW.xcB K "RouteError" "BadPrefix") && (LW.xcB K "RouteError" "BadWidth") && (LW.xcB K "RouteError" "BadNumber")
abbrev R : PySem.W.OpenRow := PySem.W.OpenLaw.row PySem.Challenge.rw_leastroutes_k34_whole_ranges
abbrev hk : PySem.W.Hook := He.hookX 5 fa fn [] tf exB
def ob (s : PySem.W.SharedT) : He.AlX := He.obsX 5 fa fn [] tf exB (HandSHeadRun.getT s)
theorem ob_eq (s : PySem.W.SharedT) : ob s = hk.obs s.abs := He.obsX_eq (HandSHeadRun.getT_eq s)
def loose : List PySem.Str := (["MOST_BITS", "is_integer", "is_within", "is_bits", "RouteError", "BadAddress", "BadPrefix", "BadWidth", "BadNumber", "need_width", "number_of", "bits_told", "need_number", "address_of", "range_of", "blocks_between", "range_blocks", "_law_taken", "_law_pick", "_law_alike", "_law_bits", "_law_binary", "_law_refused", "_law_big", "_law_range", "_law_refuses_ranges"] : List PySem.Str)
theorem run (w : World) : HandSHeadRun.RunEq R (PySem.W.view R.prog [31]) hk ob 8000 loose w := by
  intro os
  kernel_rfl
/-! ### what the top leaves -/
structure Txt (K : PySem.W.Frag) (mg : Str → Option Value) : Prop where
  g_is_integer : mg "is_integer" = some (.ref (He.ga K "is_integer"))
  g_is_within : mg "is_within" = some (.ref (He.ga K "is_within"))
  g_is_bits : mg "is_bits" = some (.ref (He.ga K "is_bits"))
  g_RouteError : mg "RouteError" = some (.ref (He.ga K "RouteError"))
  g_BadAddress : mg "BadAddress" = some (.ref (He.ga K "BadAddress"))
  g_BadPrefix : mg "BadPrefix" = some (.ref (He.ga K "BadPrefix"))
  g_BadWidth : mg "BadWidth" = some (.ref (He.ga K "BadWidth"))
  g_BadNumber : mg "BadNumber" = some (.ref (He.ga K "BadNumber"))
  g_need_width : mg "need_width" = some (.ref (He.ga K "need_width"))
  g_number_of : mg "number_of" = some (.ref (He.ga K "number_of"))
  g_bits_told : mg "bits_told" = some (.ref (He.ga K "bits_told"))
  g_need_number : mg "need_number" = some (.ref (He.ga K "need_number"))
  g_address_of : mg "address_of" = some (.ref (He.ga K "address_of"))
  g_range_of : mg "range_of" = some (.ref (He.ga K "range_of"))
  g_blocks_between : mg "blocks_between" = some (.ref (He.ga K "blocks_between"))
  g_range_blocks : mg "range_blocks" = some (.ref (He.ga K "range_blocks"))
  g__law_taken : mg "_law_taken" = some (.ref (He.ga K "_law_taken"))
  g__law_pick : mg "_law_pick" = some (.ref (He.ga K "_law_pick"))
  g__law_alike : mg "_law_alike" = some (.ref (He.ga K "_law_alike"))
  g__law_bits : mg "_law_bits" = some (.ref (He.ga K "_law_bits"))
  g__law_binary : mg "_law_binary" = some (.ref (He.ga K "_law_binary"))
  g__law_refused : mg "_law_refused" = some (.ref (He.ga K "_law_refused"))
  g__law_big : mg "_law_big" = some (.ref (He.ga K "_law_big"))
  g__law_range : mg "_law_range" = some (.ref (He.ga K "_law_range"))
  g__law_refuses_ranges : mg "_law_refuses_ranges" = some (.ref (He.ga K "_law_refuses_ranges"))
  g_law : mg "law" = some (.ref (He.ga K "law"))
  b_ValueError : mg "ValueError" = none
  b_all : mg "all" = none
  b_bool : mg "bool" = none
  b_dict : mg "dict" = none
  b_int : mg "int" = none
  b_isinstance : mg "isinstance" = none
  b_len : mg "len" = none
  b_list : mg "list" = none
  b_max : mg "max" = none
  b_min : mg "min" = none
  b_range : mg "range" = none
  b_repr : mg "repr" = none
  b_sorted : mg "sorted" = none
  b_str : mg "str" = none
  b_tuple : mg "tuple" = none
  b_zip : mg "zip" = none
  c_MOST_BITS : ∃ u, mg "MOST_BITS" = some u ∧ RelV (.int 64) u
  e_BadAddress : LW.XcF K mg "RouteError" "BadAddress"
  m_BadAddress_BadWidth : PySem.W.exmOne K (.ref (He.ga K "BadAddress")) (.ref (He.ga K "BadWidth")) = some false
  m_BadAddress_BadNumber : PySem.W.exmOne K (.ref (He.ga K "BadAddress")) (.ref (He.ga K "BadNumber")) = some false
  m_BadAddress_BadPrefix : PySem.W.exmOne K (.ref (He.ga K "BadAddress")) (.ref (He.ga K "BadPrefix")) = some false
  m_BadAddress_BadAddress : PySem.W.exmOne K (.ref (He.ga K "BadAddress")) (.ref (He.ga K "BadAddress")) = some true
  e_BadPrefix : LW.XcF K mg "RouteError" "BadPrefix"
  m_BadPrefix_BadWidth : PySem.W.exmOne K (.ref (He.ga K "BadPrefix")) (.ref (He.ga K "BadWidth")) = some false
  m_BadPrefix_BadNumber : PySem.W.exmOne K (.ref (He.ga K "BadPrefix")) (.ref (He.ga K "BadNumber")) = some false
  m_BadPrefix_BadPrefix : PySem.W.exmOne K (.ref (He.ga K "BadPrefix")) (.ref (He.ga K "BadPrefix")) = some true
  m_BadPrefix_BadAddress : PySem.W.exmOne K (.ref (He.ga K "BadPrefix")) (.ref (He.ga K "BadAddress")) = some false
  e_BadWidth : LW.XcF K mg "RouteError" "BadWidth"
  m_BadWidth_BadWidth : PySem.W.exmOne K (.ref (He.ga K "BadWidth")) (.ref (He.ga K "BadWidth")) = some true
  m_BadWidth_BadNumber : PySem.W.exmOne K (.ref (He.ga K "BadWidth")) (.ref (He.ga K "BadNumber")) = some false
  m_BadWidth_BadPrefix : PySem.W.exmOne K (.ref (He.ga K "BadWidth")) (.ref (He.ga K "BadPrefix")) = some false
  m_BadWidth_BadAddress : PySem.W.exmOne K (.ref (He.ga K "BadWidth")) (.ref (He.ga K "BadAddress")) = some false
  e_BadNumber : LW.XcF K mg "RouteError" "BadNumber"
  m_BadNumber_BadWidth : PySem.W.exmOne K (.ref (He.ga K "BadNumber")) (.ref (He.ga K "BadWidth")) = some false
  m_BadNumber_BadNumber : PySem.W.exmOne K (.ref (He.ga K "BadNumber")) (.ref (He.ga K "BadNumber")) = some true
  m_BadNumber_BadPrefix : PySem.W.exmOne K (.ref (He.ga K "BadNumber")) (.ref (He.ga K "BadPrefix")) = some false
  m_BadNumber_BadAddress : PySem.W.exmOne K (.ref (He.ga K "BadNumber")) (.ref (He.ga K "BadAddress")) = some false
  f_is_integer : ∃ fd, FunD K "is_integer" "is_integer" (defArgs s_is_integer) (defBody s_is_integer) (defScope s_is_integer) [] [] (He.fAd K ("is_integer", none)) fd
  f_is_within : ∃ fd, FunD K "is_within" "is_within" (defArgs s_is_within) (defBody s_is_within) (defScope s_is_within) [] [] (He.fAd K ("is_within", none)) fd
  f_is_bits : ∃ fd, FunD K "is_bits" "is_bits" (defArgs s_is_bits) (defBody s_is_bits) (defScope s_is_bits) [] [] (He.fAd K ("is_bits", none)) fd
  f_need_width : ∃ fd, FunD K "need_width" "need_width" (defArgs s_need_width) (defBody s_need_width) (defScope s_need_width) [] [] (He.fAd K ("need_width", none)) fd
  f_number_of : ∃ fd, FunD K "number_of" "number_of" (defArgs s_number_of) (defBody s_number_of) (defScope s_number_of) [] [] (He.fAd K ("number_of", none)) fd
  f_bits_told : ∃ fd, FunD K "bits_told" "bits_told" (defArgs s_bits_told) (defBody s_bits_told) (defScope s_bits_told) [] [] (He.fAd K ("bits_told", none)) fd
  f_need_number : ∃ fd, FunD K "need_number" "need_number" (defArgs s_need_number) (defBody s_need_number) (defScope s_need_number) [] [] (He.fAd K ("need_number", none)) fd
  f_address_of : ∃ fd, FunD K "address_of" "address_of" (defArgs s_address_of) (defBody s_address_of) (defScope s_address_of) [] [] (He.fAd K ("address_of", none)) fd
  f_range_of : ∃ fd, FunD K "range_of" "range_of" (defArgs s_range_of) (defBody s_range_of) (defScope s_range_of) [] [] (He.fAd K ("range_of", none)) fd
  f_blocks_between : ∃ fd, FunD K "blocks_between" "blocks_between" (defArgs s_blocks_between) (defBody s_blocks_between) (defScope s_blocks_between) [] [] (He.fAd K ("blocks_between", none)) fd
  f_range_blocks : ∃ fd, FunD K "range_blocks" "range_blocks" (defArgs s_range_blocks) (defBody s_range_blocks) (defScope s_range_blocks) [] [] (He.fAd K ("range_blocks", none)) fd
  f__law_taken : ∃ fd, FunD K "_law_taken" "_law_taken" (defArgs s__law_taken) (defBody s__law_taken) (defScope s__law_taken) [] [] (He.fAd K ("_law_taken", none)) fd
  f__law_pick : ∃ fd, FunD K "_law_pick" "_law_pick" (defArgs s__law_pick) (defBody s__law_pick) (defScope s__law_pick) [] [] (He.fAd K ("_law_pick", none)) fd
  f__law_alike : ∃ fd, FunD K "_law_alike" "_law_alike" (defArgs s__law_alike) (defBody s__law_alike) (defScope s__law_alike) [] [] (He.fAd K ("_law_alike", none)) fd
  f__law_bits : ∃ fd, FunD K "_law_bits" "_law_bits" (defArgs s__law_bits) (defBody s__law_bits) (defScope s__law_bits) [] [] (He.fAd K ("_law_bits", none)) fd
  f__law_binary : ∃ fd, FunD K "_law_binary" "_law_binary" (defArgs s__law_binary) (defBody s__law_binary) (defScope s__law_binary) [] [] (He.fAd K ("_law_binary", none)) fd
  f__law_refused : ∃ fd, FunD K "_law_refused" "_law_refused" (defArgs s__law_refused) (defBody s__law_refused) (defScope s__law_refused) [] [] (He.fAd K ("_law_refused", none)) fd
  f__law_big : ∃ fd, FunD K "_law_big" "_law_big" (defArgs s__law_big) (defBody s__law_big) (defScope s__law_big) [] [] (He.fAd K ("_law_big", none)) fd
  f__law_range : ∃ fd, FunD K "_law_range" "_law_range" (defArgs s__law_range) (defBody s__law_range) (defScope s__law_range) [] [] (He.fAd K ("_law_range", none)) fd
  f__law_refuses_ranges : ∃ fd, FunD K "_law_refuses_ranges" "_law_refuses_ranges" (defArgs s__law_refuses_ranges) (defBody s__law_refuses_ranges) (defScope s__law_refuses_ranges) [] [] (He.fAd K ("_law_refuses_ranges", none)) fd
  f_law : ∃ fd, FunD K "law" "law" (defArgs s_law) (defBody s_law) (defScope s_law) [] [] (He.fAd K ("law", none)) fd
  f_RouteError_init : ∃ fd, FunD K "__init__" "RouteError.__init__" (defArgs s_RouteError_init) (defBody s_RouteError_init) (defScope s_RouteError_init) [V.non] [] (He.fAd K ("RouteError", some "__init__")) fd
theorem txt_of {w : World} {h : Heap} {K : PySem.W.Frag} {mg : Str → Option Value} (X : K.In h) (G : h.Ns mainGlobals mg) (c : He.SaysX fa fn [] tf exB w h K) : Txt K mg := by
  have cm : exB K = true := c.more
  simp only [exB, Bool.and_eq_true] at cm
  obtain ⟨⟨⟨h0, h1⟩, h2⟩, h3⟩ := cm
  exact ⟨He.glo_ok X G (c.t.d.fact 0 (f := .glo "is_integer") rfl), He.glo_ok X G (c.t.d.fact 1 (f := .glo "is_within") rfl), He.glo_ok X G (c.t.d.fact 2 (f := .glo "is_bits") rfl), He.glo_ok X G (c.t.d.fact 3 (f := .glo "RouteError") rfl), He.glo_ok X G (c.t.d.fact 4 (f := .glo "BadAddress") rfl), He.glo_ok X G (c.t.d.fact 5 (f := .glo "BadPrefix") rfl), He.glo_ok X G (c.t.d.fact 6 (f := .glo "BadWidth") rfl), He.glo_ok X G (c.t.d.fact 7 (f := .glo "BadNumber") rfl), He.glo_ok X G (c.t.d.fact 8 (f := .glo "need_width") rfl), He.glo_ok X G (c.t.d.fact 9 (f := .glo "number_of") rfl), He.glo_ok X G (c.t.d.fact 10 (f := .glo "bits_told") rfl), He.glo_ok X G (c.t.d.fact 11 (f := .glo "need_number") rfl), He.glo_ok X G (c.t.d.fact 12 (f := .glo "address_of") rfl), He.glo_ok X G (c.t.d.fact 13 (f := .glo "range_of") rfl), He.glo_ok X G (c.t.d.fact 14 (f := .glo "blocks_between") rfl), He.glo_ok X G (c.t.d.fact 15 (f := .glo "range_blocks") rfl), He.glo_ok X G (c.t.d.fact 16 (f := .glo "_law_taken") rfl), He.glo_ok X G (c.t.d.fact 17 (f := .glo "_law_pick") rfl), He.glo_ok X G (c.t.d.fact 18 (f := .glo "_law_alike") rfl), He.glo_ok X G (c.t.d.fact 19 (f := .glo "_law_bits") rfl), He.glo_ok X G (c.t.d.fact 20 (f := .glo "_law_binary") rfl), He.glo_ok X G (c.t.d.fact 21 (f := .glo "_law_refused") rfl), He.glo_ok X G (c.t.d.fact 22 (f := .glo "_law_big") rfl), He.glo_ok X G (c.t.d.fact 23 (f := .glo "_law_range") rfl), He.glo_ok X G (c.t.d.fact 24 (f := .glo "_law_refuses_ranges") rfl), He.glo_ok X G (c.t.d.fact 25 (f := .glo "law") rfl), He.free_ok X G (c.t.d.fact 26 (f := .free "ValueError") rfl), He.free_ok X G (c.t.d.fact 27 (f := .free "all") rfl), He.free_ok X G (c.t.d.fact 28 (f := .free "bool") rfl), He.free_ok X G (c.t.d.fact 29 (f := .free "dict") rfl), He.free_ok X G (c.t.d.fact 30 (f := .free "int") rfl), He.free_ok X G (c.t.d.fact 31 (f := .free "isinstance") rfl), He.free_ok X G (c.t.d.fact 32 (f := .free "len") rfl), He.free_ok X G (c.t.d.fact 33 (f := .free "list") rfl), He.free_ok X G (c.t.d.fact 34 (f := .free "max") rfl), He.free_ok X G (c.t.d.fact 35 (f := .free "min") rfl), He.free_ok X G (c.t.d.fact 36 (f := .free "range") rfl), He.free_ok X G (c.t.d.fact 37 (f := .free "repr") rfl), He.free_ok X G (c.t.d.fact 38 (f := .free "sorted") rfl), He.free_ok X G (c.t.d.fact 39 (f := .free "str") rfl), He.free_ok X G (c.t.d.fact 40 (f := .free "tuple") rfl), He.free_ok X G (c.t.d.fact 41 (f := .free "zip") rfl), LW.int_of (He.int_ok X G (c.t.d.fact 42 (f := .int "MOST_BITS" 64) rfl)), ⟨He.glo_ok X G (c.t.d.fact 4 (f := .glo "BadAddress") rfl), LW.xcB_ok (h0)⟩, He.exm_ok (c.t.d.fact 43 (f := .exm "BadAddress" "BadWidth" false) rfl), He.exm_ok (c.t.d.fact 44 (f := .exm "BadAddress" "BadNumber" false) rfl), He.exm_ok (c.t.d.fact 45 (f := .exm "BadAddress" "BadPrefix" false) rfl), He.exm_ok (c.t.d.fact 46 (f := .exm "BadAddress" "BadAddress" true) rfl), ⟨He.glo_ok X G (c.t.d.fact 5 (f := .glo "BadPrefix") rfl), LW.xcB_ok (h1)⟩, He.exm_ok (c.t.d.fact 47 (f := .exm "BadPrefix" "BadWidth" false) rfl), He.exm_ok (c.t.d.fact 48 (f := .exm "BadPrefix" "BadNumber" false) rfl), He.exm_ok (c.t.d.fact 49 (f := .exm "BadPrefix" "BadPrefix" true) rfl), He.exm_ok (c.t.d.fact 50 (f := .exm "BadPrefix" "BadAddress" false) rfl), ⟨He.glo_ok X G (c.t.d.fact 6 (f := .glo "BadWidth") rfl), LW.xcB_ok (h2)⟩, He.exm_ok (c.t.d.fact 51 (f := .exm "BadWidth" "BadWidth" true) rfl), He.exm_ok (c.t.d.fact 52 (f := .exm "BadWidth" "BadNumber" false) rfl), He.exm_ok (c.t.d.fact 53 (f := .exm "BadWidth" "BadPrefix" false) rfl), He.exm_ok (c.t.d.fact 54 (f := .exm "BadWidth" "BadAddress" false) rfl), ⟨He.glo_ok X G (c.t.d.fact 7 (f := .glo "BadNumber") rfl), LW.xcB_ok (h3)⟩, He.exm_ok (c.t.d.fact 55 (f := .exm "BadNumber" "BadWidth" false) rfl), He.exm_ok (c.t.d.fact 56 (f := .exm "BadNumber" "BadNumber" true) rfl), He.exm_ok (c.t.d.fact 57 (f := .exm "BadNumber" "BadPrefix" false) rfl), He.exm_ok (c.t.d.fact 58 (f := .exm "BadNumber" "BadAddress" false) rfl), c.t.d.def_ 0 (d := d_is_integer) rfl, c.t.d.def_ 1 (d := d_is_within) rfl, c.t.d.def_ 2 (d := d_is_bits) rfl, c.t.d.def_ 3 (d := d_need_width) rfl, c.t.d.def_ 4 (d := d_number_of) rfl, c.t.d.def_ 5 (d := d_bits_told) rfl, c.t.d.def_ 6 (d := d_need_number) rfl, c.t.d.def_ 7 (d := d_address_of) rfl, c.t.d.def_ 8 (d := d_range_of) rfl, c.t.d.def_ 9 (d := d_blocks_between) rfl, c.t.d.def_ 10 (d := d_range_blocks) rfl, c.t.d.def_ 11 (d := d__law_taken) rfl, c.t.d.def_ 12 (d := d__law_pick) rfl, c.t.d.def_ 13 (d := d__law_alike) rfl, c.t.d.def_ 14 (d := d__law_bits) rfl, c.t.d.def_ 15 (d := d__law_binary) rfl, c.t.d.def_ 16 (d := d__law_refused) rfl, c.t.d.def_ 17 (d := d__law_big) rfl, c.t.d.def_ 18 (d := d__law_range) rfl, c.t.d.def_ 19 (d := d__law_refuses_ranges) rfl, c.t.d.def_ 20 (d := d_law) rfl, c.t.d.def_ 21 (d := d_RouteError_init) rfl⟩
end K34
namespace K34
open PySem PySem.Spec PyProof.Rows L2 LW SX
/-- the codes of n's last w binary digits -/
def bitsL (n w : Nat) : List Nat := (List.range w).map fun i => 48 + n / 2 ^ (w - 1 - i) % 2
def valL (l : List Nat) : Nat := l.foldl (fun a c => 2 * a + (c - 48)) 0
def spBitsTold : Sp := fun vs H Q _ => ∃ (n w : Nat), vs = [.int (n : Int), .int (w : Int)] ∧ w ≤ 1000 ∧ ∀ H', Ex H H' → Q (.str (S (bitsL n w))) H'
def spNeedNumber (K : PySem.W.Frag) : Sp := fun vs H Q E => ∃ (x : V) (n : String) (w : Nat), vs = [x, .int (w : Int)] ∧ Kn K H x n ∧ w ≤ 1000 ∧ (within x 0 (2 ^ w - 1) = true → Q .non H) ∧ (within x 0 (2 ^ w - 1) = false → Rz K "BadNumber" x H E)
def spAddressOf (K : PySem.W.Frag) : Sp := fun vs H Q E => ∃ (x y : V) (n m : String), vs = [x, y] ∧ Kn K H x n ∧ Kn K H y m ∧ (within y 1 64 = false → Rz K "BadWidth" y H E) ∧
  ∀ w : Nat, y = .int (w : Int) → 1 ≤ w → w ≤ 64 → (within x 0 (2 ^ w - 1) = false → Rz K "BadNumber" x H E) ∧ ∀ k : Nat, x = .int (k : Int) → k < 2 ^ w → ∀ H', Ex H H' → Q (.str (S (bitsL k w))) H'
def spNumberOf (K : PySem.W.Frag) : Sp := fun vs H Q E => ∃ (x : V) (n : String), vs = [x] ∧ Kn K H x n ∧ (∀ z, x = .str z → z.length ≤ 100000) ∧ ((bits x 64 = false ∨ x = .str (S [])) → Rz K "BadAddress" x H E) ∧
  (bits x 64 = true → ∀ l, x = .str (S l) → l ≠ [] → ∀ H', Ex H H' → Q (.int (valL l : Nat)) H')
def spRangeOf (K : PySem.W.Frag) : Sp := fun vs H Q E => ∃ (x y : V) (n m : String), vs = [x, y] ∧ Kn K H x n ∧ Kn K H y m ∧ (∀ z, x = .str z → z.length ≤ 100000) ∧ (within y 1 64 = false → Rz K "BadWidth" y H E) ∧
  ∀ w : Nat, y = .int (w : Int) → 1 ≤ w → w ≤ 64 → (bits x w = false → Rz K "BadPrefix" x H E) ∧
    (bits x w = true → ∀ l, x = .str (S l) → ∀ t H', H t = none → Ex H H' → H' t = some (.tup [.int ((valL l * 2 ^ (w - l.length) : Nat) : Int), .int (((valL l + 1) * 2 ^ (w - l.length) : Nat) - 1 : Int)]) → Q (.ref t) H')
theorem str01 (b : Nat) (h : b < 2) : (toString ((b : Nat) : Int) : Str) = S [48 + b] := by
  have : b = 0 ∨ b = 1 := by omega
  rcases this with rfl | rfl <;> rfl
theorem int01 (c : Nat) (h : isBit c = true) : PySem.intText? (S [c]) = some ((c - 48 : Nat) : Int) := by
  have : c = 48 ∨ c = 49 := by simpa [isBit] using h
  rcases this with rfl | rfl <;> decide +kernel
theorem valL_snoc (l : List Nat) (c : Nat) : valL (l ++ [c]) = 2 * valL l + (c - 48) := by
  unfold valL
  rw [List.foldl_append]
  rfl
theorem take_snoc {l : List Nat} {i : Nat} {c : Nat} (h : l[i]? = some c) : l.take (i + 1) = l.take i ++ [c] := by
  rw [List.take_add_one, h]
  rfl
theorem bit_le {c : Nat} (h : isBit c = true) : c - 48 ≤ 1 := by
  have : c = 48 ∨ c = 49 := by simpa [isBit] using h
  omega
theorem val_take_lt {l : List Nat} (h : l.all isBit = true) : ∀ i, i ≤ l.length → valL (l.take i) < 2 ^ i
  | 0, _ => by simp [valL]
  | i + 1, hi => by
    have ih := val_take_lt h i (by omega)
    obtain ⟨c, hc⟩ : ∃ c, l[i]? = some c := ⟨_, List.getElem?_eq_getElem (by omega)⟩
    rw [take_snoc hc, valL_snoc, Nat.pow_succ]
    have := bit_le (List.all_eq_true.mp h c (List.mem_of_getElem? hc))
    omega
theorem val_lt {l : List Nat} (h : l.all isBit = true) : valL l < 2 ^ l.length := by
  have := val_take_lt h l.length (Nat.le_refl _)
  rw [List.take_length] at this
  exact this
theorem v_dbl {n : Nat} {H : Hp} {Q : VK} (hn : n < 2 ^ 100) (h : Q (.int ((2 * n : Nat) : Int)) H) : rMulW (.int 2) (.int (n : Int)) H Q := by
  refine ⟨2, n, rfl, rfl, wide_mul (a := 64) (b := 100) (by decide) (by omega) (by decide) (by decide) (by decide), ?_⟩
  have e : (2 : Int) * (n : Int) = ((2 * n : Nat) : Int) := by omega
  show Q (.int ((2 : Int) * (n : Int))) H
  rw [e]
  exact h
end K34
namespace M34
/-! the greedy blocks of a range: (start, exponent) -/
/-- how far the exponent grows: fuel n, from m -/
def grow (w lo hi : Nat) : Nat → Nat → Nat
  | 0, m => m
  | n + 1, m => if m < w ∧ lo % 2 ^ (m + 1) = 0 ∧ lo + 2 ^ (m + 1) ≤ hi + 1 then grow w lo hi n (m + 1) else m
def ex (w lo hi : Nat) : Nat := grow w lo hi (w + 1) 0
def blks (w hi : Nat) : Nat → Nat → List (Nat × Nat)
  | 0, _ => []
  | n + 1, lo => if lo ≤ hi then (lo, ex w lo hi) :: blks w hi n (lo + 2 ^ ex w lo hi) else []

structure Good (w lo hi m : Nat) : Prop where
  le : m ≤ w
  al : lo % 2 ^ m = 0
  fit : lo + 2 ^ m ≤ hi + 1
theorem good0 {w lo hi : Nat} (h : lo ≤ hi) : Good w lo hi 0 := ⟨Nat.zero_le _, by simp [Nat.mod_one], by simp; omega⟩
theorem grow_good {w lo hi : Nat} : ∀ (n m : Nat), Good w lo hi m → Good w lo hi (grow w lo hi n m)
  | 0, m, g => g
  | n + 1, m, g => by
    unfold grow
    split
    · rename_i h
      exact grow_good n (m + 1) ⟨h.1, h.2.1, h.2.2⟩
    · exact g
theorem grow_le {w lo hi : Nat} : ∀ (n m : Nat), m ≤ grow w lo hi n m
  | 0, m => Nat.le_refl _
  | n + 1, m => by
    unfold grow
    split
    · have := grow_le (w := w) (lo := lo) (hi := hi) n (m + 1)
      omega
    · exact Nat.le_refl _
theorem grow_max {w lo hi : Nat} : ∀ (n m : Nat), w < n + m → m ≤ w → ¬ (grow w lo hi n m < w ∧ lo % 2 ^ (grow w lo hi n m + 1) = 0 ∧ lo + 2 ^ (grow w lo hi n m + 1) ≤ hi + 1)
  | 0, m, h, h2 => by omega
  | n + 1, m, h, h2 => by
    unfold grow
    split
    · rename_i c
      exact grow_max n (m + 1) (by omega) c.1
    · rename_i c
      exact c
theorem ex_good {w lo hi : Nat} (h : lo ≤ hi) : Good w lo hi (ex w lo hi) := grow_good _ _ (good0 h)
theorem ex_max {w lo hi : Nat} : ¬ (ex w lo hi < w ∧ lo % 2 ^ (ex w lo hi + 1) = 0 ∧ lo + 2 ^ (ex w lo hi + 1) ≤ hi + 1) := grow_max _ _ (by omega) (Nat.zero_le _)

theorem p2 (m : Nat) : 0 < 2 ^ m := Nat.two_pow_pos m
theorem p2s (m : Nat) : 2 ^ (m + 1) = 2 * 2 ^ m := by rw [Nat.pow_succ]; omega
theorem mod_le {a j k : Nat} (h : a % 2 ^ k = 0) (hj : j ≤ k) : a % 2 ^ j = 0 :=
  Nat.mod_eq_zero_of_dvd (Nat.dvd_trans (Nat.pow_dvd_pow 2 hj) (Nat.dvd_of_mod_eq_zero h))
theorem add_mod0 {a m : Nat} (h : a % 2 ^ m = 0) : (a + 2 ^ m) % 2 ^ m = 0 := by rw [Nat.add_mod_right]; exact h
/-- an odd multiple's next one -/
theorem odd_next {a m : Nat} (h : a % 2 ^ m = 0) (h1 : a % 2 ^ (m + 1) ≠ 0) : (a + 2 ^ m) % 2 ^ (m + 1) = 0 := by
  obtain ⟨q, hq⟩ := Nat.dvd_of_mod_eq_zero h
  rcases Nat.mod_two_eq_zero_or_one q with e | e
  · exfalso
    apply h1
    obtain ⟨r, hr⟩ := Nat.dvd_of_mod_eq_zero e
    rw [hq, hr, p2s]
    exact Nat.mod_eq_zero_of_dvd ⟨r, by rw [Nat.mul_comm 2 (2 ^ m), Nat.mul_assoc]⟩
  · have e2 : q = 2 * (q / 2) + 1 := by omega
    refine Nat.mod_eq_zero_of_dvd ⟨q / 2 + 1, ?_⟩
    rw [hq, p2s]
    generalize q / 2 = r at e2
    subst e2
    rw [Nat.mul_add, Nat.mul_add, Nat.mul_one, Nat.mul_one]
    have : 2 ^ m * (2 * r) = 2 * 2 ^ m * r := by rw [← Nat.mul_assoc, Nat.mul_comm (2 ^ m) 2]
    omega
theorem odd_back {a m : Nat} (h : a % 2 ^ m = 0) (h1 : a % 2 ^ (m + 1) ≠ 0) : a / 2 ^ (m + 1) * 2 ^ (m + 1) + 2 ^ m = a := by
  have e := Nat.div_add_mod a (2 ^ (m + 1))
  have l : a % 2 ^ (m + 1) < 2 * 2 ^ m := by rw [← p2s]; exact Nat.mod_lt _ (p2 _)
  have d : (a % 2 ^ (m + 1)) % 2 ^ m = 0 := by rw [Nat.mod_mod_of_dvd _ (Nat.pow_dvd_pow 2 (Nat.le_succ m))]; exact h
  obtain ⟨q, hq⟩ := Nat.dvd_of_mod_eq_zero d
  have hq1 : q = 1 := by
    rcases Nat.lt_or_ge q 2 with hl | hl
    · rcases Nat.lt_or_ge q 1 with h0 | h0
      · exfalso; apply h1; rw [hq]; have : q = 0 := by omega
        rw [this]; simp
      · omega
    · exfalso
      have : 2 ^ m * 2 ≤ 2 ^ m * q := Nat.mul_le_mul_left _ hl
      omega
  rw [hq1] at hq
  rw [Nat.mul_comm (a / 2 ^ (m + 1))]
  omega

/-! ### the chain -/
/-- what holds along the blocks: each starts where the one before ended, is aligned, fits, is as large as can be -/
inductive Chain (w low hi : Nat) : Nat → List (Nat × Nat) → Prop
  | nil : Chain w low hi (hi + 1) []
  | cons {a m : Nat} {r : List (Nat × Nat)} (le : a ≤ hi) (g : Good w a hi m) (mx : ¬ (m < w ∧ a % 2 ^ (m + 1) = 0 ∧ a + 2 ^ (m + 1) ≤ hi + 1))
      (inv : ∀ j b, j ≤ w → b % 2 ^ j = 0 → low ≤ b → b < a → b + 2 ^ j ≤ hi + 1 → b + 2 ^ j ≤ a) (t : Chain w low hi (a + 2 ^ m) r) : Chain w low hi a ((a, m) :: r)
theorem inv_step {w low hi a m : Nat} (g : Good w a hi m) (mx : ¬ (m < w ∧ a % 2 ^ (m + 1) = 0 ∧ a + 2 ^ (m + 1) ≤ hi + 1))
    (inv : ∀ j b, j ≤ w → b % 2 ^ j = 0 → low ≤ b → b < a → b + 2 ^ j ≤ hi + 1 → b + 2 ^ j ≤ a) :
    ∀ j b, j ≤ w → b % 2 ^ j = 0 → low ≤ b → b < a + 2 ^ m → b + 2 ^ j ≤ hi + 1 → b + 2 ^ j ≤ a + 2 ^ m := by
  intro j b hj hb hl hlt hf
  have pm := p2 m
  rcases Nat.lt_or_ge b a with h | h
  · have := inv j b hj hb hl h hf
    omega
  · -- both are multiples of the smaller power
    rcases Nat.lt_or_ge m j with hmj | hmj
    · exfalso
      have hbm : b % 2 ^ m = 0 := mod_le hb (by omega)
      obtain ⟨q, hq⟩ := Nat.dvd_of_mod_eq_zero hbm
      obtain ⟨r, hr⟩ := Nat.dvd_of_mod_eq_zero g.al
      have hqr : q = r := by
        have h1 : 2 ^ m * r ≤ 2 ^ m * q := by omega
        have h2 : 2 ^ m * q < 2 ^ m * (r + 1) := by rw [Nat.mul_add]; omega
        have := Nat.le_of_mul_le_mul_left h1 (p2 m)
        have := Nat.lt_of_mul_lt_mul_left h2
        omega
      have hba : b = a := by rw [hq, hr, hqr]
      subst hba
      refine mx ⟨by omega, mod_le hb hmj, ?_⟩
      have : 2 ^ (m + 1) ≤ 2 ^ j := Nat.pow_le_pow_right (by omega) hmj
      omega
    · obtain ⟨q, hq⟩ := Nat.dvd_of_mod_eq_zero hb
      obtain ⟨r, hr⟩ := Nat.dvd_of_mod_eq_zero (mod_le (add_mod0 g.al) hmj)
      have h2 : 2 ^ j * q < 2 ^ j * r := by omega
      have h3 := Nat.lt_of_mul_lt_mul_left h2
      have h4 : 2 ^ j * (q + 1) ≤ 2 ^ j * r := Nat.mul_le_mul_left _ h3
      rw [Nat.mul_add] at h4
      omega
theorem chain_of {w low hi : Nat} : ∀ (n a : Nat), hi + 1 ≤ n + a → a ≤ hi + 1 → (∀ j b, j ≤ w → b % 2 ^ j = 0 → low ≤ b → b < a → b + 2 ^ j ≤ hi + 1 → b + 2 ^ j ≤ a) → Chain w low hi a (blks w hi n a)
  | 0, a, h, h2, inv => by
    have : a = hi + 1 := by omega
    subst this
    exact .nil
  | n + 1, a, h, h2, inv => by
    unfold blks
    split
    · rename_i le
      have g := ex_good (w := w) le
      have pm := p2 (ex w a hi)
      exact .cons le g ex_max inv (chain_of n _ (by omega) g.fit (inv_step g ex_max inv))
    · have : a = hi + 1 := by omega
      subst this
      exact .nil
theorem chain {w low hi : Nat} (h : low ≤ hi + 1) : Chain w low hi low (blks w hi (hi + 1 - low) low) :=
  chain_of _ _ (by omega) h fun j b _ _ h1 h2 _ => by omega

/-! ### how many -/
theorem few_low {w low hi : Nat} (k : Nat) : ∀ (a : Nat) (l : List (Nat × Nat)), Chain w low hi a l → a % 2 ^ k = 0 → hi + 1 < a + 2 ^ k → k ≤ w → l.length ≤ k := by
  induction k using Nat.strongRecOn with
  | _ k ih =>
    intro a l c ha h hk
    cases c with
    | nil => exact Nat.zero_le _
    | @cons _ m r le g mx inv t =>
      have hmk : m < k := by
        rcases Nat.lt_or_ge m k with h1 | h1
        · exact h1
        · have : 2 ^ k ≤ 2 ^ m := Nat.pow_le_pow_right (by omega) h1
          have := g.fit
          omega
      have hr : hi + 1 < a + 2 ^ m + 2 ^ m := by
        rcases Nat.lt_or_ge (hi + 1) (a + 2 ^ (m + 1)) with q | q
        · rw [p2s] at q; omega
        · exact absurd ⟨by omega, mod_le ha (by omega), q⟩ mx
      have := ih m hmk (a + 2 ^ m) r t (add_mod0 g.al) hr (by omega)
      rw [List.length_cons]
      omega
/-- a block that the end limits: the rest is few -/
theorem few_behind {w low hi a m : Nat} {r : List (Nat × Nat)} (g : Good w a hi m) (t : Chain w low hi (a + 2 ^ m) r) (h : hi + 1 < a + 2 ^ (m + 1)) : r.length ≤ m :=
  few_low m _ r t (add_mod0 g.al) (by rw [p2s] at h; omega) g.le
theorem chain_end {w low hi x : Nat} {r : List (Nat × Nat)} (c : Chain w low hi x r) (h : x = hi + 1) : r = [] := by
  cases c with
  | nil => rfl
  | cons le => omega
theorem few_pos {w low hi : Nat} (hw : 2 ≤ w) (hh : hi < 2 ^ w) (n : Nat) : ∀ (k a : Nat) (l : List (Nat × Nat)), k + n = w - 1 → Chain w low hi a l → 0 < a → a % 2 ^ k = 0 → l.length ≤ w - 1 + n := by
  induction n using Nat.strongRecOn with
  | _ n ih =>
    intro k a l hk c ha hm
    cases c with
    | nil => exact Nat.zero_le _
    | @cons _ m r le g mx inv t =>
      rw [List.length_cons]
      have gl := g.le
      have gf := g.fit
      have pm := p2 m
      have hmw : m ≠ w := fun z => by subst z; omega
      rcases Nat.lt_or_ge (hi + 1) (a + 2 ^ (m + 1)) with q1 | q1
      · have f := few_behind g t q1
        rcases Nat.lt_or_ge m (w - 1) with q2 | q2
        · omega
        · -- m = w - 1: it ends the range
          have e1 : m + 1 = w := by omega
          have e2 : 2 ^ w = 2 * 2 ^ m := by rw [← e1]; exact p2s m
          obtain ⟨q, hq⟩ := Nat.dvd_of_mod_eq_zero g.al
          have h2 : 2 ^ m ≤ a := by
            rcases Nat.lt_or_ge q 1 with h0 | h0
            · have : q = 0 := by omega
              rw [this] at hq; simp at hq; omega
            · have := Nat.mul_le_mul_left (2 ^ m) h0
              omega
          have := chain_end t (by omega)
          subst this
          simp
          omega
      · -- limited by its start
        have od : a % 2 ^ (m + 1) ≠ 0 := fun z => mx ⟨by omega, z, q1⟩
        have hkm : k ≤ m := by
          rcases Nat.lt_or_ge m k with h1 | h1
          · exact absurd (mod_le hm h1) od
          · exact h1
        have hm2 : m + 1 ≤ w - 1 := by
          rcases Nat.lt_or_ge m (w - 1) with h1 | h1
          · exact h1
          · exfalso
            have e1 : m + 1 = w := by omega
            rw [e1] at q1
            omega
        have key := ih (w - 1 - (m + 1)) (by omega) (m + 1) (a + 2 ^ m) r (by omega) t (by omega) (odd_next g.al od)
        omega
theorem few {w low hi : Nat} {l : List (Nat × Nat)} (hw : 1 ≤ w) (hh : hi < 2 ^ w) (c : Chain w low hi low l) : l.length ≤ max 1 (2 * w - 2) := by
  rcases Nat.eq_zero_or_pos low with h0 | h0
  · subst h0
    cases c with
    | @cons _ m r le g mx inv t =>
      rw [List.length_cons]
      have gl := g.le
      rcases Nat.lt_or_ge m w with q | q
      · have q1 : hi + 1 < 0 + 2 ^ (m + 1) := by
          rcases Nat.lt_or_ge (hi + 1) (0 + 2 ^ (m + 1)) with h | h
          · exact h
          · exact absurd ⟨q, by simp, h⟩ mx
        have f := few_behind g t q1
        rcases Nat.lt_or_ge w 2 with h2 | h2
        · have : m = 0 := by omega
          subst this
          omega
        · omega
      · have e : m = w := by omega
        subst e
        have := g.fit
        have := chain_end t (by omega)
        subst this
        simp
        omega
  · rcases Nat.lt_or_ge w 2 with h2 | h2
    · have e : w = 1 := by omega
      subst e
      cases c with
      | nil => exact Nat.zero_le _
      | @cons _ m r le g mx inv t =>
        have pm := p2 m
        have := g.fit
        have := chain_end t (by omega)
        subst this
        simp
    · have := few_pos h2 hh (w - 1) 0 low l (by omega) c h0 (by simp [Nat.mod_one])
      omega

/-! ### no two halves of one block, none larger -/
theorem chain_cons {w low hi x a m : Nat} {r : List (Nat × Nat)} (c : Chain w low hi x ((a, m) :: r)) : x = a ∧ a ≤ hi ∧ Good w a hi m ∧ ¬ (m < w ∧ a % 2 ^ (m + 1) = 0 ∧ a + 2 ^ (m + 1) ≤ hi + 1) ∧ Chain w low hi (a + 2 ^ m) r := by
  cases c with
  | cons le g mx inv t => exact ⟨rfl, le, g, mx, t⟩
theorem no_halves {w low hi x a a2 m : Nat} {r : List (Nat × Nat)} (c : Chain w low hi x ((a, m) :: (a2, m) :: r)) (he : a / 2 ^ (m + 1) = a2 / 2 ^ (m + 1)) (hm : m < w) : False := by
  obtain ⟨_, le, g, mx, t⟩ := chain_cons c
  obtain ⟨e, le2, g2, mx2, _⟩ := chain_cons t
  subst e
  have f2 := g2.fit
  rcases Nat.lt_or_ge 0 (a % 2 ^ (m + 1)) with q | q
  · have h1 := odd_next g.al (by omega)
    have e1 := Nat.div_add_mod a (2 ^ (m + 1))
    have e2 := Nat.div_add_mod (a + 2 ^ m) (2 ^ (m + 1))
    rw [← he] at e2
    have pm := p2 m
    omega
  · exact mx ⟨hm, by omega, by rw [p2s]; omega⟩
theorem no_larger {w low hi a m : Nat} {r : List (Nat × Nat)} (c : Chain w low hi a ((a, m) :: r)) (hm : m < w) (h1 : low ≤ a / 2 ^ (m + 1) * 2 ^ (m + 1)) (h2 : a / 2 ^ (m + 1) * 2 ^ (m + 1) + 2 ^ (m + 1) ≤ hi + 1) : False := by
  cases c with
  | cons le g mx inv t =>
    rcases Nat.lt_or_ge 0 (a % 2 ^ (m + 1)) with q | q
    · have e := odd_back g.al (by omega)
      have pm := p2 m
      have := inv (m + 1) _ (by omega) (Nat.mul_mod_left _ _) h1 (by omega) h2
      rw [p2s] at this
      rw [p2s] at e
      omega
    · have e1 := Nat.div_add_mod a (2 ^ (m + 1))
      rw [Nat.mul_comm] at e1
      exact mx ⟨hm, by omega, by omega⟩
end M34
namespace M34
theorem blks_fuel {w hi : Nat} : ∀ (n n' a : Nat), hi + 1 ≤ n + a → hi + 1 ≤ n' + a → blks w hi n a = blks w hi n' a
  | 0, 0, a, _, _ => rfl
  | 0, n' + 1, a, h, h' => by
    unfold blks
    rw [if_neg (by omega)]
  | n + 1, 0, a, h, h' => by
    unfold blks
    rw [if_neg (by omega)]
  | n + 1, n' + 1, a, h, h' => by
    unfold blks
    by_cases c : a ≤ hi
    · rw [if_pos c, if_pos c]
      have := p2 (ex w a hi)
      rw [blks_fuel n n' (a + 2 ^ ex w a hi) (by omega) (by omega)]
    · rw [if_neg c, if_neg c]
/-- all blocks from a on -/
def all (w hi a : Nat) : List (Nat × Nat) := blks w hi (hi + 1 - a) a
theorem all_step {w hi a : Nat} (h : a ≤ hi) : all w hi a = (a, ex w a hi) :: all w hi (a + 2 ^ ex w a hi) := by
  unfold all
  obtain ⟨n, hn⟩ : ∃ n, hi + 1 - a = n + 1 := ⟨hi - a, by omega⟩
  rw [hn]
  have hp := p2 (ex w a hi)
  have e := blks_fuel (w := w) (hi := hi) n (hi + 1 - (a + 2 ^ ex w a hi)) (a + 2 ^ ex w a hi) (by omega) (by omega)
  rw [← e]
  conv => lhs; unfold blks
  rw [if_pos h]
theorem all_end {w hi a : Nat} (h : hi < a) : all w hi a = [] := by
  unfold all
  have e : hi + 1 - a = 0 := by omega
  rw [e]
  rfl
theorem all_chain {w low hi : Nat} (h : low ≤ hi + 1) : Chain w low hi low (all w hi low) := chain h
theorem all_few {w low hi : Nat} (hw : 1 ≤ w) (hh : hi < 2 ^ w) (h : low ≤ hi + 1) : (all w hi low).length ≤ max 1 (2 * w - 2) := few hw hh (all_chain h)
end M34
namespace K34
open PySem PySem.Spec PyProof.Rows L2 LW SX
def blkT (w : Nat) (p : Nat × Nat) : List Nat := (bitsL p.1 w).take (w - p.2)
def blkV (w : Nat) (l : List (Nat × Nat)) : List V := l.map fun p => .str (S (blkT w p))
def spBlocksBetween : Sp := fun vs H Q _ => ∃ (lo hi w : Nat), vs = [.int (lo : Int), .int (hi : Int), .int (w : Int)] ∧ 1 ≤ w ∧ w ≤ 64 ∧ lo ≤ hi ∧ hi < 2 ^ w ∧ ∀ l H', H l = none → Ex H H' → H' l = some (.lst (blkV w (M34.all w hi lo))) → Q (.ref l) H'
def spRangeBlocks (K : PySem.W.Frag) : Sp := fun vs H Q E => ∃ (x y z : V) (n m k : String), vs = [x, y, z] ∧ Kn K H x n ∧ Kn K H y m ∧ Kn K H z k ∧ (within z 1 64 = false → Rz K "BadWidth" z H E) ∧
  ∀ w : Nat, z = .int (w : Int) → 1 ≤ w → w ≤ 64 → (within x 0 (2 ^ w - 1) = false → Rz K "BadNumber" x H E) ∧ ∀ lo : Nat, x = .int (lo : Int) → lo < 2 ^ w → (within y 0 (2 ^ w - 1) = false → Rz K "BadNumber" y H E) ∧
    ∀ hi : Nat, y = .int (hi : Int) → hi < 2 ^ w → (hi < lo → Rz K "BadNumber" y H E) ∧ (lo ≤ hi → ∀ t H', H t = none → Ex H H' → H' t = some (.tup (blkV w (M34.all w hi lo))) → Q (.ref t) H')
theorem cut_to (l : List Nat) (k : Nat) : cutS (S l) none (some (k : Int)) = S (l.take k) := by
  rw [C8.cutS_slice, slice_to (by omega), Int.toNat_natCast]
theorem within_nat {x : V} {w : Nat} (h : within x 0 (2 ^ w - 1) = true) : ∃ k : Nat, x = .int (k : Int) ∧ k < 2 ^ w := by
  cases x with
  | int i =>
    unfold within at h
    simp only [Bool.and_eq_true, decide_eq_true_eq] at h
    refine ⟨i.toNat, by rw [Int.toNat_of_nonneg (by omega)], ?_⟩
    have e : ((2 ^ w : Nat) : Int) = 2 ^ w := by simp
    omega
  | _ => cases h
theorem within_width {x : V} (h : within x 1 64 = true) : ∃ k : Nat, x = .int (k : Int) ∧ 1 ≤ k ∧ k ≤ 64 := by
  cases x with
  | int i =>
    unfold within at h
    simp only [Bool.and_eq_true, decide_eq_true_eq] at h
    exact ⟨i.toNat, by rw [Int.toNat_of_nonneg (by omega)], by omega, by omega⟩
  | _ => cases h
end K34
/-! The plain law of blocks: their texts. -/
namespace K34
open PySem PySem.Spec PyProof.Rows L2 LW SX
theorem bitsL_len (a w : Nat) : (bitsL a w).length = w := by simp [bitsL]
theorem bitsL_at {a w i : Nat} (h : i < w) : (bitsL a w)[i]? = some (48 + a / 2 ^ (w - 1 - i) % 2) := by
  unfold bitsL
  rw [List.getElem?_map, List.getElem?_range h]
  rfl
theorem bitsL_all (a w : Nat) : (bitsL a w).all isBit = true := by
  rw [List.all_eq_true]
  intro x hx
  obtain ⟨i, _, rfl⟩ := List.mem_map.mp hx
  have : a / 2 ^ (w - 1 - i) % 2 = 0 ∨ a / 2 ^ (w - 1 - i) % 2 = 1 := by omega
  rcases this with h | h <;> rw [h] <;> rfl
theorem all_take {l : List Nat} {k : Nat} (h : l.all isBit = true) : (l.take k).all isBit = true := by
  rw [List.all_eq_true] at h ⊢
  exact fun x hx => h x (List.mem_of_mem_take hx)
theorem val_bits {a w : Nat} (h : a < 2 ^ w) : ∀ k, k ≤ w → valL ((bitsL a w).take k) = a / 2 ^ (w - k)
  | 0, _ => by
    rw [List.take_zero, Nat.sub_zero, Nat.div_eq_of_lt h]
    rfl
  | k + 1, hk => by
    rw [take_snoc (bitsL_at (a := a) (show k < w by omega)), valL_snoc, val_bits h k (by omega)]
    have e1 : w - 1 - k = w - (k + 1) := by omega
    have e2 : w - k = w - (k + 1) + 1 := by omega
    rw [e1, e2, Nat.pow_succ, ← Nat.div_div_eq_div_mul]
    omega
theorem val_bits_all {a w : Nat} (h : a < 2 ^ w) : valL (bitsL a w) = a := by
  have := val_bits h w (Nat.le_refl _)
  rw [List.take_of_length_le (by rw [bitsL_len]; exact Nat.le_refl _), Nat.sub_self, Nat.pow_zero, Nat.div_one] at this
  exact this
theorem blk_len {w : Nat} {p : Nat × Nat} : (blkT w p).length = w - p.2 := by
  unfold blkT
  rw [List.length_take, bitsL_len]
  omega
theorem blk_all {w : Nat} {p : Nat × Nat} : (blkT w p).all isBit = true := all_take (bitsL_all _ _)
theorem blk_val {w a m : Nat} (h : a < 2 ^ w) (hm : m ≤ w) : valL (blkT w (a, m)) = a / 2 ^ m := by
  have := val_bits h (w - m) (by omega)
  rw [show w - (w - m) = m by omega] at this
  exact this
theorem blk_up {w a m : Nat} : (blkT w (a, m)).dropLast = (bitsL a w).take (w - (m + 1)) := by
  rw [List.dropLast_eq_take, blk_len]
  unfold blkT
  rw [List.take_take]
  congr 1
  show min (w - m - 1) (w - m) = w - (m + 1)
  omega
theorem up_val {w a m : Nat} (h : a < 2 ^ w) (hm : m < w) : valL ((blkT w (a, m)).dropLast) = a / 2 ^ (m + 1) := by
  have := val_bits h (w - (m + 1)) (by omega)
  rw [show w - (w - (m + 1)) = m + 1 by omega] at this
  rw [blk_up]
  exact this
theorem up_len {w a m : Nat} : ((blkT w (a, m)).dropLast).length = w - (m + 1) := by
  rw [List.length_dropLast, blk_len]
  show w - m - 1 = _
  omega
/-! ### the order of texts -/
theorem valL_cons (c : Nat) : ∀ l : List Nat, valL (c :: l) = (c - 48) * 2 ^ l.length + valL l := by
  intro l
  have gen : ∀ (l : List Nat) (a : Nat), l.foldl (fun a c => 2 * a + (c - 48)) a = a * 2 ^ l.length + l.foldl (fun a c => 2 * a + (c - 48)) 0 := by
    intro l
    induction l with
    | nil => intro a; simp
    | cons d l ih =>
      intro a
      rw [List.foldl_cons, List.foldl_cons, ih, ih (2 * 0 + (d - 48)), List.length_cons, Nat.pow_succ, Nat.mul_zero, Nat.zero_add, Nat.add_mul, Nat.mul_comm (2 ^ l.length) 2, ← Nat.mul_assoc, Nat.mul_comm a 2, Nat.add_assoc]
  show (c :: l).foldl _ 0 = _
  rw [List.foldl_cons, gen]
  simp [valL]
theorem lt_of_val : ∀ {x y : List Nat} (s t : List Nat), x.all isBit = true → y.all isBit = true → x.length = y.length → valL x < valL y → x ++ s < y ++ t
  | [], [], s, t, _, _, _, h => absurd h (by simp [valL])
  | [], d :: y, _, _, _, _, h, _ => absurd h (by simp)
  | c :: x, [], _, _, _, _, h, _ => absurd h (by simp)
  | c :: x, d :: y, s, t, hx, hy, hl, h => by
    rw [List.all_cons, Bool.and_eq_true] at hx hy
    rw [valL_cons, valL_cons] at h
    have hl' : x.length = y.length := by simpa using hl
    have h1 := val_lt hx.2
    have h2 := val_lt hy.2
    rw [hl'] at h h1
    have c1 : c = 48 ∨ c = 49 := by simpa [isBit] using hx.1
    have d1 : d = 48 ∨ d = 49 := by simpa [isBit] using hy.1
    show c :: (x ++ s) < d :: (y ++ t)
    rw [List.cons_lt_cons_iff]
    rcases c1 with rfl | rfl <;> rcases d1 with rfl | rfl
    · exact .inr ⟨rfl, lt_of_val s t hx.2 hy.2 hl' (by simpa using h)⟩
    · exact .inl (by decide)
    · simp at h
      omega
    · exact .inr ⟨rfl, lt_of_val s t hx.2 hy.2 hl' (by simpa using h)⟩
theorem blk_lt {w a b m n : Nat} (ha : a < 2 ^ w) (hb : b < 2 ^ w) (hm : m ≤ w) (hn : n ≤ w) (hbn : b % 2 ^ n = 0) (h : a + 2 ^ m ≤ b) : blkT w (a, m) < blkT w (b, n) := by
  have pm := M34.p2 m
  -- the shorter length
  have key : ∀ k, k ≤ w - m → k ≤ w - n → a / 2 ^ (w - k) < b / 2 ^ (w - k) → blkT w (a, m) < blkT w (b, n) := fun k h1 h2 hv => by
    have e1 : blkT w (a, m) = (bitsL a w).take k ++ (blkT w (a, m)).drop k := by
      have : (bitsL a w).take k = (blkT w (a, m)).take k := by
        unfold blkT
        rw [List.take_take]
        congr 1
        show k = min k (w - m)
        omega
      rw [this, List.take_append_drop]
    have e2 : blkT w (b, n) = (bitsL b w).take k ++ (blkT w (b, n)).drop k := by
      have : (bitsL b w).take k = (blkT w (b, n)).take k := by
        unfold blkT
        rw [List.take_take]
        congr 1
        show k = min k (w - n)
        omega
      rw [this, List.take_append_drop]
    rw [e1, e2]
    refine lt_of_val _ _ (all_take (bitsL_all _ _)) (all_take (bitsL_all _ _)) ?_ ?_
    · rw [List.length_take, List.length_take, bitsL_len, bitsL_len]
    · rw [val_bits ha k (by omega), val_bits hb k (by omega)]
      exact hv
  by_cases hmn : n ≤ m
  · refine key (w - m) (Nat.le_refl _) (by omega) ?_
    rw [show w - (w - m) = m by omega]
    have h1 : (a + 2 ^ m) / 2 ^ m ≤ b / 2 ^ m := Nat.div_le_div_right h
    rw [Nat.add_div_right a pm] at h1
    omega
  · refine key (w - n) (by omega) (Nat.le_refl _) ?_
    rw [show w - (w - n) = n by omega]
    refine (Nat.div_lt_iff_lt_mul (M34.p2 n)).mpr ?_
    have h1 := Nat.div_add_mod b (2 ^ n)
    rw [hbn, Nat.add_zero, Nat.mul_comm] at h1
    omega
/-! ### the chain, place by place -/
theorem chain_drop {w low hi : Nat} : ∀ {l : List (Nat × Nat)} {x : Nat} (i : Nat), M34.Chain w low hi x l → ∃ y, M34.Chain w low hi y (l.drop i) ∧ x ≤ y
  | l, x, 0, c => ⟨x, by simpa using c, Nat.le_refl _⟩
  | [], x, i + 1, c => ⟨x, by simpa using c, Nat.le_refl _⟩
  | p :: l, x, i + 1, c => by
    cases c with
    | @cons a m r le g mx inv t =>
      obtain ⟨y, h, hy⟩ := chain_drop i t
      have := M34.p2 m
      exact ⟨y, by simpa using h, by omega⟩
theorem chain_nil {w low hi x : Nat} (c : M34.Chain w low hi x []) : x = hi + 1 := by
  cases c
  rfl
theorem chain_mem {w low hi : Nat} : ∀ {l : List (Nat × Nat)} {x : Nat} {p : Nat × Nat}, M34.Chain w low hi x l → p ∈ l → x ≤ p.1 ∧ p.1 ≤ hi ∧ M34.Good w p.1 hi p.2
  | [], _, _, _, h => absurd h (by simp)
  | q :: l, x, p, c, h => by
    cases c with
    | @cons a m r le g mx inv t =>
      rcases List.mem_cons.mp h with rfl | h
      · exact ⟨Nat.le_refl _, le, g⟩
      · have h1 := chain_mem t h
        have := M34.p2 m
        exact ⟨by omega, h1.2.1, h1.2.2⟩
theorem chain_asc {w low hi : Nat} (hh : hi < 2 ^ w) : ∀ {l : List (Nat × Nat)} {x : Nat}, M34.Chain w low hi x l → (l.map (blkT w)).Pairwise (· < ·)
  | [], _, _ => List.Pairwise.nil
  | p :: l, x, c => by
    cases c with
    | @cons a m r le g mx inv t =>
      rw [List.map_cons]
      refine List.pairwise_cons.mpr ⟨fun y hy => ?_, chain_asc hh t⟩
      obtain ⟨q, hq, rfl⟩ := List.mem_map.mp hy
      have h := chain_mem t hq
      obtain ⟨b, n⟩ := q
      exact blk_lt (by omega) (by have := h.2.1; simp only at this; omega) g.le h.2.2.le h.2.2.al h.1
/-! ### sorting what is sorted -/
theorem le_trans' {a b c : List Nat} (h1 : ¬ b < a) (h2 : ¬ c < b) : ¬ c < a := fun h => by
  exact h1 (List.lt_of_le_of_lt (List.not_lt.mp h2) h)
theorem rising_all : ∀ (p : Str) (l : List Str), risingS p l = true → ∀ x ∈ l, ¬ x.cps.toList < p.cps.toList
  | _, [], _, x, h => absurd h (by simp)
  | p, y :: l, hr, x, h => by
    unfold risingS at hr
    rw [Bool.and_eq_true, Bool.not_eq_true', ltCps_eq, decide_eq_false_iff_not] at hr
    rcases List.mem_cons.mp h with rfl | h
    · exact hr.1
    · exact le_trans' hr.1 (rising_all y l hr.2 x h)
theorem sorted_pair : ∀ (l : List Str), sortedS l = true → l.Pairwise fun x y => ¬ y.cps.toList < x.cps.toList
  | [], _ => List.Pairwise.nil
  | x :: l, h => by
    refine List.pairwise_cons.mpr ⟨fun y hy => rising_all x l h y hy, sorted_pair l ?_⟩
    cases l with
    | nil => rfl
    | cons y l =>
      have h' : risingS x (y :: l) = true := h
      unfold risingS at h'
      rw [Bool.and_eq_true] at h'
      exact h'.2
theorem sorted_same : ∀ {xs ys : List Str}, xs.Pairwise (fun x y => x.cps.toList < y.cps.toList) → ys.Pairwise (fun x y => ¬ y.cps.toList < x.cps.toList) → ys.Perm xs → ys = xs
  | [], ys, _, _, h => h.eq_nil
  | x :: xs, [], _, _, h => absurd h.length_eq (by simp)
  | x :: xs, y :: ys, hx, hy, h => by
    have e : y = x := by
      by_cases hne : y = x
      · exact hne
      · have h1 : y ∈ xs := by
          rcases List.mem_cons.mp (h.mem_iff.mp List.mem_cons_self) with h | h
          · exact absurd h hne
          · exact h
        have h2 : x ∈ ys := by
          rcases List.mem_cons.mp (h.mem_iff.mpr List.mem_cons_self) with h | h
          · exact absurd h.symm hne
          · exact h
        exact absurd ((List.pairwise_cons.mp hx).1 y h1) ((List.pairwise_cons.mp hy).1 x h2)
    subst e
    rw [sorted_same (List.pairwise_cons.mp hx).2 (List.pairwise_cons.mp hy).2 (h.cons_inv)]
theorem blocks_sorted {w low hi : Nat} (hh : hi < 2 ^ w) {l : List (Nat × Nat)} {x : Nat} (c : M34.Chain w low hi x l) {ys : List Str} (hp : ys.Perm (l.map fun p => S (blkT w p))) (hs : sortedS ys = true) : ys = l.map fun p => S (blkT w p) := by
  refine sorted_same ?_ (sorted_pair ys hs) hp
  have h := chain_asc hh c
  rw [List.pairwise_map] at h ⊢
  exact h
/-! ### neighbours are no halves of one block -/
theorem not_halves {w low hi x a a2 m m2 : Nat} {r : List (Nat × Nat)} (hh : hi < 2 ^ w) (c : M34.Chain w low hi x ((a, m) :: (a2, m2) :: r)) : (blkT w (a, m)).dropLast ≠ (blkT w (a2, m2)).dropLast := fun e => by
  obtain ⟨rfl, le, g, _, c2⟩ := M34.chain_cons c
  obtain ⟨rfl, le2, g2, _, _⟩ := M34.chain_cons c2
  have hm : m < w := by
    by_cases h : m = w
    · subst h
      have := g.fit
      omega
    · have := g.le
      omega
  have hm2 : m2 < w := by
    by_cases h : m2 = w
    · subst h
      have := g2.fit
      have := M34.p2 m
      omega
    · have := g2.le
      omega
  have hl := congrArg List.length e
  rw [up_len, up_len] at hl
  have em : m2 = m := by omega
  subst em
  have hv := congrArg valL e
  rw [up_val (by omega) hm, up_val (by omega) hm] at hv
  exact M34.no_halves c hv hm
theorem S_inj {a b : List Nat} (h : (S a : Str) = S b) : a = b := by
  have h2 : (S a : Str).cps.toList = (S b).cps.toList := by rw [h]
  simpa [S] using h2
theorem cut_last (l : List Nat) : cutS (S l) none (some (-1)) = S l.dropLast := by
  cases l with
  | nil => rfl
  | cons c l => rw [C8.cutS_slice, SX.slice_butlast (by simp), List.dropLast_eq_take]
theorem cut_tail (xs : List V) : cutV xs (some 1) none = xs.drop 1 := by
  unfold cutV
  rw [HT.sIx_none, show (1 : Int) = ((1 : Nat) : Int) from rfl, HT.sIx_nat]
  cases xs with
  | nil => rfl
  | cons x xs =>
    have e : min 1 (x :: xs).length = 1 := by simp
    rw [e, List.take_of_length_le (by simp)]
theorem bits_S {l : List Nat} {w : Nat} (h : l.all isBit = true) (hl : l.length ≤ w) : bits (.str (S l)) w = true := by
  show (decide _ && _) = true
  rw [Bool.and_eq_true]
  exact ⟨decide_eq_true (by rw [S_len]; omega), h⟩
theorem dp_strs {K : PySem.W.Frag} {H : Hp} : ∀ xs : List Str, DpAll K H (xs.map V.str) (xs.map PyData.str)
  | [] => .nil
  | x :: xs => .cons (.str x) (dp_strs xs)
theorem okds_strs (n : Nat) : ∀ xs : List Str, okds n (xs.map PyData.str) = true
  | [] => by simp [okds]
  | x :: xs => by
    rw [List.map_cons]
    unfold okds
    rw [okds_strs n xs]
    cases n <;> rfl
theorem blkV_strs (w : Nat) (l : List (Nat × Nat)) : blkV w l = (l.map fun p => S (blkT w p)).map V.str := by
  unfold blkV
  rw [List.map_map]
  rfl
theorem drop_at {α : Type} {l : List α} {i : Nat} {x : α} (h : l[i]? = some x) : l.drop i = x :: l.drop (i + 1) := by
  obtain ⟨hi, rfl⟩ := List.getElem?_eq_some_iff.mp h
  exact List.drop_eq_getElem_cons hi
end K34
namespace K34
open PySem PySem.Spec PyProof.Rows L2 LW SX
section
variable {P : Program} {w : World} {K : PySem.W.Frag} {mg : Str → Option Value} {base : Heap}
theorem ok_is_integer (T : Txt K mg) : Dk P w K mg base (L2.CX P w) 1 "is_integer" (spIsInteger K) := by
  obtain ⟨fd, F⟩ := T.f_is_integer
  refine ⟨_, fd, ["thing"], F.ok sc_is_integer (fun vs H Q E h => ?_) (fun cdv A outer s H vs Q E hr h => ⟨_, (pss_one (ps_ret (pe_and (pe_callB LW.c_isi (by rfl) T.b_isinstance (by decide +kernel) (pa_cons (pv 0) (pa_cons (pe_bltn (v := .ty "int") (by rfl) T.b_int (by decide +kernel) rfl) pa_nil))) (pe_one (pe_not (pe_callB LW.c_isi (by rfl) T.b_isinstance (by decide +kernel) (pa_cons (pv 0) (pa_cons (pe_bltn (v := .ty "bool") (by rfl) T.b_bool (by decide +kernel) rfl) pa_nil)))))))), ?_⟩), T.g_is_integer, F.kp, F.bindsN fun _ _ _ _ _ _ us hl => match us, hl with | [_], _ => rfl⟩
  · obtain ⟨x, n, rfl, _⟩ := h
    rfl
  · obtain ⟨x, n, rfl, hk, q⟩ := h
    walk_at "go"
    refine v_isi (T := "int") hk (by decide) ?_
    walk_at "go"
    refine w_ite (fun hb => ?_) (fun hb => ?_)
    · walk_at "go"
      refine v_isi (T := "bool") hk (by decide) ?_
      walk_at "go"
      rw [← isK_int n hk.2 hb]
      exact q
    · have e : (n == "int") = false := by
        cases h1 : (n == "int") with
        | false => rfl
        | true => unfold isK at hb; rw [h1] at hb; cases hb
      rw [← e]
      exact q
theorem ok_is_within (T : Txt K mg) (D_is_integer : Dk P w K mg base (L2.CX P w) 1 "is_integer" (spIsInteger K)) : Dk P w K mg base (L2.CX P w) 2 "is_within" (spWithin K) := by
  obtain ⟨fd, F⟩ := T.f_is_within
  refine ⟨_, fd, ["thing", "least", "most"], F.ok sc_is_within (fun vs H Q E h => ?_) (fun cdv A outer s H vs Q E hr h => ⟨_, (pss_one (ps_ret (pe_and (LW.pe_d D_is_integer hr (by omega) (by rfl) passL (pa_cons (pv 0) pa_nil)) (pe_one (pe_chain LW.o_le LW.o_le (pv 1) (pv 0) (pv 2)))))), ?_⟩), T.g_is_within, F.kp, F.bindsN fun _ _ _ _ _ _ us hl => match us, hl with | [_, _, _], _ => rfl⟩
  · obtain ⟨x, n, lo, hi, rfl, _⟩ := h
    rfl
  · obtain ⟨x, n, lo, hi, rfl, hk, q⟩ := h
    walk_at "go"
    refine ⟨x, n, rfl, hk, ?_⟩
    walk_at "go"
    refine w_ite (fun hb => ?_) (fun hb => ?_)
    · have e := beq_iff_eq.mp hb
      subst e
      obtain ⟨i, rfl⟩ := kn_int_inv hk
      walk_at "go"
      refine w_dec (fun h1 => ?_) (fun h1 => ?_)
      · walk_at "go"
        have e2 : within (.int i) lo hi = decide (i ≤ hi) := by simp [within, h1]
        rw [← e2]
        exact q
      · have e2 : within (.int i) lo hi = false := by simp [within, h1]
        rw [← e2]
        exact q
    · have e2 : within x lo hi = false := by
        cases x with
        | int i => rw [kn_of_int hk] at hb; cases hb
        | _ => rfl
      rw [← e2]
      exact q
theorem ok_is_bits (T : Txt K mg) : Dk P w K mg base (L2.CX P w) 1 "is_bits" (spBits K) := by
  obtain ⟨fd, F⟩ := T.f_is_bits
  refine ⟨_, fd, ["thing", "most"], F.ok sc_is_bits (fun vs H Q E h => ?_) (fun cdv A outer s H vs Q E hr h => ⟨_, (pss_one (ps_ret (pe_and (pe_callB LW.c_isi (by rfl) T.b_isinstance (by decide +kernel) (pa_cons (pv 0) (pa_cons (pe_bltn (v := .ty "str") (by rfl) T.b_str (by decide +kernel) rfl) pa_nil))) (pe_and (pe_cmpR LW.o_le (pe_callB LW.c_lenS (by rfl) T.b_len (by decide +kernel) (pa_cons (pv 0) pa_nil)) (pv 1) (nomark _)) (pe_one (pe_callB (LW.c_all rfl) (by rfl) T.b_all (by decide +kernel) (pa_cons (pe_lc (own := [("sign", 2)]) (by rfl) sc_is_bits.nd (pi_str (pv 0)) (blkOk_by (own := [("sign", 2)]) (N := ["thing", "most", "sign"]) (sc := defScope s_is_bits) (by decide +kernel)) (fun _ _ _ _ _ => (pg_name (i := 2) sc_is_bits.nd rfl (Or.inl rfl))) (fun _ _ _ _ _ => pts_nil) (fun _ _ _ _ _ => (pe_cmpR LW.o_inS (pv 2) pe_str (by rfl)))) pa_nil))))))), ?_⟩), T.g_is_bits, F.kp, F.bindsN fun _ _ _ _ _ _ us hl => match us, hl with | [_, _], _ => rfl⟩
  · obtain ⟨x, n, m, rfl, _⟩ := h
    rfl
  · obtain ⟨x, n, m, rfl, hk, hz, q⟩ := h
    walk_at "go"
    refine v_isi (T := "str") hk (by decide) ?_
    walk_at "go"
    refine w_ite (fun hb => ?_) (fun hb => ?_)
    · have e : n = "str" := by
        unfold isK at hb
        simpa using hb
      subst e
      obtain ⟨z, rfl⟩ := kn_str_inv hk
      have hl := hz z rfl
      walk_at "go"
      refine v_lenS hl ?_
      walk_at "go"
      refine w_dec (fun h1 => ?_) (fun h1 => ?_)
      · walk_at "go"
        refine ⟨_, rfl, fun D nD => lc_map walk_str (fun i => .bl (isBit (z.cps.toList.getD i 0))) hl nD (fun _ _ => True.intro) (fun i x H1 H2 hi e1 y R hR => ?_) (fun H1 e1 hD => ?_)⟩
        · obtain ⟨rfl, c, hc, rfl⟩ := y
          walk_at "go"
          refine ⟨rfl, ?_⟩
          walk_at "go"
          have e : z.cps.toList.getD i 0 = c := by simp [hc]
          rw [in01, ← e]
          exact hR _ ex_refl
        · walk_at "go"
          have e : (List.range z.cps.size).map (fun i => V.bl (isBit (z.cps.toList.getD i 0))) = (z.cps.toList.map isBit).map V.bl := by
            have := map_at z.cps.toList (fun c => V.bl (isBit c))
            rw [Array.length_toList] at this
            rw [this, List.map_map]
            rfl
          rw [e] at hD
          refine v_all (sl_of hD) ?_
          have e2 : bits (.str z) m = (z.cps.toList.map isBit).all id := by simp [bits, h1]
          rw [← e2]
          exact q H1 e1
      · have e2 : bits (.str z) m = false := by simp [bits, h1]
        rw [← e2]
        exact q H ex_refl
    · have e2 : bits x m = false := by
        cases x with
        | str i => rw [kn_of_str hk] at hb; cases hb
        | _ => rfl
      rw [← e2]
      exact q H ex_refl
theorem ok_need_width (T : Txt K mg) (D_is_within : Dk P w K mg base (L2.CX P w) 2 "is_within" (spWithin K)) (X_BadWidth : Xk P w K mg base "RouteError" "BadWidth") : Dk P w K mg base (L2.CX P w) 4 "need_width" (spNeedWidth K) := by
  obtain ⟨fd, F⟩ := T.f_need_width
  refine ⟨_, fd, ["width"], F.ok sc_need_width (fun vs H Q E h => ?_) (fun cdv A outer s H vs Q E hr h => ⟨_, (pss_one (ps_if (pt_not (pt_val (LW.pe_d D_is_within hr (by omega) (by rfl) passL (pa_cons (pv 0) (pa_cons pe_int (pa_cons (C8.pe_gc (by rfl) T.c_MOST_BITS) pa_nil))))))
    (pss_one (ps_raise rfl (takes_of rfl rfl rfl rfl) (LW.pmk_x X_BadWidth hr (by omega) (by rfl) (pa_cons (pv 0) pa_nil)))) pss_nil)), ?_⟩), T.g_need_width, F.kp, F.bindsN fun _ _ _ _ _ _ us hl => match us, hl with | [_], _ => rfl⟩
  · obtain ⟨x, n, rfl, _⟩ := h
    rfl
  · obtain ⟨x, n, rfl, hk, q1, q2⟩ := h
    walk_at "go"
    refine ⟨x, n, 1, 64, rfl, hk, ?_⟩
    walk_at "go"
    refine w_ite (fun hb => ?_) (fun hb => ?_)
    · have e : within x 1 64 = false := by simpa using hb
      show tX _ _ _ _ _
      refine w_cons ?_
      walk_at "go"
      refine ⟨x, rfl, fun d H2 nd e2 hd => ?_⟩
      exact q2 e d H2 nd e2 hd
    · walk_at "go"
      exact q1 (by simpa using hb)
theorem ok_need_number (T : Txt K mg) (D_is_within : Dk P w K mg base (L2.CX P w) 2 "is_within" (spWithin K)) (X_BadNumber : Xk P w K mg base "RouteError" "BadNumber") : Dk P w K mg base (L2.CX P w) 4 "need_number" (spNeedNumber K) := by
  obtain ⟨fd, F⟩ := T.f_need_number
  refine ⟨_, fd, ["number", "width"], F.ok sc_need_number (fun vs H Q E h => ?_) (fun cdv A outer s H vs Q E hr h => ⟨_, (pss_one (ps_if (pt_not (pt_val (LW.pe_d D_is_within hr (by omega) (by rfl) passL (pa_cons (pv 0) (pa_cons pe_int (pa_cons (pe_op LW.o_sub (pe_op LW.o_shl pe_int (pv 1)) pe_int) pa_nil))))))
    (pss_one (ps_raise rfl (takes_of rfl rfl rfl rfl) (LW.pmk_x X_BadNumber hr (by omega) (by rfl) (pa_cons (pv 0) pa_nil)))) pss_nil)), ?_⟩), T.g_need_number, F.kp, F.bindsN fun _ _ _ _ _ _ us hl => match us, hl with | [_, _], _ => rfl⟩
  · obtain ⟨x, n, w', rfl, _⟩ := h
    rfl
  · obtain ⟨x, n, w', rfl, hk, hw, q1, q2⟩ := h
    walk_at "go"
    refine v_shl1 hw ?_
    walk_at "go"
    refine ⟨x, n, 0, _, rfl, hk, ?_⟩
    have e0 : (((2 ^ w' : Nat) : Int) - 1) = 2 ^ w' - 1 := by simp
    rw [e0]
    walk_at "go"
    refine w_ite (fun hb => ?_) (fun hb => ?_)
    · have e : within x 0 (2 ^ w' - 1) = false := by simpa using hb
      refine w_cons ?_
      walk_at "go"
      refine ⟨x, rfl, fun d H2 nd e2 hd => ?_⟩
      exact q2 e d H2 nd e2 hd
    · walk_at "go"
      exact q1 (by simpa using hb)
theorem ok_bits_told (T : Txt K mg) : Dk P w K mg base (L2.CX P w) 1 "bits_told" spBitsTold := by
  obtain ⟨fd, F⟩ := T.f_bits_told
  refine ⟨_, fd, ["number", "width"], F.ok sc_bits_told (fun vs H Q E h => ?_) (fun cdv A outer s H vs Q E hr h => ⟨_, (pss_one (ps_ret (LW.pe_jn pe_str (pe_lc (own := [("place", 2)]) (by rfl) sc_bits_told.nd (pi_range3 (by rfl) T.b_range (pa_cons (pe_op LW.o_sub (pv 1) pe_int) (pa_cons (pe_un un_neg pe_int) (pa_cons (pe_un un_neg pe_int) pa_nil)))) (blkOk_by (own := [("place", 2)]) (N := ["number", "width", "place"]) (sc := defScope s_bits_told) (by decide +kernel)) (fun _ _ _ _ _ => (pg_name (i := 2) sc_bits_told.nd rfl (Or.inl rfl))) (fun _ _ _ _ _ => pts_nil) (fun _ _ _ _ _ => (pe_callTy LW.c_str (by rfl) T.b_str (by decide +kernel) (pa_cons (pe_op LW.o_and (pe_op LW.o_shr (pv 0) (pv 2)) pe_int) pa_nil))))))), ?_⟩), T.g_bits_told, F.kp, F.bindsN fun _ _ _ _ _ _ us hl => match us, hl with | [_, _], _ => rfl⟩
  · obtain ⟨n, w', rfl, _⟩ := h
    rfl
  · obtain ⟨n, w', rfl, hw, q⟩ := h
    walk_at "go"
    refine ⟨_, _, _, w', rfl, rgc_down (by omega), fun D nD => lc_map walk_rangeC (fun i => .str (S [48 + n / 2 ^ (w' - 1 - i) % 2])) (by omega) nD (fun _ _ => True.intro) (fun i x H1 H2 hi e1 y R hR => ?_) (fun H1 e1 hD => ?_)⟩
    · obtain ⟨rfl, rfl⟩ := y
      walk_at "go"
      refine ⟨rfl, ?_⟩
      walk_at "go"
      have e : ((w' : Int) - 1 + (i : Nat) * (-1)) = ((w' - 1 - i : Nat) : Int) := by omega
      rw [e]
      refine v_shr ?_
      walk_at "go"
      refine v_and1 ?_
      walk_at "go"
      refine v_str (by have : n / 2 ^ (w' - 1 - i) % 2 < 2 := Nat.mod_lt _ (by decide)
                       have h2 : n / 2 ^ (w' - 1 - i) % 2 = 0 ∨ n / 2 ^ (w' - 1 - i) % 2 = 1 := by omega
                       rcases h2 with h2 | h2 <;> rw [h2] <;> decide +kernel) ?_
      rw [str01 _ (Nat.mod_lt _ (by decide))]
      exact hR _ ex_refl
    · have e : (List.range w').map (fun i => V.str (S [48 + n / 2 ^ (w' - 1 - i) % 2])) = ((bitsL n w').map fun c => S [c]).map V.str := by
        unfold bitsL
        rw [List.map_map, List.map_map]
        rfl
      rw [e] at hD
      exact v_jnS (sl_of hD) (by simp [bitsL]; omega) (q H1 e1)
end
end K34
namespace K34
open PySem PySem.Spec PyProof.Rows L2 LW SX
section
variable {P : Program} {w : World} {K : PySem.W.Frag} {mg : Str → Option Value} {base : Heap}
theorem ok_number_of (T : Txt K mg) (D_is_bits : Dk P w K mg base (L2.CX P w) 1 "is_bits" (spBits K)) (X_BadAddress : Xk P w K mg base "RouteError" "BadAddress") : Dk P w K mg base (L2.CX P w) 4 "number_of" (spNumberOf K) := by
  obtain ⟨fd, F⟩ := T.f_number_of
  refine ⟨_, fd, ["address"], F.ok sc_number_of (fun vs H Q E h => ?_) (fun cdv A outer s H vs Q E hr h => ⟨_, (pss_cons (ps_if (PW.pt (pw_or (pt_not (pt_val (LW.pe_d D_is_bits hr (by omega) (by rfl) passL (pa_cons (pv 0) (pa_cons pe_int pa_nil))))) (pw_or1 (pt_cmpR LW.o_eq (pv 0) pe_str (nomark _)))))
    (pss_one (ps_raise rfl (takes_of rfl rfl rfl rfl) (LW.pmk_x X_BadAddress hr (by omega) (by rfl) (pa_cons (pv 0) pa_nil)))) pss_nil)
    (pss_cons (ps_set (i := 1) sc_number_of.nd rfl (Or.inl rfl) pe_int)
    (pss_cons (ps_for (passes_of rfl) rfl (pi_str (pv 0)) (pg_name (i := 2) sc_number_of.nd rfl (Or.inl rfl))
    (pss_one (ps_set (i := 1) sc_number_of.nd rfl (Or.inl rfl) (pe_op LW.o_add (pe_op LW.o_mul pe_int (pv 1)) (pe_callTy LW.c_intS (by rfl) T.b_int (by decide +kernel) (pa_cons (pv 2) pa_nil))))))
    (pss_one (ps_ret (pv 1)))))), ?_⟩), T.g_number_of, F.kp, F.bindsN fun _ _ _ _ _ _ us hl => match us, hl with | [_], _ => rfl⟩
  · obtain ⟨x, n, rfl, _⟩ := h
    rfl
  · obtain ⟨x, n, rfl, hk, hz, q1, q2⟩ := h
    walk_at "go"
    refine ⟨x, n, 64, rfl, hk, hz, fun H1 e1 => ?_⟩
    walk_at "go"
    refine w_ite (fun hb => ?_) (fun hb => ?_)
    · walk_at "go"
      have e : bits x 64 = false := by simpa using hb
      refine w_cons ?_
      walk_at "go"
      refine ⟨x, rfl, fun d H2 nd e2 hd => ?_⟩
      exact q1 (.inl e) d H2 (ex_back e1 nd) (e1.trans e2) hd
    · have e : bits x 64 = true := by simpa using hb
      obtain ⟨z, rfl⟩ : ∃ z, x = .str z := by
        cases x with
        | str z => exact ⟨z, rfl⟩
        | _ => cases e
      walk_at "go"
      refine w_dec (fun h0 => ?_) (fun h0 => ?_)
      · refine w_cons ?_
        walk_at "go"
        refine ⟨.str z, rfl, fun d H2 nd e2 hd => ?_⟩
        refine q1 (.inr ?_) d H2 (ex_back e1 nd) (e1.trans e2) hd
        rw [h0]
        rfl
      · walk_at "go"
        have hl := hz z rfl
        have hall : z.cps.toList.all isBit = true := by
          unfold bits at e
          rw [Bool.and_eq_true] at e
          exact e.2
        refine ⟨z, rfl, for_x walk_str (fun i σ H' => ∃ v, σ = [some (.str z), some (.int (valL (z.cps.toList.take i) : Nat)), v] ∧ Ex H H') ⟨none, rfl, e1⟩ (fun _ _ _ _ _ => True.intro) (fun i x σ H2 H3 hi p y => ?_) (fun σ H2 p => ?_)⟩
        · obtain ⟨v, rfl, e2⟩ := p
          obtain ⟨rfl, c, hc, rfl⟩ := y
          walk_at "go"
          have hn : z.cps.toList.length ≤ 64 := by
            unfold bits at e
            rw [Bool.and_eq_true, decide_eq_true_eq] at e
            have e1 := e.1
            have e2 : z.length = z.cps.toList.length := rfl
            omega
          have hlt := val_take_lt hall i (by rw [Array.length_toList]; omega)
          have hp : 2 ^ i ≤ 2 ^ 64 := Nat.pow_le_pow_right (by decide) (by rw [Array.length_toList] at hn; omega)
          refine v_dbl (by omega) ?_
          walk_at "go"
          have hc' : z.cps.toList[i]? = some c := by rw [Array.getElem?_toList]; exact hc
          have hb' := List.all_eq_true.mp hall c (List.mem_of_getElem? hc')
          refine v_intS (int01 c hb') (by show 1 ≤ 640; decide) ?_
          walk_at "go"
          refine ⟨some (.str (S [c])), ?_, e2⟩
          have e3 : ((2 * valL (z.cps.toList.take i) : Nat) : Int) + ((c - 48 : Nat) : Int) = (valL (z.cps.toList.take (i + 1)) : Nat) := by
            rw [take_snoc hc', valL_snoc]
            omega
          rw [e3]
          rfl
        · obtain ⟨v, rfl, e2⟩ := p
          walk_at "go"
          have e3 : z.cps.toList.take z.cps.size = z.cps.toList := by
            rw [← Array.length_toList]
            exact List.take_length
          rw [e3]
          refine q2 e _ (by rw [S_tl]) (fun h9 => h0 ?_) _ e2
          rw [str_S z, h9]
          rfl
theorem ok_address_of (T : Txt K mg) (D_need_width : Dk P w K mg base (L2.CX P w) 4 "need_width" (spNeedWidth K)) (D_need_number : Dk P w K mg base (L2.CX P w) 4 "need_number" (spNeedNumber K)) (D_bits_told : Dk P w K mg base (L2.CX P w) 1 "bits_told" spBitsTold) : Dk P w K mg base (L2.CX P w) 5 "address_of" (spAddressOf K) := by
  obtain ⟨fd, F⟩ := T.f_address_of
  refine ⟨_, fd, ["number", "width"], F.ok sc_address_of (fun vs H Q E h => ?_) (fun cdv A outer s H vs Q E hr h => ⟨_, (pss_cons (ps_expr (LW.pe_d D_need_width hr (by omega) (by rfl) (passes_call (takes_of rfl rfl rfl rfl) (fun _ _ _ _ h => h)) (pa_cons (pv 1) pa_nil)))
    (pss_cons (ps_expr (LW.pe_d D_need_number hr (by omega) (by rfl) (passes_call (takes_of rfl rfl rfl rfl) (fun _ _ _ _ h => h)) (pa_cons (pv 0) (pa_cons (pv 1) pa_nil))))
    (pss_one (ps_ret (LW.pe_d D_bits_told hr (by omega) (by rfl) passL (pa_cons (pv 0) (pa_cons (pv 1) pa_nil))))))), ?_⟩), T.g_address_of, F.kp, F.bindsN fun _ _ _ _ _ _ us hl => match us, hl with | [_, _], _ => rfl⟩
  · obtain ⟨x, y, n, m, rfl, _⟩ := h
    rfl
  · obtain ⟨x, y, n, m, rfl, hk, hk2, q1, q2⟩ := h
    walk_at "go"
    refine ⟨y, m, rfl, hk2, fun hw => ?_, fun hw => q1 hw⟩
    obtain ⟨w', rfl, h1, h64⟩ : ∃ w' : Nat, y = .int (w' : Int) ∧ 1 ≤ w' ∧ w' ≤ 64 := by
      cases y with
      | int i =>
        unfold within at hw
        simp only [Bool.and_eq_true, decide_eq_true_eq] at hw
        exact ⟨i.toNat, by rw [Int.toNat_of_nonneg (by omega)], by omega, by omega⟩
      | _ => cases hw
    obtain ⟨q3, q4⟩ := q2 w' rfl h1 h64
    walk_at "go"
    refine ⟨x, n, w', rfl, hk, by omega, fun hx => ?_, fun hx => q3 hx⟩
    obtain ⟨k, rfl, hlt⟩ : ∃ k : Nat, x = .int (k : Int) ∧ k < 2 ^ w' := by
      cases x with
      | int i =>
        unfold within at hx
        simp only [Bool.and_eq_true, decide_eq_true_eq] at hx
        refine ⟨i.toNat, by rw [Int.toNat_of_nonneg (by omega)], ?_⟩
        have e : ((2 ^ w' : Nat) : Int) = 2 ^ w' := by simp
        omega
      | _ => cases hx
    walk_at "go"
    exact ⟨k, w', rfl, by omega, fun H' e' => q4 k rfl hlt H' e'⟩
theorem ok_range_of (T : Txt K mg) (D_need_width : Dk P w K mg base (L2.CX P w) 4 "need_width" (spNeedWidth K)) (D_is_bits : Dk P w K mg base (L2.CX P w) 1 "is_bits" (spBits K)) (X_BadPrefix : Xk P w K mg base "RouteError" "BadPrefix") : Dk P w K mg base (L2.CX P w) 5 "range_of" (spRangeOf K) := by
  obtain ⟨fd, F⟩ := T.f_range_of
  refine ⟨_, fd, ["prefix", "width"], F.ok sc_range_of (fun vs H Q E h => ?_) (fun cdv A outer s H vs Q E hr h => ⟨_, (pss_cons (ps_expr (LW.pe_d D_need_width hr (by omega) (by rfl) (passes_call (takes_of rfl rfl rfl rfl) (fun _ _ _ _ h => h)) (pa_cons (pv 1) pa_nil)))
    (pss_cons (ps_if (pt_not (pt_val (LW.pe_d D_is_bits hr (by omega) (by rfl) passL (pa_cons (pv 0) (pa_cons (pv 1) pa_nil)))))
    (pss_one (ps_raise rfl (takes_of rfl rfl rfl rfl) (LW.pmk_x X_BadPrefix hr (by omega) (by rfl) (pa_cons (pv 0) pa_nil)))) pss_nil)
    (pss_cons (ps_set (i := 2) sc_range_of.nd rfl (Or.inl rfl) pe_int)
    (pss_cons (ps_for (passes_of rfl) rfl (pi_str (pv 0)) (pg_name (i := 3) sc_range_of.nd rfl (Or.inl rfl))
    (pss_one (ps_set (i := 2) sc_range_of.nd rfl (Or.inl rfl) (pe_op LW.o_add (pe_op LW.o_mul pe_int (pv 2)) (pe_callTy LW.c_intS (by rfl) T.b_int (by decide +kernel) (pa_cons (pv 3) pa_nil))))))
    (pss_cons (ps_set (i := 4) sc_range_of.nd rfl (Or.inl rfl) (pe_op LW.o_sub (pv 1) (pe_callB LW.c_lenS (by rfl) T.b_len (by decide +kernel) (pa_cons (pv 0) pa_nil))))
    (pss_one (ps_ret (LW.pe_tp (pa_cons (pe_op LW.o_shl (pv 2) (pv 4)) (pa_cons (pe_op LW.o_sub (pe_op LW.o_shl (pe_op LW.o_add (pv 2) pe_int) (pv 4)) pe_int) pa_nil)))))))))), ?_⟩), T.g_range_of, F.kp, F.bindsN fun _ _ _ _ _ _ us hl => match us, hl with | [_, _], _ => rfl⟩
  · obtain ⟨x, y, n, m, rfl, _⟩ := h
    rfl
  · obtain ⟨x, y, n, m, rfl, hk, hk2, hz, q1, q2⟩ := h
    walk_at "go"
    refine ⟨y, m, rfl, hk2, fun hw => ?_, fun hw => q1 hw⟩
    obtain ⟨w', rfl, h1, h64⟩ : ∃ w' : Nat, y = .int (w' : Int) ∧ 1 ≤ w' ∧ w' ≤ 64 := by
      cases y with
      | int i =>
        unfold within at hw
        simp only [Bool.and_eq_true, decide_eq_true_eq] at hw
        exact ⟨i.toNat, by rw [Int.toNat_of_nonneg (by omega)], by omega, by omega⟩
      | _ => cases hw
    obtain ⟨q3, q4⟩ := q2 w' rfl h1 h64
    walk_at "go"
    refine ⟨x, n, w', rfl, hk, hz, fun H1 e1 => ?_⟩
    walk_at "go"
    refine w_ite (fun hb => ?_) (fun hb => ?_)
    · walk_at "go"
      have e : bits x w' = false := by simpa using hb
      refine w_cons ?_
      walk_at "go"
      refine ⟨x, rfl, fun d H2 nd e2 hd => ?_⟩
      exact q3 e d H2 (ex_back e1 nd) (e1.trans e2) hd
    · have e : bits x w' = true := by simpa using hb
      obtain ⟨z, rfl⟩ : ∃ z, x = .str z := by
        cases x with
        | str z => exact ⟨z, rfl⟩
        | _ => cases e
      walk_at "go"
      have hl := hz z rfl
      have hall : z.cps.toList.all isBit = true := by
        unfold bits at e
        rw [Bool.and_eq_true] at e
        exact e.2
      have hn : z.length ≤ w' := by
        unfold bits at e
        rw [Bool.and_eq_true, decide_eq_true_eq] at e
        have e1 := e.1
        omega
      refine ⟨z, rfl, for_x walk_str (fun i σ H' => ∃ v, σ = [some (.str z), some (.int (w' : Int)), some (.int (valL (z.cps.toList.take i) : Nat)), v, none] ∧ Ex H H') ⟨none, rfl, e1⟩ (fun _ _ _ _ _ => True.intro) (fun i x σ H2 H3 hi p y => ?_) (fun σ H2 p => ?_)⟩
      · obtain ⟨v, rfl, e2⟩ := p
        obtain ⟨rfl, c, hc, rfl⟩ := y
        walk_at "go"
        have hs : z.cps.size = z.length := rfl
        have hlt := val_take_lt hall i (by rw [Array.length_toList]; omega)
        have hp : 2 ^ i ≤ 2 ^ 64 := Nat.pow_le_pow_right (by decide) (by omega)
        refine v_dbl (by omega) ?_
        walk_at "go"
        have hc' : z.cps.toList[i]? = some c := by rw [Array.getElem?_toList]; exact hc
        have hb' := List.all_eq_true.mp hall c (List.mem_of_getElem? hc')
        refine v_intS (int01 c hb') (by show 1 ≤ 640; decide) ?_
        walk_at "go"
        refine ⟨some (.str (S [c])), ?_, e2⟩
        have e3 : ((2 * valL (z.cps.toList.take i) : Nat) : Int) + ((c - 48 : Nat) : Int) = (valL (z.cps.toList.take (i + 1)) : Nat) := by
          rw [take_snoc hc', valL_snoc]
          omega
        rw [e3]
        rfl
      · obtain ⟨v, rfl, e2⟩ := p
        have e3 : z.cps.toList.take z.cps.size = z.cps.toList := by
          rw [← Array.length_toList]
          exact List.take_length
        rw [e3]
        walk_at "go"
        refine v_lenS hl ?_
        walk_at "go"
        have e4 : (w' : Int) - (z.length : Int) = ((w' - z.length : Nat) : Int) := by omega
        rw [e4]
        have hv := val_lt hall
        have hp : 2 ^ z.cps.toList.length ≤ 2 ^ 64 := Nat.pow_le_pow_right (by decide) (by rw [Array.length_toList]; exact Nat.le_trans hn h64)
        refine v_shl (Nat.lt_of_le_of_lt (show valL z.cps.toList ≤ 2 ^ 64 by omega) (by decide)) (by omega) ?_
        walk_at "go"
        have e5 : (valL z.cps.toList : Int) + 1 = ((valL z.cps.toList + 1 : Nat) : Int) := by omega
        rw [e5]
        refine v_shl (Nat.lt_of_le_of_lt (show valL z.cps.toList + 1 ≤ 2 ^ 64 by omega) (by decide)) (by omega) ?_
        walk_at "go"
        refine w_new (by simp) fun p H' np e' hp' => ?_
        exact q4 e _ (by rw [S_tl]) p H' (ex_back e2 np) (e2.trans e') hp'
end
end K34
namespace K34
open PySem PySem.Spec PyProof.Rows L2 LW SX
section
variable {P : Program} {w : World} {K : PySem.W.Frag} {mg : Str → Option Value} {base : Heap}
theorem ok_blocks_between (T : Txt K mg) (D_bits_told : Dk P w K mg base (L2.CX P w) 1 "bits_told" spBitsTold) : Dk P w K mg base (L2.CX P w) 2 "blocks_between" spBlocksBetween := by
  obtain ⟨fd, F⟩ := T.f_blocks_between
  refine ⟨_, fd, ["low", "high", "width"], F.ok sc_blocks_between (fun vs H Q E h => ?_) (fun cdv A outer s H vs Q E hr h => ⟨_, (pss_cons (ps_set (i := 3) sc_blocks_between.nd rfl (Or.inl rfl) (LW.pe_ls pa_nil))
    (pss_cons (ps_while (passes_of rfl) (pt_cmpR LW.o_le (pv 0) (pv 1) (nomark _))
    (pss_cons (ps_set (i := 4) sc_blocks_between.nd rfl (Or.inl rfl) pe_int)
    (Evl.pss_cut (ps_while (passes_of rfl) (PW.pt (pw_and (pt_cmpR LW.o_lt (pv 4) (pv 2) (nomark _)) (pw_and (pt_cmpR LW.o_eq (pe_op LW.o_mod (pv 0) (pe_op LW.o_shl pe_int (pe_op LW.o_add (pv 4) pe_int))) pe_int (nomark _)) (pw_and1 (pt_cmpR LW.o_le (pe_op LW.o_sub (pe_op LW.o_add (pv 0) (pe_op LW.o_shl pe_int (pe_op LW.o_add (pv 4) pe_int))) pe_int) (pv 1) (nomark _))))))
    (pss_one (ps_aug (i := 4) sc_blocks_between.nd rfl (Or.inl rfl) pe_int ip_add)))
    (pss_cons (ps_expr (pe_bm PySem.F.plainAttrs_list PySem.F.slot_list_append PySem.F.type_list_append LW.m_append (pv 3) (pa_cons (pe_slice LW.sl_str (LW.pe_d D_bits_told hr (by omega) (by rfl) passL (pa_cons (pv 0) (pa_cons (pv 2) pa_nil))) po_none (po_some (pe_op LW.o_sub (pv 2) (pv 4)))) pa_nil)))
    (pss_one (ps_aug (i := 0) sc_blocks_between.nd rfl (Or.inl rfl) (pe_op LW.o_shl pe_int (pv 4)) ip_add))))))
    (pss_one (ps_ret (pv 3))))), ?_⟩), T.g_blocks_between, F.kp, F.bindsN fun _ _ _ _ _ _ us hl => match us, hl with | [_, _, _], _ => rfl⟩
  · obtain ⟨x, n, m, rfl, _⟩ := h
    rfl
  · obtain ⟨lo, hi, w', rfl, h1, h64, hle, hlt, q⟩ := h
    have hfew := M34.all_few (w := w') (low := lo) (hi := hi) h1 hlt (by omega)
    walk_at "go"
    refine w_new (by simp) fun l H1 nl e1 hl => ?_
    refine w_while (fun m σ H' => ∃ (a : Nat) (done : List (Nat × Nat)) (v : Option V), m = hi + 1 - a ∧ a ≤ hi + 1 ∧ σ = [some (.int (a : Int)), some (.int (hi : Int)), some (.int (w' : Int)), some (.ref l), v] ∧ Ex H H' ∧ H' l = some (.lst (blkV w' done)) ∧ done ++ M34.all w' hi a = M34.all w' hi lo) _
      ⟨lo, [], none, rfl, by omega, rfl, e1, hl, rfl⟩ (fun m σ H2 hw => ?_)
    obtain ⟨a, done, v, rfl, ha, rfl, e2, hl2, hd⟩ := hw
    walk_at "go"
    refine w_dec (fun hc => ?_) (fun hc => ?_)
    · have hc' : a ≤ hi := by omega
      refine v_N ?_
      walk_at "go"
      refine Evl.q_cut (M := fun σ' H' => σ' = [some (.int (a : Int)), some (.int (hi : Int)), some (.int (w' : Int)), some (.ref l), some (.int (M34.ex w' a hi : Nat))] ∧ H' = H2) ?_ ?_
      · refine w_while (fun m σ H' => ∃ j : Nat, m = w' - j ∧ j ≤ w' ∧ σ = [some (.int (a : Int)), some (.int (hi : Int)), some (.int (w' : Int)), some (.ref l), some (.int (j : Int))] ∧ H' = H2 ∧ M34.grow w' a hi (w' + 1 - j) j = M34.ex w' a hi) _
          ⟨0, rfl, by omega, rfl, rfl, rfl⟩ (fun m σ H3 hw => ?_)
        obtain ⟨j, rfl, hj, rfl, rfl, hg⟩ := hw
        obtain ⟨k, hk⟩ : ∃ k, w' + 1 - j = k + 1 := ⟨w' - j, by omega⟩
        rw [hk] at hg
        unfold M34.grow at hg
        have ej : (j : Int) + 1 = ((j + 1 : Nat) : Int) := by omega
        have hp := M34.p2 (j + 1)
        have stop : ¬ (j < w' ∧ a % 2 ^ (j + 1) = 0 ∧ a + 2 ^ (j + 1) ≤ hi + 1) → M34.ex w' a hi = j := fun h => by
          rw [if_neg h] at hg
          exact hg.symm
        walk_at "go"
        refine w_dec (fun c1 => ?_) (fun c1 => ?_)
        · walk_at "go"
          rw [ej]
          refine v_shl1 (by omega) ?_
          walk_at "go"
          refine v_mod (by omega) ?_
          walk_at "go"
          refine w_dec (fun c2 => ?_) (fun c2 => ?_)
          · walk_at "go"
            rw [ej]
            refine v_shl1 (by omega) ?_
            walk_at "go"
            refine w_dec (fun c3 => ?_) (fun c3 => ?_)
            · refine v_N ?_
              walk_at "go"
              rw [ej]
              have hc3 : j < w' ∧ a % 2 ^ (j + 1) = 0 ∧ a + 2 ^ (j + 1) ≤ hi + 1 := ⟨by omega, by omega, by omega⟩
              rw [if_pos hc3] at hg
              exact ⟨w' - (j + 1), by omega, j + 1, rfl, by omega, rfl, rfl, by rw [show w' + 1 - (j + 1) = k by omega]; exact hg⟩
            · have := stop (fun h => c3 (by have := h.2.2; omega))
              rw [this]
              exact ⟨rfl, rfl⟩
          · have := stop (fun h => c2 (by have := h.2.1; omega))
            rw [this]
            exact ⟨rfl, rfl⟩
        · have := stop (fun h => c1 (by have := h.1; omega))
          rw [this]
          exact ⟨rfl, rfl⟩
      · rintro σ3 H3 ⟨rfl, rfl⟩
        have g := M34.ex_good (w := w') hc'
        have gl := g.le
        have gf := g.fit
        have hp := M34.p2 (M34.ex w' a hi)
        have hst := M34.all_step (w := w') hc'
        walk_at "go"
        refine ⟨ty_list hl2, ?_⟩
        walk_at "go"
        refine ⟨a, w', rfl, by omega, fun H4 e4 => ?_⟩
        walk_at "go"
        have em : (w' : Int) - (M34.ex w' a hi : Nat) = ((w' - M34.ex w' a hi : Nat) : Int) := by omega
        rw [em]
        refine v_slS (by show (bitsL a w').length ≤ 100000; simp [bitsL]; omega) ?_
        rw [cut_to]
        walk_at "go"
        have hdl : done.length ≤ 200 := by
          have : done.length + (M34.all w' hi a).length = (M34.all w' hi lo).length := by rw [← hd, List.length_append]
          omega
        refine v_app (e4 _ _ hl2) (by unfold blkV; rw [List.length_map]; omega) ?_
        refine g_put fun H5 e5 hl5 => ?_
        walk_at "go"
        refine v_shl1 (by omega) ?_
        walk_at "go"
        refine ⟨hi + 1 - (a + 2 ^ M34.ex w' a hi), by omega, a + 2 ^ M34.ex w' a hi, done ++ [(a, M34.ex w' a hi)], some (.int (M34.ex w' a hi : Nat)), rfl, by omega, by simp, e5.ex (e2.trans e4) nl, ?_, ?_⟩
        · rw [hl5]
          unfold blkV
          rw [List.map_append]
          rfl
        · rw [List.append_assoc, ← hd, hst]
          rfl
    · walk_at "go"
      have : a = hi + 1 := by omega
      subst this
      rw [M34.all_end (by omega), List.append_nil] at hd
      rw [hd] at hl2
      exact q l _ nl e2 hl2
theorem ok_range_blocks (T : Txt K mg) (D_need_width : Dk P w K mg base (L2.CX P w) 4 "need_width" (spNeedWidth K)) (D_need_number : Dk P w K mg base (L2.CX P w) 4 "need_number" (spNeedNumber K)) (D_blocks_between : Dk P w K mg base (L2.CX P w) 2 "blocks_between" spBlocksBetween)
    (X_BadNumber : Xk P w K mg base "RouteError" "BadNumber") : Dk P w K mg base (L2.CX P w) 5 "range_blocks" (spRangeBlocks K) := by
  obtain ⟨fd, F⟩ := T.f_range_blocks
  refine ⟨_, fd, ["low", "high", "width"], F.ok sc_range_blocks (fun vs H Q E h => ?_) (fun cdv A outer s H vs Q E hr h => ⟨_, (pss_cons (ps_expr (LW.pe_d D_need_width hr (by omega) (by rfl) (passes_call (takes_of rfl rfl rfl rfl) (fun _ _ _ _ h => h)) (pa_cons (pv 2) pa_nil)))
    (pss_cons (ps_expr (LW.pe_d D_need_number hr (by omega) (by rfl) (passes_call (takes_of rfl rfl rfl rfl) (fun _ _ _ _ h => h)) (pa_cons (pv 0) (pa_cons (pv 2) pa_nil))))
    (pss_cons (ps_expr (LW.pe_d D_need_number hr (by omega) (by rfl) (passes_call (takes_of rfl rfl rfl rfl) (fun _ _ _ _ h => h)) (pa_cons (pv 1) (pa_cons (pv 2) pa_nil))))
    (pss_cons (ps_if (pt_cmpR LW.o_lt (pv 1) (pv 0) (nomark _))
    (pss_one (ps_raise rfl (takes_of rfl rfl rfl rfl) (LW.pmk_x X_BadNumber hr (by omega) (by rfl) (pa_cons (pv 1) pa_nil)))) pss_nil)
    (pss_one (ps_ret (pe_callTy LW.c_tuple (by rfl) T.b_tuple (by decide +kernel) (pa_cons (LW.pe_d D_blocks_between hr (by omega) (by rfl) passL (pa_cons (pv 0) (pa_cons (pv 1) (pa_cons (pv 2) pa_nil)))) pa_nil)))))))), ?_⟩), T.g_range_blocks, F.kp, F.bindsN fun _ _ _ _ _ _ us hl => match us, hl with | [_, _, _], _ => rfl⟩
  · obtain ⟨x, y, z, n, m, k, rfl, _⟩ := h
    rfl
  · obtain ⟨x, y, z, n, m, k, rfl, hx, hy, hz, q1, q2⟩ := h
    walk_at "go"
    refine ⟨z, k, rfl, hz, fun c1 => ?_, fun c1 => q1 c1⟩
    obtain ⟨w', rfl, h1, h64⟩ := within_width c1
    obtain ⟨q3, q4⟩ := q2 w' rfl h1 h64
    walk_at "go"
    refine ⟨x, n, w', rfl, hx, by omega, fun c2 => ?_, fun c2 => q3 c2⟩
    obtain ⟨lo, rfl, hlo⟩ := within_nat c2
    obtain ⟨q5, q6⟩ := q4 lo rfl hlo
    walk_at "go"
    refine ⟨y, m, w', rfl, hy, by omega, fun c3 => ?_, fun c3 => q5 c3⟩
    obtain ⟨hi, rfl, hhi⟩ := within_nat c3
    obtain ⟨q7, q8⟩ := q6 hi rfl hhi
    walk_at "go"
    refine w_dec (fun c4 => ?_) (fun c4 => ?_)
    · refine w_cons ?_
      walk_at "go"
      exact ⟨_, rfl, fun d H2 nd e2 hd => q7 (by omega) d H2 nd e2 hd⟩
    · walk_at "go"
      refine ⟨lo, hi, w', rfl, h1, h64, by omega, hhi, fun l H1 nl e1 hl => ?_⟩
      walk_at "go"
      refine v_tupL (sl_of hl) fun t H2 nt e2 ht => ?_
      exact q8 (by omega) t H2 (ex_back e1 nt) (e1.trans e2) ht
end
end K34
namespace K34
open PySem PySem.Spec PyProof.Rows L2 LW SX
section
variable {P : Program} {w : World} {K : PySem.W.Frag} {mg : Str → Option Value} {base : Heap}
theorem ok__law_taken (T : Txt K mg) : Dk P w K mg base (L2.CX P w) 1 "_law_taken" (spTaken K) := by
  obtain ⟨fd, F⟩ := T.f__law_taken
  refine ⟨_, fd, ["row", "many"], F.ok sc__law_taken (fun vs H Q E h => ?_) (fun cdv A outer s H vs Q E hr h => ⟨_, (pss_cons (ps_if (pt_cmpR LW.o_gt (pe_ix LW.ix_list (pv 0) pe_int (fun _ _ => rfl)) pe_int (nomark _))
    (pss_cons (ps_set (i := 2) sc__law_taken.nd rfl (Or.inl rfl) (pe_op LW.o_mod (pe_callTy LW.c_int (by rfl) T.b_int (by decide +kernel) (pa_cons (pe_ix LW.ix_list (pv 0) pe_int (fun _ _ => rfl)) pa_nil)) (pv 1)))
    (pss_cons (ps_asg (pe_op LW.o_fdiv (pe_ix LW.ix_list (pv 0) pe_int (fun _ _ => rfl)) (pv 1)) (pg_sub (pv 0) pe_int LW.set_l))
    (pss_one (ps_ret (pv 2))))) pss_nil)
    (pss_cons (ps_asg (pe_op LW.o_add (pe_ix LW.ix_list (pv 0) pe_int (fun _ _ => rfl)) pe_int) (pg_sub (pv 0) pe_int LW.set_l))
    (pss_cons (ps_if (pt_cmpR LW.o_gt (pe_ix LW.ix_list (pv 0) pe_int (fun _ _ => rfl)) (pe_callB LW.c_lenQ (by rfl) T.b_len (by decide +kernel) (pa_cons (pe_ix LW.ix_list (pv 0) pe_int (fun _ _ => rfl)) pa_nil)) (nomark _))
    (pss_cons (ps_asg (pe_op LW.o_mod (pe_callTy LW.c_int (by rfl) T.b_int (by decide +kernel) (pa_cons (pe_op LW.o_add (pe_op LW.o_mul (pe_ix LW.ix_list (pv 0) pe_int (fun _ _ => rfl)) pe_int) pe_int) pa_nil)) pe_int) (pg_sub (pv 0) pe_int LW.set_l))
    (pss_one (ps_ret (pe_op LW.o_mod (pe_callTy LW.c_int (by rfl) T.b_int (by decide +kernel) (pa_cons (pe_op LW.o_fdiv (pe_ix LW.ix_list (pv 0) pe_int (fun _ _ => rfl)) pe_int) pa_nil)) (pv 1))))) pss_nil)
    (pss_cons (ps_set (i := 3) sc__law_taken.nd rfl (Or.inl rfl) (pe_ix LW.ix_list (pe_ix LW.ix_list (pv 0) pe_int (fun _ _ => rfl)) (pe_op LW.o_sub (pe_ix LW.ix_list (pv 0) pe_int (fun _ _ => rfl)) pe_int) (fun _ _ => rfl)))
    (pss_cons (ps_asg (pe_op LW.o_mod (pe_callTy LW.c_int (by rfl) T.b_int (by decide +kernel) (pa_cons (pe_op LW.o_add (pe_op LW.o_add (pe_op LW.o_mul (pe_ix LW.ix_list (pv 0) pe_int (fun _ _ => rfl)) pe_int) (pv 3)) pe_int) pa_nil)) pe_int) (pg_sub (pv 0) pe_int LW.set_l))
    (pss_cons (ps_if (pt_cmpR LW.o_ge (pv 3) (pe_op LW.o_pow pe_int pe_int) (nomark _))
    (pss_one (ps_asg (pe_op LW.o_fdiv (pv 3) (pv 1)) (pg_sub (pv 0) pe_int LW.set_l))) pss_nil)
    (pss_one (ps_ret (pe_op LW.o_mod (pe_callTy LW.c_int (by rfl) T.b_int (by decide +kernel) (pa_cons (pv 3) pa_nil)) (pv 1)))))))))), ?_⟩), T.g__law_taken, F.kp, F.bindsN fun _ _ _ _ _ _ us hl => match us, hl with | [_, _], _ => rfl⟩
  · obtain ⟨r, sc, many, rfl, _⟩ := h
    rfl
  · obtain ⟨r, ⟨a, ns⟩, many, rfl, ⟨i, m, c, R⟩, h0, h62, q⟩ := h
    obtain ⟨hr0, sq, few, i0, m0, c0⟩ := R
    have pos : (0 : Int) < many := by omega
    have lt64 : (0 : Int) < many ∧ (many : Int) < 2 ^ 64 := ⟨pos, by omega⟩
    have modN : ∀ z : Int, ∃ v : Nat, z % many = (v : Int) ∧ v < many := fun z => ⟨(z % many).toNat, by rw [Int.toNat_of_nonneg (Int.emod_nonneg _ (by omega))], by have := Int.emod_nonneg z (show (many : Int) ≠ 0 by omega); have := Int.emod_lt_of_pos z pos; omega⟩
    walk_at "go"
    refine v_ixL (sl_of hr0) (show _ = some (.int c) by rfl) ?_
    walk_at "go"
    refine w_dec (fun hc => ?_) (fun hc => ?_)
    · walk_at "go"
      refine v_ixL (sl_of hr0) (show _ = some (.int c) by rfl) ?_
      walk_at "go"
      refine v_mod pos ?_
      walk_at "go"
      refine v_ixL (sl_of hr0) (show _ = some (.int c) by rfl) ?_
      walk_at "go"
      refine v_divS lt64 ?_
      walk_at "go"
      refine v_setL hr0 (show _ = some 3 by rfl) ?_
      refine g_put fun H1 e1 h1 => ?_
      walk_at "go"
      obtain ⟨v, e, hv⟩ := modN c
      rw [e]
      exact q v H1 hv e1 ⟨i, m, c / many, h1, row_sq sq hr0 e1, few, i0, m0, Int.ediv_nonneg c0 (by omega)⟩
    · walk_at "go"
      refine v_ixL (sl_of hr0) (show _ = some (.int i) by rfl) ?_
      walk_at "go"
      refine v_setL hr0 (show _ = some 1 by rfl) ?_
      refine g_put fun H1 e1 h1 => ?_
      have sq1 := row_sq sq hr0 e1
      walk_at "go"
      refine v_ixL (sl_of h1) (show _ = some (.int (i + 1)) by rfl) ?_
      walk_at "go"
      refine v_ixL (sl_of h1) (show _ = some (.ref a) by rfl) ?_
      walk_at "go"
      refine v_lenL sq1 ?_
      walk_at "go"
      refine w_dec (fun hi => ?_) (fun hi => ?_)
      · walk_at "go"
        refine v_ixL (sl_of h1) (show _ = some (.int m) by rfl) ?_
        walk_at "go"
        refine v_mulS (by omega) (by omega) ?_
        walk_at "go"
        refine v_mod (by omega) ?_
        walk_at "go"
        refine v_setL h1 (show _ = some 2 by rfl) ?_
        refine g_put fun H2 e2 h2 => ?_
        walk_at "go"
        refine v_ixL (sl_of h2) (show _ = some (.int ((m * 48271 + 11) % 2147483647)) by rfl) ?_
        walk_at "go"
        refine v_divS (by omega) ?_
        walk_at "go"
        refine v_mod pos ?_
        obtain ⟨v, e, hv⟩ := modN ((m * 48271 + 11) % 2147483647 / 7)
        rw [e]
        exact q v H2 hv (e1.trans e2) ⟨i + 1, (m * 48271 + 11) % 2147483647, c, h2, row_sq sq1 h1 e2, few, by omega, by omega, c0⟩
      · walk_at "go"
        refine v_ixL (sl_of h1) (show _ = some (.ref a) by rfl) ?_
        walk_at "go"
        refine v_ixL (sl_of h1) (show _ = some (.int (i + 1)) by rfl) ?_
        walk_at "go"
        rw [List.length_map] at hi
        obtain ⟨z, hz⟩ : ∃ z, ns[i.toNat]? = some z := ⟨_, List.getElem?_eq_getElem (by omega)⟩
        have ei : (i + 1 - 1 : Int) = (i.toNat : Int) := by omega
        rw [ei]
        refine v_ixL sq1 (atI_nat (v := .int z) (by rw [List.getElem?_map, hz]; rfl)) ?_
        walk_at "go"
        refine v_ixL (sl_of h1) (show _ = some (.int m) by rfl) ?_
        walk_at "go"
        refine v_mulS (by omega) (by omega) ?_
        walk_at "go"
        refine v_mod (by omega) ?_
        walk_at "go"
        refine v_setL h1 (show _ = some 2 by rfl) ?_
        refine g_put fun H2 e2 h2 => ?_
        have sq2 := row_sq sq1 h1 e2
        have m2 := Int.emod_nonneg (m * 48271 + z + 11) (show (2147483647 : Int) ≠ 0 by decide)
        have m3 := Int.emod_lt_of_pos (m * 48271 + z + 11) (show (0 : Int) < 2147483647 by decide)
        obtain ⟨v, e, hv⟩ := modN z
        walk_at "go"
        refine v_I (C := CPow) (show CPow 10 18 from ⟨by decide, by decide, by decide⟩) ?_
        walk_at "go"
        refine w_dec (fun hz => ?_) (fun hz => ?_)
        · walk_at "go"
          refine v_divS lt64 ?_
          walk_at "go"
          refine v_setL h2 (show _ = some 3 by rfl) ?_
          refine g_put fun H3 e3 h3 => ?_
          walk_at "go"
          refine v_mod pos ?_
          rw [e]
          exact q v H3 hv ((e1.trans e2).trans e3) ⟨i + 1, _, z / many, h3, row_sq sq2 h2 e3, few, by omega, ⟨m2, m3⟩, Int.ediv_nonneg (Int.le_trans (by decide +kernel) hz) (by omega)⟩
        · walk_at "go"
          refine v_mod pos ?_
          rw [e]
          exact q v H2 hv (e1.trans e2) ⟨i + 1, _, c, h2, sq2, few, by omega, ⟨m2, m3⟩, c0⟩
theorem ok__law_pick (T : Txt K mg) (D__law_taken : Dk P w K mg base (L2.CX P w) 1 "_law_taken" (spTaken K)) : Dk P w K mg base (L2.CX P w) 2 "_law_pick" (spPick K) := by
  obtain ⟨fd, F⟩ := T.f__law_pick
  refine ⟨_, fd, ["row", "some"], F.ok sc__law_pick (fun vs H Q E h => ?_) (fun cdv A outer s H vs Q E hr h => ⟨_, (pss_one (ps_ret (pe_ix LW.ix_lt (pv 1) (LW.pe_d D__law_taken hr (by omega) (by rfl) passL (pa_cons (pv 0) (pa_cons (pe_callB LW.c_lenQ (by rfl) T.b_len (by decide +kernel) (pa_cons (pv 1) pa_nil)) pa_nil))) (fun _ _ => rfl)))), ?_⟩), T.g__law_pick, F.kp, F.bindsN fun _ _ _ _ _ _ us hl => match us, hl with | [_, _], _ => rfl⟩
  · obtain ⟨r, l, sc, ys, rfl, _⟩ := h
    rfl
  · obtain ⟨r, l, sc, ys, rfl, hrow, hl, hne, hlen, q⟩ := h
    have h0 : 0 < ys.length := List.length_pos_iff.mpr hne
    have go : ∀ (v : Nat) H', v < ys.length → Exc r H H' → RowOk K sc H' r → rIxL K (.ref l) (.int (v : Int)) H' Q ∨ rIxT K (.ref l) (.int (v : Int)) H' Q := fun v H' hv e ro => by
      obtain ⟨y, hy⟩ : ∃ y, ys[v]? = some y := ⟨_, List.getElem?_eq_getElem hv⟩
      have hm := List.mem_of_getElem? hy
      rcases hl with ⟨hl, ne⟩ | hl
      · exact .inl (v_ixL (sl_of (e l _ ne hl)) (atI_nat hy) (q y hm H' e ro))
      · exact .inr (v_ixT (st_of (hrow.keep e hl (fun _ z => by cases z))) (atI_nat hy) (q y hm H' e ro))
    walk_at "go"
    have hl2 : SqL K H l ys ∨ SqT K H l ys := by
      rcases hl with ⟨hl, _⟩ | hl
      · exact .inl (sl_of hl)
      · exact .inr (st_of hl)
    refine ⟨l, ys, rfl, hl2, ?_⟩
    walk_at "go"
    exact ⟨r, sc, ys.length, rfl, hrow, h0, by omega, go⟩
theorem ok__law_bits (T : Txt K mg) (D__law_taken : Dk P w K mg base (L2.CX P w) 1 "_law_taken" (spTaken K)) : Dk P w K mg base (L2.CX P w) 2 "_law_bits" (spLawBits K) := by
  obtain ⟨fd, F⟩ := T.f__law_bits
  refine ⟨_, fd, ["row", "most"], F.ok sc__law_bits (fun vs H Q E h => ?_) (fun cdv A outer s H vs Q E hr h => ⟨_, (pss_cons (ps_set (i := 2) sc__law_bits.nd rfl (Or.inl rfl) (LW.pe_d D__law_taken hr (by omega) (by rfl) passL (pa_cons (pv 0) (pa_cons (pe_op LW.o_add (pv 1) pe_int) pa_nil))))
    (Evl.pss_cut (ps_if (pt_cmpR LW.o_gt (LW.pe_d D__law_taken hr (by omega) (by rfl) passL (pa_cons (pv 0) (pa_cons pe_int pa_nil))) pe_int (nomark _))
    (pss_one (ps_set (i := 2) sc__law_bits.nd rfl (Or.inl rfl) (pe_callB (LW.c_min2 rfl) (by rfl) T.b_min (by decide +kernel) (pa_cons (pv 2) (pa_cons (pe_op LW.o_add pe_int (LW.pe_d D__law_taken hr (by omega) (by rfl) passL (pa_cons (pv 0) (pa_cons pe_int pa_nil)))) pa_nil))))) pss_nil)
    (pss_one (ps_ret (LW.pe_jn pe_str (pe_lc (own := [("k", 3)]) (by rfl) sc__law_bits.nd (pi_range1 (by rfl) T.b_range (pa_cons (pv 2) pa_nil)) (blkOk_by (own := [("k", 3)]) (N := ["row", "most", "many", "k"]) (sc := defScope s__law_bits) (by decide +kernel)) (fun _ _ _ _ _ => (pg_name (i := 3) sc__law_bits.nd rfl (Or.inl rfl))) (fun _ _ _ _ _ => pts_nil) (fun _ _ _ _ _ => (pe_ix LW.ix_str pe_str (LW.pe_d D__law_taken hr (by omega) (by rfl) passL (pa_cons (pv 0) (pa_cons pe_int pa_nil))) (fun _ _ => rfl))))))))), ?_⟩), T.g__law_bits, F.kp, F.bindsN fun _ _ _ _ _ _ us hl => match us, hl with | [_, _], _ => rfl⟩
  · obtain ⟨r, sc, most, rfl, _⟩ := h
    rfl
  · obtain ⟨r, sc, most, rfl, hrow, hm, q⟩ := h
    walk_at "go"
    refine ⟨r, sc, most + 1, by simp, hrow, by omega, by omega, fun many H1 hmany e1 hrow1 => ?_⟩
    walk_at "go"
    refine Evl.q_cut (M := fun σ' H' => ∃ k : Nat, k ≤ most ∧ σ' = [some (.ref r), some (.int (most : Int)), some (.int (k : Int)), none] ∧ Exc r H H' ∧ RowOk K sc H' r) ?_ ?_
    · walk_at "go"
      refine ⟨r, sc, 3, rfl, hrow1, by omega, by omega, fun v H2 hv e2 hrow2 => ?_⟩
      walk_at "go"
      refine w_dec (fun hc => ?_) (fun hc => ?_)
      · walk_at "go"
        refine ⟨r, sc, 4, rfl, hrow2, by omega, by omega, fun u H3 hu e3 hrow3 => ?_⟩
        walk_at "go"
        refine ⟨if 1 + u < many then 1 + u else many, by split <;> omega, ?_, (e1.trans e2).trans e3, hrow3⟩
        by_cases h : 1 + u < many
        · rw [if_pos h, if_pos (by omega)]
          have : ((1 : Int) + (u : Int)) = ((1 + u : Nat) : Int) := by omega
          rw [this]
          rfl
        · rw [if_neg h, if_neg (by omega)]
          rfl
      · walk_at "go"
        exact ⟨many, by omega, rfl, e1.trans e2, hrow2⟩
    · rintro σ' H3 ⟨k, hk, rfl, e3, hrow3⟩
      walk_at "go"
      refine ⟨_, rfl, by omega, by omega, fun D nD => ?_⟩
      rw [Int.toNat_natCast]
      refine lc_inv walk_range (fun i acc H' => ∃ l : List Nat, acc = (l.map fun c => S [c]).map V.str ∧ l.length = i ∧ l.all isBit = true ∧ Exc r H3 H' ∧ RowOk K sc H' r) (fun H' e' _ => ⟨[], rfl, rfl, rfl, e'.exc, hrow3.ex e'⟩) nD (fun _ _ _ _ => True.intro) (by omega) (fun i x acc H4 H5 hi p hacc y R hR _ => ?_) (fun acc H4 p hacc => ?_)
      · obtain ⟨rfl, rfl⟩ := y
        obtain ⟨l, rfl, hl, hb, e4, hrow4⟩ := p
        have hDr := hrow3.ne nD
        walk_at "go"
        refine ⟨rfl, ?_⟩
        walk_at "go"
        refine ⟨r, sc, 2, rfl, hrow4, by omega, by omega, fun v H6 hv e6 hrow6 => ?_⟩
        have hc : isBit (48 + v) = true := by
          have : v = 0 ∨ v = 1 := by omega
          rcases this with rfl | rfl <;> rfl
        refine v_ixS (c := 48 + v) (by decide) (atI_nat ?_) ?_
        · have : v = 0 ∨ v = 1 := by omega
          rcases this with rfl | rfl <;> rfl
        · exact hR _ H6 (e6 _ _ hDr hacc) fun H7 e7 h7 => ⟨l ++ [48 + v], by simp, by simp [hl], by rw [List.all_append, hb]; simpa using hc, (e4.trans e6).new nD e7, hrow3.new nD hrow6 e7⟩
      · obtain ⟨l, rfl, hl, hb, e4, hrow4⟩ := p
        refine v_jnS (sl_of hacc) (by omega) ?_
        exact q l H4 hb (by omega) (e3.trans e4) hrow4
end
end K34
namespace K34
open PySem PySem.Spec PyProof.Rows L2 LW SX
def spLawBig (K : PySem.W.Frag) : Sp := fun vs H Q _ => ∃ (r : Addr) (sc : Scr) (wd : Nat), vs = [.ref r, .int (wd : Int)] ∧ RowOk K sc H r ∧ wd ≤ 64 ∧ ∀ (v : Nat) H', v < 2 ^ wd → Exc r H H' → RowOk K sc H' r → Q (.int (v : Int)) H'
def spLawRange : Sp := fun vs H Q _ => ∃ (l : List Nat) (wd : Nat), vs = [.str (S l), .int (wd : Int)] ∧ l.all isBit = true ∧ l.length ≤ wd ∧ wd ≤ 64 ∧ ∀ t H', H t = none → Ex H H' → H' t = some (.tup [.int ((valL l * 2 ^ (wd - l.length) : Nat) : Int), .int (((valL l + 1) * 2 ^ (wd - l.length) : Nat) - 1 : Int)]) → Q (.ref t) H'
theorem valL_zeros (l : List Nat) : ∀ k, valL (l ++ List.replicate k 48) = valL l * 2 ^ k
  | 0 => by simp
  | k + 1 => by
    rw [List.replicate_succ', ← List.append_assoc, valL_snoc, valL_zeros l k, Nat.pow_succ]
    generalize 2 ^ k = p
    rw [Nat.mul_comm p 2, Nat.mul_left_comm]
    rfl
section
variable {P : Program} {w : World} {K : PySem.W.Frag} {mg : Str → Option Value} {base : Heap}
theorem ok__law_big (T : Txt K mg) (D__law_taken : Dk P w K mg base (L2.CX P w) 1 "_law_taken" (spTaken K)) : Dk P w K mg base (L2.CX P w) 2 "_law_big" (spLawBig K) := by
  obtain ⟨fd, F⟩ := T.f__law_big
  refine ⟨_, fd, ["row", "width"], F.ok sc__law_big (fun vs H Q E h => ?_) (fun cdv A outer s H vs Q E hr h => ⟨_, (pss_cons (ps_set (i := 2) sc__law_big.nd rfl (Or.inl rfl) pe_int)
    (pss_cons (ps_for (passes_of rfl) rfl (pi_range1 (by rfl) T.b_range (pa_cons (pv 1) pa_nil)) (pg_name (i := 3) sc__law_big.nd rfl (Or.inl rfl))
    (pss_one (ps_set (i := 2) sc__law_big.nd rfl (Or.inl rfl) (pe_op LW.o_add (pe_op LW.o_mul pe_int (pv 2)) (LW.pe_d D__law_taken hr (by omega) (by rfl) passL (pa_cons (pv 0) (pa_cons pe_int pa_nil)))))))
    (pss_one (ps_ret (pv 2))))), ?_⟩), T.g__law_big, F.kp, F.bindsN fun _ _ _ _ _ _ us hl => match us, hl with | [_, _], _ => rfl⟩
  · obtain ⟨r, sc, wd, rfl, _⟩ := h
    rfl
  · obtain ⟨r, sc, wd, rfl, hrow, h64, q⟩ := h
    walk_at "go"
    refine ⟨_, rfl, by omega, by omega, ?_⟩
    rw [Int.toNat_natCast]
    refine for_x walk_range (fun i σ H' => ∃ (n : Nat) (v : Option V), σ = [some (.ref r), some (.int (wd : Int)), some (.int (n : Int)), v] ∧ n < 2 ^ i ∧ Exc r H H' ∧ RowOk K sc H' r) ⟨0, none, rfl, by decide, exc_refl, hrow⟩ (fun _ _ _ _ _ => True.intro) (fun i x σ H2 H3 hi p y => ?_) (fun σ H2 p => ?_)
    · obtain ⟨n, v, rfl, hn, e2, hrow2⟩ := p
      obtain ⟨rfl, rfl⟩ := y
      have hp : 2 ^ i ≤ 2 ^ 64 := Nat.pow_le_pow_right (by decide) (by omega)
      walk_at "go"
      refine v_dbl (by omega) ?_
      walk_at "go"
      refine ⟨r, sc, 2, rfl, hrow2, by omega, by omega, fun u H4 hu e4 hrow4 => ?_⟩
      walk_at "go"
      have e : ((2 * n : Nat) : Int) + (u : Int) = ((2 * n + u : Nat) : Int) := by omega
      rw [e]
      exact ⟨2 * n + u, _, rfl, by rw [Nat.pow_succ]; omega, e2.trans e4, hrow4⟩
    · obtain ⟨n, v, rfl, hn, e2, hrow2⟩ := p
      walk_at "go"
      exact q n H2 hn e2 hrow2
theorem ok__law_binary (T : Txt K mg) : Dk P w K mg base (L2.CX P w) 1 "_law_binary" spBitsTold := by
  obtain ⟨fd, F⟩ := T.f__law_binary
  refine ⟨_, fd, ["number", "many"], F.ok sc__law_binary (fun vs H Q E h => ?_) (fun cdv A outer s H vs Q E hr h => ⟨_, (pss_one (ps_ret (LW.pe_jn pe_str (pe_lc (own := [("k", 2)]) (by rfl) sc__law_binary.nd (pi_range3 (by rfl) T.b_range (pa_cons (pe_op LW.o_sub (pv 1) pe_int) (pa_cons (pe_op LW.o_sub pe_int pe_int) (pa_cons (pe_op LW.o_sub pe_int pe_int) pa_nil)))) (blkOk_by (own := [("k", 2)]) (N := ["number", "many", "k"]) (sc := defScope s__law_binary) (by decide +kernel)) (fun _ _ _ _ _ => (pg_name (i := 2) sc__law_binary.nd rfl (Or.inl rfl))) (fun _ _ _ _ _ => pts_nil) (fun _ _ _ _ _ => (pe_ix LW.ix_str pe_str (pe_op LW.o_mod (pe_op LW.o_shr (pv 0) (pv 2)) pe_int) (fun _ _ => rfl))))))), ?_⟩), T.g__law_binary, F.kp, F.bindsN fun _ _ _ _ _ _ us hl => match us, hl with | [_, _], _ => rfl⟩
  · obtain ⟨n, w', rfl, _⟩ := h
    rfl
  · obtain ⟨n, w', rfl, hw, q⟩ := h
    walk_at "go"
    refine ⟨_, _, _, w', rfl, rgc_down (by omega), fun D nD => lc_map walk_rangeC (fun i => .str (S [48 + n / 2 ^ (w' - 1 - i) % 2])) (by omega) nD (fun _ _ => True.intro) (fun i x H1 H2 hi e1 y R hR => ?_) (fun H1 e1 hD => ?_)⟩
    · obtain ⟨rfl, rfl⟩ := y
      walk_at "go"
      refine ⟨rfl, ?_⟩
      walk_at "go"
      have e : ((w' : Int) - 1 + (i : Nat) * (0 - 1)) = ((w' - 1 - i : Nat) : Int) := by omega
      rw [e]
      refine v_shr ?_
      walk_at "go"
      refine v_mod (by decide) ?_
      have e2 : (((n / 2 ^ (w' - 1 - i) : Nat) : Int) % 2) = ((n / 2 ^ (w' - 1 - i) % 2 : Nat) : Int) := by omega
      rw [e2]
      have h2 : n / 2 ^ (w' - 1 - i) % 2 = 0 ∨ n / 2 ^ (w' - 1 - i) % 2 = 1 := by omega
      refine v_ixS (c := 48 + n / 2 ^ (w' - 1 - i) % 2) (by decide) (atI_nat ?_) (hR _ ex_refl)
      rcases h2 with h2 | h2 <;> rw [h2] <;> rfl
    · have e : (List.range w').map (fun i => V.str (S [48 + n / 2 ^ (w' - 1 - i) % 2])) = ((bitsL n w').map fun c => S [c]).map V.str := by
        unfold bitsL
        rw [List.map_map, List.map_map]
        rfl
      rw [e] at hD
      exact v_jnS (sl_of hD) (by simp [bitsL]; omega) (q H1 e1)
theorem ok__law_range (T : Txt K mg) : Dk P w K mg base (L2.CX P w) 1 "_law_range" spLawRange := by
  obtain ⟨fd, F⟩ := T.f__law_range
  refine ⟨_, fd, ["prefix", "width"], F.ok sc__law_range (fun vs H Q E h => ?_) (fun cdv A outer s H vs Q E hr h => ⟨_, (pss_cons (ps_set (i := 2) sc__law_range.nd rfl (Or.inl rfl) pe_int)
    (pss_cons (ps_for (passes_of rfl) rfl (pi_str (pe_op LW.o_addS (pv 0) (pe_op LW.o_rep1 pe_str (pe_op LW.o_sub (pv 1) (pe_callB LW.c_lenS (by rfl) T.b_len (by decide +kernel) (pa_cons (pv 0) pa_nil)))))) (pg_name (i := 3) sc__law_range.nd rfl (Or.inl rfl))
    (pss_one (ps_set (i := 2) sc__law_range.nd rfl (Or.inl rfl) (pe_op LW.o_add (pe_op LW.o_mul pe_int (pv 2)) (pe_ifExp (pt_cmpR LW.o_eq (pv 3) pe_str (nomark _)) pe_int pe_int)))))
    (pss_one (ps_ret (LW.pe_tp (pa_cons (pv 2) (pa_cons (pe_op LW.o_sub (pe_op LW.o_add (pv 2) (pe_op LW.o_shl pe_int (pe_op LW.o_sub (pv 1) (pe_callB LW.c_lenS (by rfl) T.b_len (by decide +kernel) (pa_cons (pv 0) pa_nil))))) pe_int) pa_nil))))))), ?_⟩), T.g__law_range, F.kp, F.bindsN fun _ _ _ _ _ _ us hl => match us, hl with | [_, _], _ => rfl⟩
  · obtain ⟨l, wd, rfl, _⟩ := h
    rfl
  · obtain ⟨l, wd, rfl, hall, hl, h64, q⟩ := h
    have hsl : (S l).length = l.length := S_len l
    walk_at "go"
    refine v_lenS (by omega) ?_
    walk_at "go"
    rw [hsl]
    have e1 : ((wd : Int) - (l.length : Int)) = ((wd - l.length : Nat) : Int) := by omega
    rw [e1]
    refine ⟨48, wd - l.length, rfl, rfl, by omega, ?_⟩
    refine v_addS (by rw [hsl, S_len]; simp; omega) ?_
    have e2 : S l ++ S (List.replicate (wd - l.length) 48) = S (l ++ List.replicate (wd - l.length) 48) := by
      unfold S
      show (⟨_ ++ _⟩ : Str) = _
      simp
    rw [e2]
    have hall2 : (l ++ List.replicate (wd - l.length) 48).all isBit = true := by
      rw [List.all_append, hall, Bool.true_and, List.all_eq_true]
      intro x hx
      rw [(List.mem_replicate.mp hx).2]
      rfl
    have hlen2 : (l ++ List.replicate (wd - l.length) 48).length = wd := by simp; omega
    generalize hL : l ++ List.replicate (wd - l.length) 48 = L at hall2 hlen2
    refine ⟨S L, rfl, for_x walk_str (fun i σ H' => ∃ v, σ = [some (.str (S l)), some (.int (wd : Int)), some (.int (valL (L.take i) : Nat)), v] ∧ H' = H) ⟨none, rfl, rfl⟩ (fun _ _ _ _ _ => True.intro) (fun i x σ H2 H3 hi p y => ?_) (fun σ H2 p => ?_)⟩
    · obtain ⟨v, rfl, rfl⟩ := p
      obtain ⟨rfl, c, hc, rfl⟩ := y
      have hc' : L[i]? = some c := by
        have : (S L).cps[i]? = L[i]? := by simp [S]
        rw [← this]
        exact hc
      have hi' : i < L.length := (List.getElem?_eq_some_iff.mp hc').1
      have hlt := val_take_lt hall2 i (by omega)
      have hp : 2 ^ i ≤ 2 ^ 64 := Nat.pow_le_pow_right (by decide) (by omega)
      walk_at "go"
      refine v_dbl (by omega) ?_
      walk_at "go"
      have hb := List.all_eq_true.mp hall2 c (List.mem_of_getElem? hc')
      have hcc : c = 48 ∨ c = 49 := by simpa [isBit] using hb
      have e3 : ∀ b : Nat, c - 48 = b → ((2 * valL (L.take i) : Nat) : Int) + (b : Int) = (valL (L.take (i + 1)) : Nat) := fun b hb => by
        rw [take_snoc hc', valL_snoc]
        omega
      refine w_dec (fun h1 => ?_) (fun h1 => ?_)
      · walk_at "go"
        have h2 : c = 49 := by
          have : (⟨#[c]⟩ : Str).cps.toList = ("1" : Str).cps.toList := by rw [h1]
          have h3 : [c] = [49] := this
          simpa using h3
        refine ⟨some (.str ⟨#[c]⟩), ?_, rfl⟩
        rw [show (1 : Int) = ((1 : Nat) : Int) from rfl, e3 1 (by omega)]
        rfl
      · walk_at "go"
        have h2 : c = 48 := by
          rcases hcc with h | h
          · exact h
          · exact absurd (by rw [h]; rfl) h1
        refine ⟨some (.str ⟨#[c]⟩), ?_, rfl⟩
        rw [show (0 : Int) = ((0 : Nat) : Int) from rfl, e3 0 (by omega)]
        rfl
    · obtain ⟨v, rfl, rfl⟩ := p
      have e4 : L.take (S L).cps.size = L := by
        have : (S L).cps.size = L.length := by simp [S]
        rw [this]
        exact List.take_length
      rw [e4, ← hL, valL_zeros]
      walk_at "go"
      refine v_lenS (by omega) ?_
      walk_at "go"
      rw [hsl, e1]
      refine v_shl1 (by omega) ?_
      walk_at "go"
      have hv := val_lt hall
      have hp := M34.p2 (wd - l.length)
      have e5 : ((valL l * 2 ^ (wd - l.length) : Nat) : Int) + ((2 ^ (wd - l.length) : Nat) : Int) - 1 = (((valL l + 1) * 2 ^ (wd - l.length) : Nat) : Int) - 1 := by
        rw [Nat.add_mul, Nat.one_mul]
        omega
      rw [e5]
      exact w_new (by simp) fun p H' np e' hp' => q p H' np e' hp'
end
end K34
namespace K34
open PySem PySem.Spec PyProof.Rows L2 LW SX
section
variable {P : Program} {w : World} {K : PySem.W.Frag} {mg : Str → Option Value} {base : Heap}
theorem alike_step (T : Txt K mg) (n : Nat) (D__law_alike : Dk P w K mg base (L2.CX P w) n "_law_alike" (spAlike K n)) : Dk P w K mg base (L2.CX P w) (n + 1) "_law_alike" (spAlike K (n + 1)) := by
  obtain ⟨fd, F⟩ := T.f__law_alike
  refine ⟨_, fd, ["found", "due"], F.ok sc__law_alike (fun vs H Q E h => ?_) (fun cdv A outer s H vs Q E hr h => ⟨_, (pss_cons (ps_if (pt_val (pe_callB LW.c_isiT (by rfl) T.b_isinstance (by decide +kernel) (pa_cons (pv 1) (pa_cons (LW.pe_tp (pa_cons (pe_bltn (v := .ty "tuple") (by rfl) T.b_tuple (by decide +kernel) rfl) (pa_cons (pe_bltn (v := .ty "list") (by rfl) T.b_list (by decide +kernel) rfl) pa_nil))) pa_nil))))
    (pss_cons (ps_if (PW.pt (pw_or (pt_not (pt_val (pe_callB LW.c_isiT (by rfl) T.b_isinstance (by decide +kernel) (pa_cons (pv 0) (pa_cons (LW.pe_tp (pa_cons (pe_bltn (v := .ty "tuple") (by rfl) T.b_tuple (by decide +kernel) rfl) (pa_cons (pe_bltn (v := .ty "list") (by rfl) T.b_list (by decide +kernel) rfl) pa_nil))) pa_nil))))) (pw_or1 (pt_cmpR LW.o_ne (pe_callB LW.c_isi (by rfl) T.b_isinstance (by decide +kernel) (pa_cons (pv 0) (pa_cons (pe_bltn (v := .ty "list") (by rfl) T.b_list (by decide +kernel) rfl) pa_nil))) (pe_callB LW.c_isi (by rfl) T.b_isinstance (by decide +kernel) (pa_cons (pv 1) (pa_cons (pe_bltn (v := .ty "list") (by rfl) T.b_list (by decide +kernel) rfl) pa_nil))) (nomark _)))))
    (pss_one (ps_ret pe_bl)) pss_nil)
    (pss_cons (ps_if (pt_cmpR LW.o_ne (pe_callB LW.c_lenQ (by rfl) T.b_len (by decide +kernel) (pa_cons (pv 0) pa_nil)) (pe_callB LW.c_lenQ (by rfl) T.b_len (by decide +kernel) (pa_cons (pv 1) pa_nil)) (nomark _))
    (pss_one (ps_ret pe_bl)) pss_nil)
    (pss_one (ps_ret (pe_cmpR (LW.o_dEq hr.units) (pe_lc (own := [("k", 2)]) (by rfl) sc__law_alike.nd (pi_range1 (by rfl) T.b_range (pa_cons (pe_callB LW.c_lenQ (by rfl) T.b_len (by decide +kernel) (pa_cons (pv 1) pa_nil)) pa_nil)) (blkOk_by (own := [("k", 2)]) (N := ["found", "due", "k", "key"]) (sc := defScope s__law_alike) (by decide +kernel)) (fun _ _ _ _ _ => (pg_name (i := 2) sc__law_alike.nd rfl (Or.inl rfl))) (fun _ _ _ _ _ => (pts_one (pt_not (pt_val (LW.pe_d D__law_alike hr (by omega) (by rfl) passL (pa_cons (pe_ix (LW.ix_ltK (K := K)) (pv 0) (pv 2) (fun _ _ => rfl)) (pa_cons (pe_ix (LW.ix_ltK (K := K)) (pv 1) (pv 2) (fun _ _ => rfl)) pa_nil))))))) (fun _ _ _ _ _ => (pv 2))) (LW.pe_ls pa_nil) (nomark _)))))) pss_nil)
    (pss_cons (ps_if (pt_val (pe_callB LW.c_isi (by rfl) T.b_isinstance (by decide +kernel) (pa_cons (pv 1) (pa_cons (pe_bltn (v := .ty "dict") (by rfl) T.b_dict (by decide +kernel) rfl) pa_nil))))
    (pss_cons (ps_if (PW.pt (pw_or (pt_not (pt_val (pe_callB LW.c_isi (by rfl) T.b_isinstance (by decide +kernel) (pa_cons (pv 0) (pa_cons (pe_bltn (v := .ty "dict") (by rfl) T.b_dict (by decide +kernel) rfl) pa_nil))))) (pw_or1 (pt_cmpR (LW.o_dNe hr.units) (pe_callTy LW.c_list (by rfl) T.b_list (by decide +kernel) (pa_cons (pv 0) pa_nil)) (pe_callTy LW.c_list (by rfl) T.b_list (by decide +kernel) (pa_cons (pv 1) pa_nil)) (nomark _)))))
    (pss_one (ps_ret pe_bl)) pss_nil)
    (pss_one (ps_ret (pe_cmpR (LW.o_dEq hr.units) (pe_lc (own := [("key", 3)]) (by rfl) sc__law_alike.nd (pi_list (pv 1)) (blkOk_by (own := [("key", 3)]) (N := ["found", "due", "k", "key"]) (sc := defScope s__law_alike) (by decide +kernel)) (fun _ _ _ _ _ => (pg_name (i := 3) sc__law_alike.nd rfl (Or.inl rfl))) (fun _ _ _ _ _ => (pts_one (pt_not (pt_val (LW.pe_d D__law_alike hr (by omega) (by rfl) passL (pa_cons (pe_ix (LW.ix_ltK (K := K)) (pv 0) (pv 3) (fun _ _ => rfl)) (pa_cons (pe_ix (LW.ix_ltK (K := K)) (pv 1) (pv 3) (fun _ _ => rfl)) pa_nil))))))) (fun _ _ _ _ _ => (pv 3))) (LW.pe_ls pa_nil) (nomark _))))) pss_nil)
    (pss_cons (ps_if (PW.pt (pw_or (pt_cmpR LW.o_isN (pv 1) pe_non (by rfl)) (pw_or1 (pt_val (pe_callB LW.c_isi (by rfl) T.b_isinstance (by decide +kernel) (pa_cons (pv 1) (pa_cons (pe_bltn (v := .ty "str") (by rfl) T.b_str (by decide +kernel) rfl) pa_nil)))))))
    (pss_one (ps_ret (pe_and (pe_cmpR LW.o_eq (pv 0) (pv 1) (nomark _)) (pe_one (pe_cmpR LW.o_eq (pe_callB LW.c_isi (by rfl) T.b_isinstance (by decide +kernel) (pa_cons (pv 0) (pa_cons (pe_bltn (v := .ty "str") (by rfl) T.b_str (by decide +kernel) rfl) pa_nil))) (pe_callB LW.c_isi (by rfl) T.b_isinstance (by decide +kernel) (pa_cons (pv 1) (pa_cons (pe_bltn (v := .ty "str") (by rfl) T.b_str (by decide +kernel) rfl) pa_nil))) (nomark _)))))) pss_nil)
    (pss_one (ps_ret (pe_and (pe_callB LW.c_isi (by rfl) T.b_isinstance (by decide +kernel) (pa_cons (pv 0) (pa_cons (pe_bltn (v := .ty "int") (by rfl) T.b_int (by decide +kernel) rfl) pa_nil))) (pe_and (pe_cmpR LW.o_eq (pe_callB LW.c_isi (by rfl) T.b_isinstance (by decide +kernel) (pa_cons (pv 0) (pa_cons (pe_bltn (v := .ty "bool") (by rfl) T.b_bool (by decide +kernel) rfl) pa_nil))) (pe_callB LW.c_isi (by rfl) T.b_isinstance (by decide +kernel) (pa_cons (pv 1) (pa_cons (pe_bltn (v := .ty "bool") (by rfl) T.b_bool (by decide +kernel) rfl) pa_nil))) (nomark _)) (pe_one (pe_cmpR LW.o_eq (pv 0) (pv 1) (nomark _)))))))))), ?_⟩), T.g__law_alike, F.kp, F.bindsN fun _ _ _ _ _ _ us hl => match us, hl with | [_, _], _ => rfl⟩
  · obtain ⟨x, y, d, rfl, _⟩ := h
    rfl
  · obtain ⟨x, y, d, rfl, hx, hy, hd, q⟩ := h
    have kind : (∃ (nm : String) (a b : Addr) (xs ys : List V) (ds : List PyData) (n' : Nat), (nm = "list" ∨ nm = "tuple") ∧ Kn K H (.ref a) nm ∧ Kn K H (.ref b) nm ∧ (SqL K H a xs ∨ SqT K H a xs) ∧ (SqL K H b ys ∨ SqT K H b ys) ∧
        DpAll K H xs ds ∧ DpAll K H ys ds ∧ n = n' + 1 ∧ ds.length ≤ 100000 ∧ okds n' ds = true ∧ x = .ref a ∧ y = .ref b) ∨ (x = .non ∧ y = .non) ∨ (∃ z, x = .str z ∧ y = .str z) ∨ (∃ z, x = .int z ∧ y = .int z) ∨ (∃ z, x = .bl z ∧ y = .bl z) := by
      cases d with
      | none =>
        cases hx
        cases hy
        exact .inr (.inl ⟨rfl, rfl⟩)
      | str z =>
        cases hx
        cases hy
        exact .inr (.inr (.inl ⟨_, rfl, rfl⟩))
      | int z =>
        cases hx
        cases hy
        exact .inr (.inr (.inr (.inl ⟨_, rfl, rfl⟩)))
      | bool z =>
        cases hx
        cases hy
        exact .inr (.inr (.inr (.inr ⟨_, rfl, rfl⟩)))
      | list ds =>
        cases n with
        | zero => cases hd
        | succ n' =>
          simp only [okd, Bool.and_eq_true, decide_eq_true_eq] at hd
          cases hx with
          | lst sa da =>
            cases hy with
            | lst sb db => exact .inl ⟨"list", _, _, _, _, ds, n', .inl rfl, kn_sqL sa, kn_sqL sb, .inl sa, .inl sb, da, db, rfl, hd.1, hd.2, rfl, rfl⟩
      | tuple ds =>
        cases n with
        | zero => cases hd
        | succ n' =>
          simp only [okd, Bool.and_eq_true, decide_eq_true_eq] at hd
          cases hx with
          | tup sa da =>
            cases hy with
            | tup sb db => exact .inl ⟨"tuple", _, _, _, _, ds, n', .inr rfl, kn_sqT sa, kn_sqT sb, .inr sa, .inr sb, da, db, rfl, hd.1, hd.2, rfl, rfl⟩
      | dict ds => cases hx
    rcases kind with ⟨nm, a, b, xs, ys, ds, n', hnm, ka, kb, sa, sb, da, db, rfl, hlen, hok, rfl, rfl⟩ | ⟨rfl, rfl⟩ | ⟨z, rfl, rfl⟩ | ⟨z, rfl, rfl⟩ | ⟨z, rfl, rfl⟩
    · have lx := dpAll_len da
      have ly := dpAll_len db
      walk_at "go"
      refine w_new (by simp) fun p H1 np e1 hp => ?_
      walk_at "go"
      refine v_isiT (up_k e1 kb) (by decide) (by decide) hp ?_
      have ht : (isK nm "tuple" || isK nm "list") = true := by rcases hnm with rfl | rfl <;> rfl
      rw [ht]
      walk_at "go"
      refine w_new (by simp) fun p2 H2 np2 e2 hp2 => ?_
      walk_at "go"
      refine v_isiT (up_k (e1.trans e2) ka) (by decide) (by decide) hp2 ?_
      rw [ht]
      refine v_bl ?_
      refine iteF' ?_
      walk_at "go"
      refine v_isi (T := "list") (up_k (e1.trans e2) ka) (by decide) ?_
      walk_at "go"
      refine v_isi (T := "list") (up_k (e1.trans e2) kb) (by decide) ?_
      walk_at "go"
      refine w_ndec (fun z => absurd rfl z) (fun _ => ?_)
      walk_at "go"
      have up : ∀ {H' : Hp} {c : Addr} {zs : List V}, Ex H H' → (SqL K H c zs ∨ SqT K H c zs) → (SqL K H' c zs ∨ SqT K H' c zs) := fun e h => h.elim (fun h => .inl (up_l e h)) fun h => .inr (up_t e h)
      have e12 := e1.trans e2
      refine ⟨a, xs, rfl, up e12 sa, ?_⟩
      walk_at "go"
      refine ⟨b, ys, rfl, up e12 sb, ?_⟩
      walk_at "go"
      refine w_ndec (fun z => absurd (by rw [lx, ly]) z) (fun _ => ?_)
      walk_at "go"
      refine ⟨b, ys, rfl, up e12 sb, ?_⟩
      walk_at "go"
      refine ⟨_, rfl, by omega, by omega, fun D nD => ?_⟩
      rw [Int.toNat_natCast]
      refine lc_filter walk_range (fun _ => false) (fun _ => .non) (by omega) nD (fun _ _ => True.intro) (fun i x H3 H4 hi e3 y R hR1 hR2 => ?_) (fun H3 e3 hD => ?_)
      · obtain ⟨rfl, rfl⟩ := y
        obtain ⟨d, hd⟩ : ∃ d, ds[i]? = some d := ⟨_, List.getElem?_eq_getElem (by omega)⟩
        obtain ⟨u, hu, du⟩ := dpAll_at da hd
        obtain ⟨u2, hu2, du2⟩ := dpAll_at db hd
        have e13 := e12.trans e3
        have ix : ∀ {c : Addr} {zs : List V} {v : V} {Q : VK}, (SqL K H c zs ∨ SqT K H c zs) → zs[i]? = some v → Q v H4 → rIxLT K (.ref c) (.int (0 + (i : Nat))) H4 Q := fun h hv hQ => by
          rw [Int.zero_add]
          rcases up e13 h with h | h
          · exact .inl (v_ixL h (atI_nat hv) hQ)
          · exact .inr (v_ixT h (atI_nat hv) hQ)
        walk_at "go"
        refine ⟨rfl, ?_⟩
        walk_at "go"
        refine ix sa hu ?_
        walk_at "go"
        refine ix sb hu2 ?_
        walk_at "go"
        refine ⟨u, u2, d, rfl, up_d e13 _ _ du, up_d e13 _ _ du2, okds_mem hok d (List.mem_of_getElem? hd), fun H5 e5 => ?_⟩
        walk_at "go"
        exact hR2 _ e5 rfl
      · have e : ((List.range ys.length).filter fun _ => false) = [] := List.filter_eq_nil_iff.mpr (fun _ _ z => by cases z)
        rw [e] at hD
        walk_at "go"
        refine w_new (by simp) fun p3 H4 np3 e4 hp3 => ?_
        walk_at "go"
        refine ⟨.list [], .list [], .lst (sl_of (e4 _ _ hD)) .nil, .lst (sl_of hp3) .nil, by decide, by decide, ?_⟩
        exact q H4 ((e12.trans e3).trans e4)
    · walk_at "go"
      refine w_new (by simp) fun p H1 np e1 hp => ?_
      walk_at "go"
      refine v_isiT (T := "tuple") (U := "list") kn_non (by decide) (by decide) hp ?_
      refine v_bl ?_
      refine iteF' ?_
      walk_at "go"
      refine v_isi (T := "dict") kn_non (by decide) ?_
      refine v_bl ?_
      refine iteF' ?_
      walk_at "go"
      refine w_dec (fun _ => ?_) (fun z => absurd rfl z)
      walk_at "go"
      refine ⟨rfl, ?_⟩
      refine v_bl ?_
      refine w_dec (fun _ => ?_) (fun z => absurd rfl z)
      walk_at "go"
      refine v_isi (T := "str") kn_non (by decide) ?_
      walk_at "go"
      refine v_isi (T := "str") kn_non (by decide) ?_
      walk_at "go"
      exact q H1 e1
    · walk_at "go"
      refine w_new (by simp) fun p H1 np e1 hp => ?_
      walk_at "go"
      refine v_isiT (T := "tuple") (U := "list") kn_str (by decide) (by decide) hp ?_
      refine v_bl ?_
      refine iteF' ?_
      walk_at "go"
      refine v_isi (T := "dict") kn_str (by decide) ?_
      refine v_bl ?_
      refine iteF' ?_
      walk_at "go"
      refine w_dec (fun z => by cases z) (fun _ => ?_)
      walk_at "go"
      refine v_isi (T := "str") kn_str (by decide) ?_
      refine v_bl ?_
      refine iteT' ?_
      walk_at "go"
      refine w_dec (fun _ => ?_) (fun z => absurd rfl z)
      walk_at "go"
      refine v_isi (T := "str") kn_str (by decide) ?_
      walk_at "go"
      refine v_isi (T := "str") kn_str (by decide) ?_
      walk_at "go"
      exact q H1 e1
    · walk_at "go"
      refine w_new (by simp) fun p H1 np e1 hp => ?_
      walk_at "go"
      refine v_isiT (T := "tuple") (U := "list") kn_int (by decide) (by decide) hp ?_
      refine v_bl ?_
      refine iteF' ?_
      walk_at "go"
      refine v_isi (T := "dict") kn_int (by decide) ?_
      refine v_bl ?_
      refine iteF' ?_
      walk_at "go"
      refine w_dec (fun z => by cases z) (fun _ => ?_)
      walk_at "go"
      refine v_isi (T := "str") kn_int (by decide) ?_
      refine v_bl ?_
      refine iteF' ?_
      walk_at "go"
      refine v_isi (T := "int") kn_int (by decide) ?_
      refine v_bl ?_
      refine iteT' ?_
      walk_at "go"
      refine v_isi (T := "bool") kn_int (by decide) ?_
      walk_at "go"
      refine v_isi (T := "bool") kn_int (by decide) ?_
      walk_at "go"
      refine w_dec (fun _ => ?_) (fun z => absurd rfl z)
      walk_at "go"
      rw [decide_eq_true rfl]
      exact q H1 e1
    · walk_at "go"
      refine w_new (by simp) fun p H1 np e1 hp => ?_
      walk_at "go"
      refine v_isiT (T := "tuple") (U := "list") kn_bl (by decide) (by decide) hp ?_
      refine v_bl ?_
      refine iteF' ?_
      walk_at "go"
      refine v_isi (T := "dict") kn_bl (by decide) ?_
      refine v_bl ?_
      refine iteF' ?_
      walk_at "go"
      refine w_dec (fun z => by cases z) (fun _ => ?_)
      walk_at "go"
      refine v_isi (T := "str") kn_bl (by decide) ?_
      refine v_bl ?_
      refine iteF' ?_
      walk_at "go"
      refine v_isi (T := "int") kn_bl (by decide) ?_
      refine v_bl ?_
      refine iteT' ?_
      walk_at "go"
      refine v_isi (T := "bool") kn_bl (by decide) ?_
      walk_at "go"
      refine v_isi (T := "bool") kn_bl (by decide) ?_
      walk_at "go"
      refine w_dec (fun _ => ?_) (fun z => absurd rfl z)
      walk_at "go"
      rw [decide_eq_true rfl]
      exact q H1 e1
theorem alike_all (T : Txt K mg) : ∀ n, Dk P w K mg base (L2.CX P w) n "_law_alike" (spAlike K n)
  | 0 => by
    obtain ⟨fd, F⟩ := T.f__law_alike
    exact ⟨_, fd, ["found", "due"], ⟨fun _ _ _ _ h => h.elim, fun _ _ _ _ _ _ _ _ _ _ _ _ _ h => h.elim⟩, T.g__law_alike, F.kp, F.bindsN fun _ _ _ _ _ _ us hl => match us, hl with | [_, _], _ => rfl⟩
  | n + 1 => alike_step T n (alike_all T n)
end
end K34
namespace K34
open PySem PySem.Spec PyProof.Rows L2 LW SX
def errs : List (Str × Str) := [("BadWidth", "width"), ("BadNumber", "number"), ("BadPrefix", "prefix"), ("BadAddress", "address")]
section
variable {P : Program} {w : World} {K : PySem.W.Frag} {mg : Str → Option Value} {base : Heap}
theorem errs_apart (T : Txt K mg) : ∀ p ∈ errs, ∀ p' ∈ errs, PySem.W.exmOne K (.ref (He.ga K p.1)) (.ref (He.ga K p'.1)) = some (decide (p = p')) := by
  intro p hp p' hp'
  simp only [errs, List.mem_cons, List.not_mem_nil, or_false] at hp hp'
  rcases hp with rfl | rfl | rfl | rfl <;> rcases hp' with rfl | rfl | rfl | rfl <;> first
    | exact T.m_BadWidth_BadWidth | exact T.m_BadWidth_BadNumber | exact T.m_BadWidth_BadPrefix | exact T.m_BadWidth_BadAddress
    | exact T.m_BadNumber_BadWidth | exact T.m_BadNumber_BadNumber | exact T.m_BadNumber_BadPrefix | exact T.m_BadNumber_BadAddress
    | exact T.m_BadPrefix_BadWidth | exact T.m_BadPrefix_BadNumber | exact T.m_BadPrefix_BadPrefix | exact T.m_BadPrefix_BadAddress
    | exact T.m_BadAddress_BadWidth | exact T.m_BadAddress_BadNumber | exact T.m_BadAddress_BadPrefix | exact T.m_BadAddress_BadAddress
theorem refused_gives {X : Cx} (T : Txt X.K X.mg) {g : Addr} {cdg : Value} {q : Str} :
    LamX.GivesTo X ["ask", "e"] "_law_refused" (defScope s__law_refused) g cdg (defBody s__law_refused) "ask" q (TTref X.K errs .non) := by
  intro f c' s H Q tl act hc h
  refine ⟨_, (pss_cons (ps_try_named rfl rfl sc__law_refused.nd LamX.takes0 (fun W pn xe tk _ => pss_one (ps_expr (LW.pe_actW (W := fun c d σ H => σ.length = 2 → W c d σ H) fun E hW => act (fun c d σ H => σ.length = 2 → W c d σ H) pn xe E _ _ (LW.takes_len tk) hW))) (NamedOk.cons (i := 1) ⟨(by rfl), by decide, .inl T.g_BadWidth⟩ rfl rfl (fun a oe cls d pn hz hf => pss_one (ps_ret (LW.pe_tp (pa_cons pe_str (pa_cons (pe_xf T.e_BadWidth.t.xf T.e_BadWidth.t.no hz hf (pe_var (i := 1) rfl (Or.inl rfl))) pa_nil))))) (NamedOk.cons (i := 1) ⟨(by rfl), by decide, .inl T.g_BadNumber⟩ rfl rfl (fun a oe cls d pn hz hf => pss_one (ps_ret (LW.pe_tp (pa_cons pe_str (pa_cons (pe_xf T.e_BadNumber.t.xf T.e_BadNumber.t.no hz hf (pe_var (i := 1) rfl (Or.inl rfl))) pa_nil))))) (NamedOk.cons (i := 1) ⟨(by rfl), by decide, .inl T.g_BadPrefix⟩ rfl rfl (fun a oe cls d pn hz hf => pss_one (ps_ret (LW.pe_tp (pa_cons pe_str (pa_cons (pe_xf T.e_BadPrefix.t.xf T.e_BadPrefix.t.no hz hf (pe_var (i := 1) rfl (Or.inl rfl))) pa_nil))))) (NamedOk.cons (i := 1) ⟨(by rfl), by decide, .inl T.g_BadAddress⟩ rfl rfl (fun a oe cls d pn hz hf => pss_one (ps_ret (LW.pe_tp (pa_cons pe_str (pa_cons (pe_xf T.e_BadAddress.t.xf T.e_BadAddress.t.no hz hf (pe_var (i := 1) rfl (Or.inl rfl))) pa_nil))))) NamedOk.nil)))))
    (pss_one (ps_ret (LW.pe_tp (pa_cons pe_str (pa_cons pe_non pa_nil)))))), ?_⟩
  walk_at "go"
  refine ⟨refX X.K errs Q, fun cls d σ' H' h hl => ?_, rfl, hc, ?_⟩
  · obtain ⟨p, dd, v, hp, rfl, rfl, hd, hq⟩ := h
    exact wNamed_ref (D := { nx := _, rt := Q }) hl (errs_apart T) (fun _ h => h) ⟨p, dd, v, hp, hp, rfl, rfl, hd, hq⟩
  · exact h
end
end K34
namespace K34
open PySem PySem.Spec PyProof.Rows L2 LW SX
abbrev lamT (K : PySem.W.Frag) : List (Addr × Str) := [((He.cT K ("_law_refuses_ranges", none)).2, (("_law_refuses_ranges" : Str) ++ (".<locals>." : Str)) ++ ("<lambda>" : Str))]
def spRefuses (K : PySem.W.Frag) : Sp := fun vs H Q _ => ∃ (r : Addr) (sc : Scr) (w : Nat), vs = [.ref r, .int (w : Int), .int ((2 ^ w : Nat) - 1 : Int)] ∧ 1 ≤ w ∧ w ≤ 64 ∧ RowOk K sc H r ∧ LamX.Tabs (lamT K) H ∧ ∀ H', Q (.bl true) H'
/-- what is drawn: data whose repr is to be had -/
def Wrong (K : PySem.W.Frag) (word : Str) (p : V → Prop) (H : Hp) (v : V) : Prop := ∃ d, Dp K H v d ∧ shows (.tuple [.str word, d]) = true ∧ p v
theorem show_num : ∀ w : Nat, w < 65 → shows (.tuple [.str "number", .int ((2 ^ w : Nat) : Int)]) = true := by decide +kernel
theorem show_pre : ∀ w : Nat, w < 66 → shows (.tuple [.str "prefix", .str (S (List.replicate w 48))]) = true := by decide +kernel
theorem within_eq (i lo hi : Int) : within (.int i) lo hi = (decide (lo ≤ i) && decide (i ≤ hi)) := rfl
theorem bits_eq (z : Str) (m : Int) : bits (.str z) m = (decide ((z.length : Int) ≤ m) && z.cps.toList.all isBit) := rfl
theorem within_w {w : Nat} (h1 : 1 ≤ w) (h64 : w ≤ 64) : within (.int (w : Int)) 1 64 = true := by
  rw [within_eq, Bool.and_eq_true]
  exact ⟨decide_eq_true (by omega), decide_eq_true (by omega)⟩
theorem within_n {w k : Nat} (h : k < 2 ^ w) : within (.int (k : Int)) 0 (2 ^ w - 1) = true := by
  have e : ((2 ^ w : Nat) : Int) = 2 ^ w := by simp
  rw [within_eq, Bool.and_eq_true]
  exact ⟨decide_eq_true (by omega), decide_eq_true (by omega)⟩
theorem nat_of {w w2 : Nat} (h : V.int (w : Int) = .int (w2 : Int)) : w = w2 := by
  have := V.int.inj h
  omega
theorem all_one (w : Nat) : M34.all w (2 ^ w - 1) 0 = [(0, w)] := by
  have hp := M34.p2 w
  have g := M34.ex_good (w := w) (lo := 0) (hi := 2 ^ w - 1) (by omega)
  have e : M34.ex w 0 (2 ^ w - 1) = w := by
    have h1 := g.le
    by_cases h : M34.ex w 0 (2 ^ w - 1) < w
    · refine absurd ⟨h, Nat.zero_mod _, ?_⟩ (M34.ex_max (w := w) (lo := 0) (hi := 2 ^ w - 1))
      have : 2 ^ (M34.ex w 0 (2 ^ w - 1) + 1) ≤ 2 ^ w := Nat.pow_le_pow_right (by decide) h
      omega
    · omega
  rw [M34.all_step (by omega), e, M34.all_end (by omega)]
theorem not_within {w : Nat} {v : V} (h : within v 0 (2 ^ w - 1) = false) {k : Nat} (e : v = .int (k : Int)) (hk : k < 2 ^ w) : False := by
  subst e
  rw [within_n hk] at h
  cases h
theorem not_width {v : V} (h : within v 1 64 = false) {k : Nat} (e : v = .int (k : Int)) (h1 : 1 ≤ k) (h64 : k ≤ 64) : False := by
  subst e
  rw [within_w h1 h64] at h
  cases h
section
variable {P : Program} {w : World} {K : PySem.W.Frag} {mg : Str → Option Value} {base : Heap}
theorem ok_refuses (T : Txt K mg) (TBs : LamX.TabB base mg (He.cT K ("_law_refuses_ranges", none)).1 (He.cT K ("_law_refuses_ranges", none)).2)
    (D__law_pick : Dk P w K mg base (L2.CX P w) 2 "_law_pick" (spPick K)) (D_range_blocks : Dk P w K mg base (L2.CX P w) 5 "range_blocks" (spRangeBlocks K)) (D_address_of : Dk P w K mg base (L2.CX P w) 5 "address_of" (spAddressOf K))
    (D_range_of : Dk P w K mg base (L2.CX P w) 5 "range_of" (spRangeOf K)) (D_number_of : Dk P w K mg base (L2.CX P w) 4 "number_of" (spNumberOf K)) : DkG P w K mg base (L2.CX P w) 8 "_law_refuses_ranges" (spRefuses K) := by
  obtain ⟨fdR, FR⟩ := T.f__law_refused
  have bR : L2.Binds K fdR ["ask"] [] := FR.bindsN fun _ _ _ _ _ _ us hl => match us, hl with | [_], _ => rfl
  have kpR := FR.kp
  obtain ⟨ocR, odR, dVR, kVR, docR, pmR, anR, cdvR, ctR, oslR, rfl, lkR, hcdR, _, _⟩ := FR.ex
  obtain ⟨fd, F⟩ := T.f__law_refuses_ranges
  have HG : ∀ {X : Cx} {g : Addr} {cdg : Value} {q : Str}, X.K = K → X.mg = mg → LamX.GivesTo X ["ask", "e"] "_law_refused" (defScope s__law_refused) g cdg (defBody s__law_refused) "ask" q (TTref K errs .non) := by
    intro X g cdg q e1 e2
    subst e1 e2
    exact refused_gives T
  refine ⟨_, fd, ["row", "width", "most"], LW.FunD.okG F sc__law_refuses_ranges (fun vs H Q E h => ?_) (fun cdv A outer s H vs Q E hgu hr hcd lk hcv h => ?_), T.g__law_refuses_ranges, F.kp, F.bindsN fun _ _ _ _ _ _ us hl => match us, hl with | [_, _, _], _ => rfl⟩
  · obtain ⟨r, sc, w', rfl, _⟩ := h
    rfl
  · obtain ⟨c, rfl⟩ : ∃ c, cdv = .ref c := by
      cases cdv with
      | ref c => exact ⟨c, rfl⟩
      | _ => cases hcd
    obtain ⟨oc, od, osl, lk⟩ := lk
    have ec : He.codeOf K ("_law_refuses_ranges", none) = c := He.codeOf_eq lk hcv
    have TB : LamX.TabB base mg c (He.cT K ("_law_refuses_ranges", none)).2 := by
      have := TBs
      show LamX.TabB base mg c _
      rw [← ec]
      exact this
    have HC : Value.ref c = Value.ref c := rfl
    have HM : ((He.cT K ("_law_refuses_ranges", none)).2, ((("_law_refuses_ranges" : Str) ++ (".<locals>." : Str)) ++ ("<lambda>" : Str))) ∈ lamT K := List.mem_singleton.mpr rfl
    have HU : ∀ p ∈ lamT K, p.1 = (He.cT K ("_law_refuses_ranges", none)).2 → p.2 = ((("_law_refuses_ranges" : Str) ++ (".<locals>." : Str)) ++ ("<lambda>" : Str)) := fun p hp _ => by rw [List.mem_singleton.mp hp]
    refine ⟨_, (pss_cons (ps_set (i := 3) sc__law_refuses_ranges.nd rfl (Or.inr rfl) (LW.pe_d D__law_pick hr (by omega) (by rfl) passL (pa_cons (pv 0) (pa_cons (LW.pe_ls (pa_cons (pe_op LW.o_sub pe_int pe_int) (pa_cons (pe_op LW.o_add (pv 2) pe_int) (pa_cons pe_non (pa_cons pe_str (pa_cons pe_bl pa_nil)))))) pa_nil))))
    (pss_cons (ps_if (pt_cmpR LW.o_ne (pe_callB (LW.c_repr hgu hr) (by rfl) T.b_repr (by decide +kernel) (pa_cons (LamX.pe_lamcall (T := lamT K) (TT := TTref K errs .non) (by rfl) T.g__law_refused kpR lkR hcdR bR sc__law_refused rfl (Or.inl rfl) (HG rfl rfl) TB HC (by exact HM) (by exact HU) hr (LamX.lamS_by (sc := defScope s__law_refuses_ranges) (by decide +kernel)) rfl (fun _ _ _ _ _ => rfl) (fun _ _ _ _ _ _ _ hr => (LW.pe_d D_range_blocks hr (by omega) (by rfl) (passes_call (takes_of rfl rfl rfl rfl) (fun _ _ _ _ h => h)) (pa_cons (pv 3) (pa_cons (pv 3) (pa_cons (pv 1) pa_nil)))))) pa_nil)) (pe_callB (LW.c_repr hgu hr) (by rfl) T.b_repr (by decide +kernel) (pa_cons (LW.pe_tp (pa_cons pe_str (pa_cons (pv 3) pa_nil))) pa_nil)) (nomark _))
    (pss_one (ps_ret pe_bl)) pss_nil)
    (pss_cons (ps_if (PW.pt (pw_or (pt_cmpR LW.o_ne (pe_callB (LW.c_repr hgu hr) (by rfl) T.b_repr (by decide +kernel) (pa_cons (LamX.pe_lamcall (T := lamT K) (TT := TTref K errs .non) (by rfl) T.g__law_refused kpR lkR hcdR bR sc__law_refused rfl (Or.inl rfl) (HG rfl rfl) TB HC (by exact HM) (by exact HU) hr (LamX.lamS_by (sc := defScope s__law_refuses_ranges) (by decide +kernel)) rfl (fun _ _ _ _ _ => rfl) (fun _ _ _ _ _ _ _ hr => (LW.pe_d D_range_blocks hr (by omega) (by rfl) (passes_call (takes_of rfl rfl rfl rfl) (fun _ _ _ _ h => h)) (pa_cons pe_int (pa_cons pe_int (pa_cons (pv 1) pa_nil)))))) pa_nil)) (pe_callB (LW.c_repr hgu hr) (by rfl) T.b_repr (by decide +kernel) (pa_cons (LW.pe_tp (pa_cons pe_str (pa_cons pe_int pa_nil))) pa_nil)) (nomark _)) (pw_or1 (pt_cmpR (LW.o_dNe hr.units) (LW.pe_d D_range_blocks hr (by omega) (by rfl) passL (pa_cons pe_int (pa_cons (pv 2) (pa_cons (pv 1) pa_nil)))) (LW.pe_tp (pa_cons pe_str pa_nil)) (nomark _)))))
    (pss_one (ps_ret pe_bl)) pss_nil)
    (pss_cons (ps_if (pt_cmpR LW.o_ne (pe_callB (LW.c_repr hgu hr) (by rfl) T.b_repr (by decide +kernel) (pa_cons (LamX.pe_lamcall (T := lamT K) (TT := TTref K errs .non) (by rfl) T.g__law_refused kpR lkR hcdR bR sc__law_refused rfl (Or.inl rfl) (HG rfl rfl) TB HC (by exact HM) (by exact HU) hr (LamX.lamS_by (sc := defScope s__law_refuses_ranges) (by decide +kernel)) rfl (fun _ _ _ _ _ => rfl) (fun _ _ _ _ _ _ _ hr => (LW.pe_d D_address_of hr (by omega) (by rfl) (passes_call (takes_of rfl rfl rfl rfl) (fun _ _ _ _ h => h)) (pa_cons (pv 3) (pa_cons (pv 1) pa_nil))))) pa_nil)) (pe_callB (LW.c_repr hgu hr) (by rfl) T.b_repr (by decide +kernel) (pa_cons (LW.pe_tp (pa_cons pe_str (pa_cons (pv 3) pa_nil))) pa_nil)) (nomark _))
    (pss_one (ps_ret pe_bl)) pss_nil)
    (pss_cons (ps_set (i := 4) sc__law_refuses_ranges.nd rfl (Or.inr rfl) (LW.pe_d D__law_pick hr (by omega) (by rfl) passL (pa_cons (pv 0) (pa_cons (LW.pe_ls (pa_cons pe_int (pa_cons pe_int (pa_cons pe_non (pa_cons pe_str (pa_cons pe_bl pa_nil)))))) pa_nil))))
    (pss_cons (ps_for (passes_of rfl) rfl (pi_list (LW.pe_ls (pa_cons pe_int (pa_cons pe_int pa_nil)))) (pg_name (i := 5) sc__law_refuses_ranges.nd rfl (Or.inr rfl))
    (pss_cons (ps_set (i := 6) sc__law_refuses_ranges.nd rfl (Or.inl rfl) (LamX.pe_lamcall (T := lamT K) (TT := TTref K errs .non) (by rfl) T.g__law_refused kpR lkR hcdR bR sc__law_refused rfl (Or.inl rfl) (HG rfl rfl) TB HC (by exact HM) (by exact HU) hr (LamX.lamS_by (sc := defScope s__law_refuses_ranges) (by decide +kernel)) rfl (fun _ _ _ _ _ => rfl) (fun _ _ _ _ _ _ _ hr => (pe_ifExp (pt_cmpR LW.o_eq (pv 5) pe_int (nomark _)) (LW.pe_d D_address_of hr (by omega) (by rfl) (passes_call (takes_of rfl rfl rfl rfl) (fun _ _ _ _ h => h)) (pa_cons pe_non (pa_cons (pv 4) pa_nil))) (LW.pe_d D_range_of hr (by omega) (by rfl) (passes_call (takes_of rfl rfl rfl rfl) (fun _ _ _ _ h => h)) (pa_cons pe_non (pa_cons (pv 4) pa_nil)))))))
    (pss_one (ps_if (pt_cmpR LW.o_ne (pe_callB (LW.c_repr hgu hr) (by rfl) T.b_repr (by decide +kernel) (pa_cons (pv 6) pa_nil)) (pe_callB (LW.c_repr hgu hr) (by rfl) T.b_repr (by decide +kernel) (pa_cons (LW.pe_tp (pa_cons pe_str (pa_cons (pv 4) pa_nil))) pa_nil)) (nomark _))
    (pss_one (ps_ret pe_bl)) pss_nil))))
    (pss_cons (ps_set (i := 7) sc__law_refuses_ranges.nd rfl (Or.inr rfl) (LW.pe_d D__law_pick hr (by omega) (by rfl) passL (pa_cons (pv 0) (pa_cons (LW.pe_ls (pa_cons pe_str (pa_cons pe_str (pa_cons pe_non (pa_cons pe_int (pa_cons (pe_op LW.o_rep1 pe_str pe_int) (pa_cons (LW.pe_ls (pa_cons pe_str pa_nil)) pa_nil))))))) pa_nil))))
    (pss_cons (ps_if (pt_cmpR LW.o_ne (pe_callB (LW.c_repr hgu hr) (by rfl) T.b_repr (by decide +kernel) (pa_cons (LamX.pe_lamcall (T := lamT K) (TT := TTref K errs .non) (by rfl) T.g__law_refused kpR lkR hcdR bR sc__law_refused rfl (Or.inl rfl) (HG rfl rfl) TB HC (by exact HM) (by exact HU) hr (LamX.lamS_by (sc := defScope s__law_refuses_ranges) (by decide +kernel)) rfl (fun _ _ _ _ _ => rfl) (fun _ _ _ _ _ _ _ hr => (LW.pe_d D_number_of hr (by omega) (by rfl) (passes_call (takes_of rfl rfl rfl rfl) (fun _ _ _ _ h => h)) (pa_cons (pv 7) pa_nil)))) pa_nil)) (pe_callB (LW.c_repr hgu hr) (by rfl) T.b_repr (by decide +kernel) (pa_cons (LW.pe_tp (pa_cons pe_str (pa_cons (pv 7) pa_nil))) pa_nil)) (nomark _))
    (pss_one (ps_ret pe_bl)) pss_nil)
    (pss_cons (ps_set (i := 7) sc__law_refuses_ranges.nd rfl (Or.inr rfl) (LW.pe_d D__law_pick hr (by omega) (by rfl) passL (pa_cons (pv 0) (pa_cons (LW.pe_ls (pa_cons (pe_op LW.o_rep1 pe_str (pe_op LW.o_add (pv 1) pe_int)) (pa_cons pe_str (pa_cons pe_non (pa_cons pe_int pa_nil))))) pa_nil))))
    (pss_one (ps_ret (pe_cmpR LW.o_eq (pe_callB (LW.c_repr hgu hr) (by rfl) T.b_repr (by decide +kernel) (pa_cons (LamX.pe_lamcall (T := lamT K) (TT := TTref K errs .non) (by rfl) T.g__law_refused kpR lkR hcdR bR sc__law_refused rfl (Or.inl rfl) (HG rfl rfl) TB HC (by exact HM) (by exact HU) hr (LamX.lamS_by (sc := defScope s__law_refuses_ranges) (by decide +kernel)) rfl (fun _ _ _ _ _ => rfl) (fun _ _ _ _ _ _ _ hr => (LW.pe_d D_range_of hr (by omega) (by rfl) (passes_call (takes_of rfl rfl rfl rfl) (fun _ _ _ _ h => h)) (pa_cons (pv 7) (pa_cons (pv 1) pa_nil))))) pa_nil)) (pe_callB (LW.c_repr hgu hr) (by rfl) T.b_repr (by decide +kernel) (pa_cons (LW.pe_tp (pa_cons pe_str (pa_cons (pv 7) pa_nil))) pa_nil)) (nomark _))))))))))))), ?_⟩
    obtain ⟨r, sc, w', rfl, h1, h64, hrow, hT, q⟩ := h
    walk_at "go"
    refine w_new (by simp) fun l1 H1 n1 e1 hl1 => ?_
    walk_at "go"
    have row1 := hrow.ex e1
    have T1 := hT.ext e1
    refine ⟨r, l1, sc, _, rfl, row1, .inl ⟨hl1, hrow.ne n1⟩, by simp, by simp, fun wrong hwr H2 e2 row2 => ?_⟩
    have T2 := tabs_exc T1 row1 e2
    have hw : Wrong K "number" (fun v => within v 0 (2 ^ w' - 1) = false) H2 wrong := by
      have e0 : (((2 ^ w' : Nat) : Int) - 1 + 1) = ((2 ^ w' : Nat) : Int) := by omega
      have hp := M34.p2 w'
      simp only [e0, List.mem_cons, List.not_mem_nil, or_false] at hwr
      rcases hwr with rfl | rfl | rfl | rfl | rfl
      · exact ⟨.int (-1), .int _, by decide +kernel, rfl⟩
      · refine ⟨.int _, .int _, show_num w' (by omega), ?_⟩
        have e : ((2 ^ w' : Nat) : Int) = 2 ^ w' := by simp
        show within _ _ _ = false
        rw [within_eq, Bool.and_eq_false_iff]
        exact .inr (decide_eq_false (by omega))
      · exact ⟨.none, .non, by decide +kernel, rfl⟩
      · exact ⟨.str "1", .str _, by decide +kernel, rfl⟩
      · exact ⟨.bool true, .bl _, by decide +kernel, rfl⟩
    clear hwr
    obtain ⟨d, hd, hs, hout⟩ := hw
    have neW : within (.int (w' : Int)) 1 64 = false → False := fun c => by rw [within_w h1 h64] at c; cases c
    walk_at "go"
    refine lam_ref (L := errs) (word := "number") (v := wrong) T2 (fun H3 e3 t3 R Q' hR => ?_) (fun t H3 e3 T3 h3 => ?_)
    · walk_at "go"
      obtain ⟨n, kn⟩ := dp_kn (extn_d e3 _ _ hd)
      refine ⟨wrong, wrong, .int (w' : Int), n, n, "int", rfl, kn, kn, kn_int, fun c => (neW c).elim, fun w2 ew _ _ => ?_⟩
      obtain rfl := nat_of ew
      exact ⟨fun _ => rz_ref (by simp [errs]) hR, fun lo elo hlo => (not_within hout elo hlo).elim⟩
    have hd3 := extn_d e3 _ _ hd
    walk_at "go"
    refine v_repr (d := .tuple [.str "number", d]) (.tup (st_of h3) (.cons (.str _) (.cons hd3 .nil))) hs ?_
    walk_at "go"
    refine w_new (by simp) fun p4 H4 np4 e4 h4 => ?_
    have hd4 := up_d e4 _ _ hd3
    have T4 := T3.ext e4
    walk_at "go"
    refine v_repr (d := .tuple [.str "number", d]) (.tup (st_of h4) (.cons (.str _) (.cons hd4 .nil))) hs ?_
    walk_at "go"
    refine w_ndec (fun z => absurd rfl z) (fun _ => ?_)
    walk_at "go"
    have row4 := (row2.extn e3).ex e4
    refine lam_ref (L := errs) (word := "number") (v := .int 0) T4 (fun H5 e5 t5 R Q' hR => ?_) (fun t5 H5 e5 T5 h5 => ?_)
    · walk_at "go"
      refine ⟨.int 1, .int 0, .int (w' : Int), "int", "int", "int", rfl, kn_int, kn_int, kn_int, fun c => (neW c).elim, fun w2 ew _ _ => ?_⟩
      obtain rfl := nat_of ew
      have one : (1 : Nat) < 2 ^ w' := Nat.one_lt_two_pow (by omega)
      refine ⟨fun c => ?_, fun lo elo hlo => ⟨fun c => ?_, fun hi ehi hhi => ⟨fun _ => rz_ref (by simp [errs]) hR, fun hle => ?_⟩⟩⟩
      · have := within_n one
        rw [show (V.int ((1 : Nat) : Int)) = .int 1 from rfl] at this
        rw [this] at c
        cases c
      · have := within_n (w := w') (k := 0) (by omega)
        rw [show (V.int ((0 : Nat) : Int)) = .int 0 from rfl] at this
        rw [this] at c
        cases c
      · have a1 : lo = 1 := (nat_of (w := 1) elo).symm
        have a2 : hi = 0 := (nat_of (w := 0) ehi).symm
        omega
    have hd5 := extn_d e5 _ _ hd4
    walk_at "go"
    refine v_repr (d := .tuple [.str "number", .int 0]) (.tup (st_of h5) (.cons (.str _) (.cons (.int _) .nil))) (by decide +kernel) ?_
    walk_at "go"
    refine w_new (by simp) fun p6 H6 np6 e6 h6 => ?_
    have hd6 := up_d e6 _ _ hd5
    have T6 := T5.ext e6
    have row6 := (row4.extn e5).ex e6
    walk_at "go"
    refine v_repr (d := .tuple [.str "number", .int 0]) (.tup (st_of h6) (.cons (.str _) (.cons (.int _) .nil))) (by decide +kernel) ?_
    walk_at "go"
    refine w_ndec (fun z => absurd rfl z) (fun _ => ?_)
    walk_at "go"
    have hp := M34.p2 w'
    have em : (((2 ^ w' : Nat) : Int) - 1) = ((2 ^ w' - 1 : Nat) : Int) := by omega
    refine ⟨.int 0, _, .int (w' : Int), "int", "int", "int", rfl, kn_int, kn_int, kn_int, fun c => (neW c).elim, fun w2 ew _ _ => ?_⟩
    obtain rfl := nat_of ew
    refine ⟨fun c => ?_, fun lo elo hlo => ⟨fun c => ?_, fun hi ehi hhi => ⟨fun hlt => ?_, fun hle t7 H7 nt7 e7 h7 => ?_⟩⟩⟩
    · have := within_n (w := w') (k := 0) (by omega)
      rw [show (V.int ((0 : Nat) : Int)) = .int 0 from rfl] at this
      rw [this] at c
      cases c
    · rw [em, within_n (by omega)] at c
      cases c
    · have a1 : lo = 0 := (nat_of (w := 0) elo).symm
      omega
    have a1 : lo = 0 := (nat_of (w := 0) elo).symm
    have a2 : hi = 2 ^ w' - 1 := by
      rw [em] at ehi
      exact (nat_of ehi).symm
    subst a1 a2
    have eb : blkV w' (M34.all w' (2 ^ w' - 1) 0) = [.str ""] := by
      rw [all_one]
      unfold blkV blkT
      rw [List.map_cons, List.map_nil, Nat.sub_self, List.take_zero]
      rfl
    rw [eb] at h7
    walk_at "go"
    refine w_new (by simp) fun p8 H8 np8 e8 h8 => ?_
    walk_at "go"
    refine ⟨.tuple [.str ""], .tuple [.str ""], .tup (st_of (e8 _ _ h7)) (.cons (.str _) .nil), .tup (st_of h8) (.cons (.str _) .nil), by decide +kernel, by decide +kernel, ?_⟩
    have ee : PyData.eqv (.tuple [.str ""]) (.tuple [.str ""]) = true := by decide +kernel
    rw [ee]
    walk_at "go"
    have e68 := e7.trans e8
    have hd8 := up_d e68 _ _ hd6
    have T8 := T6.ext e68
    have row8 := row6.ex e68
    refine lam_ref (L := errs) (word := "number") (v := wrong) T8 (fun H9 e9 t9 R Q' hR => ?_) (fun t9 H9 e9 T9 h9 => ?_)
    · walk_at "go"
      obtain ⟨n, kn⟩ := dp_kn (extn_d e9 _ _ hd8)
      refine ⟨wrong, .int (w' : Int), n, "int", rfl, kn, kn_int, fun c => (neW c).elim, fun w2 ew _ _ => ?_⟩
      obtain rfl := nat_of ew
      exact ⟨fun _ => rz_ref (by simp [errs]) hR, fun lo elo hlo => (not_within hout elo hlo).elim⟩
    have hd9 := extn_d e9 _ _ hd8
    walk_at "go"
    refine v_repr (d := .tuple [.str "number", d]) (.tup (st_of h9) (.cons (.str _) (.cons hd9 .nil))) hs ?_
    walk_at "go"
    refine w_new (by simp) fun p10 H10 np10 e10 h10 => ?_
    have hd10 := up_d e10 _ _ hd9
    have T10 := T9.ext e10
    have row10 := (row8.extn e9).ex e10
    walk_at "go"
    refine v_repr (d := .tuple [.str "number", d]) (.tup (st_of h10) (.cons (.str _) (.cons hd10 .nil))) hs ?_
    walk_at "go"
    refine w_ndec (fun z => absurd rfl z) (fun _ => ?_)
    walk_at "go"
    refine w_new (by simp) fun l11 H11 n11 e11 h11 => ?_
    walk_at "go"
    have row11 := row10.ex e11
    have T11 := T10.ext e11
    refine ⟨r, l11, sc, _, rfl, row11, .inl ⟨h11, row10.ne n11⟩, by simp, by simp, fun bad hbad H12 e12 row12 => ?_⟩
    have T12 := tabs_exc T11 row11 e12
    have hw : Wrong K "width" (fun v => within v 1 64 = false) H12 bad := by
      simp only [List.mem_cons, List.not_mem_nil, or_false] at hbad
      rcases hbad with rfl | rfl | rfl | rfl | rfl
      · exact ⟨.int 0, .int _, by decide +kernel, rfl⟩
      · exact ⟨.int 65, .int _, by decide +kernel, rfl⟩
      · exact ⟨.none, .non, by decide +kernel, rfl⟩
      · exact ⟨.str "8", .str _, by decide +kernel, rfl⟩
      · exact ⟨.bool false, .bl _, by decide +kernel, rfl⟩
    clear hbad hd hd3 hd4 hd5 hd6 hd8 hd9 hd10 hs hout
    obtain ⟨d2, hd, hs, hout⟩ := hw
    walk_at "go"
    refine w_new (by simp) fun l13 H13 n13 e13 h13 => ?_
    walk_at "go"
    refine ⟨l13, rfl, ⟨_, sl_of h13⟩, ?_⟩
    refine for_x (walk_list (xs := [.int 1, .int 2])) (fun i σ H' => (∃ (v7 v8 : Option V), σ = [some (.ref r), some (.int (w' : Int)), some (.int (((2 ^ w' : Nat) : Int) - 1)), some wrong, some bad, v7, v8, none]) ∧ H' l13 = some (.lst [.int 1, .int 2]) ∧ RowOk K sc H' r ∧ LamX.Tabs (lamT K) H' ∧ Dp K H' bad d2)
      ⟨⟨none, none, rfl⟩, h13, row12.ex e13, T12.ext e13, up_d e13 _ _ hd⟩ (fun i σ H' _ p => sl_of p.2.1) (fun i x σ H14 H15 hi p y => ?_) (fun σ H14 p => ?_)
    · obtain ⟨⟨v7, v8, rfl⟩, hl, row14, T14, hd14⟩ := p
      obtain ⟨rfl, hx⟩ := y
      have hx2 : x = .int 1 ∨ x = .int 2 := by
        have := List.mem_of_getElem? hx
        simpa using this
      walk_at "go"
      refine lam_ref (L := errs) (word := "width") (v := bad) T14 (fun H15 e15 t15 R Q' hR => ?_) (fun t15 H15 e15 T15 h15 => ?_)
      · obtain ⟨n, kn⟩ := dp_kn (extn_d e15 _ _ hd14)
        rcases hx2 with rfl | rfl
        · walk_at "go"
          refine w_dec (fun _ => ?_) (fun z => absurd rfl z)
          walk_at "go"
          exact ⟨.non, bad, "NoneType", n, rfl, kn_non, kn, fun _ => rz_ref (by simp [errs]) hR, fun w2 ew b1 b2 => (not_width hout ew b1 b2).elim⟩
        · walk_at "go"
          refine w_dec (fun z => absurd z (by decide)) (fun _ => ?_)
          walk_at "go"
          exact ⟨.non, bad, "NoneType", n, rfl, kn_non, kn, (fun z hz => by cases hz), fun _ => rz_ref (by simp [errs]) hR, fun w2 ew b1 b2 => (not_width hout ew b1 b2).elim⟩
      · have hd15 := extn_d e15 _ _ hd14
        walk_at "go"
        refine v_repr (d := .tuple [.str "width", d2]) (.tup (st_of h15) (.cons (.str _) (.cons hd15 .nil))) hs ?_
        walk_at "go"
        refine w_new (by simp) fun p16 H16 np16 e16 h16 => ?_
        have hd16 := up_d e16 _ _ hd15
        walk_at "go"
        refine v_repr (d := .tuple [.str "width", d2]) (.tup (st_of h16) (.cons (.str _) (.cons hd16 .nil))) hs ?_
        walk_at "go"
        refine w_ndec (fun z => absurd rfl z) (fun _ => ?_)
        walk_at "go"
        exact ⟨⟨_, _, rfl⟩, e16 _ _ (extn_o e15 hl (fun _ z => by cases z)), (row14.extn e15).ex e16, T15.ext e16, hd16⟩
    · obtain ⟨⟨v7, v8, rfl⟩, hl, row14, T14, hd14⟩ := p
      walk_at "go"
      refine ⟨48, 65, rfl, rfl, by omega, ?_⟩
      walk_at "go"
      refine w_new (by simp) fun l15 H15 n15 e15 h15 => ?_
      walk_at "go"
      refine w_new (by simp) fun l16 H16 n16 e16 h16 => ?_
      walk_at "go"
      have row16 := (row14.ex e15).ex e16
      have T16 := (T14.ext e15).ext e16
      refine ⟨r, l16, sc, _, rfl, row16, .inl ⟨h16, (row14.ex e15).ne n16⟩, by simp, by simp, fun odd hodd H17 e17 row17 => ?_⟩
      have T17 := tabs_exc T16 row16 e17
      have h15' : H17 l15 = some (.lst [.str "0"]) := e17 _ _ (row14.ne n15) (e16 _ _ h15)
      have hw : Wrong K "address" (fun v => (∀ z, v = .str z → z.length ≤ 100000) ∧ (bits v 64 = false ∨ v = .str (S []))) H17 odd := by
        simp only [List.mem_cons, List.not_mem_nil, or_false] at hodd
        rcases hodd with rfl | rfl | rfl | rfl | rfl | rfl
        · exact ⟨.str "", .str _, by decide +kernel, fun z hz => by cases hz; decide, .inr rfl⟩
        · exact ⟨.str "2", .str _, by decide +kernel, fun z hz => by cases hz; decide, .inl (by decide +kernel)⟩
        · exact ⟨.none, .non, by decide +kernel, (fun z hz => by cases hz), .inl rfl⟩
        · exact ⟨.int 3, .int _, by decide +kernel, (fun z hz => by cases hz), .inl rfl⟩
        · exact ⟨.str _, .str _, by decide +kernel, (fun z hz => by cases hz; decide +kernel), .inl (by decide +kernel)⟩
        · exact ⟨.list [.str "0"], .lst (sl_of h15') (.cons (.str _) .nil), by decide +kernel, (fun z hz => by cases hz), .inl rfl⟩
      clear hodd
      obtain ⟨d3, hd3, hs3, hlen3, hout3⟩ := hw
      walk_at "go"
      refine lam_ref (L := errs) (word := "address") (v := odd) T17 (fun H18 e18 t18 R Q' hR => ?_) (fun t18 H18 e18 T18 h18 => ?_)
      · walk_at "go"
        obtain ⟨n, kn⟩ := dp_kn (extn_d e18 _ _ hd3)
        refine ⟨odd, n, rfl, kn, hlen3, fun _ => rz_ref (by simp [errs]) hR, fun c l el hl => ?_⟩
        rcases hout3 with h | h
        · rw [h] at c
          cases c
        · rw [h] at el
          have : (S [] : Str) = S l := V.str.inj el
          have h2 : (S [] : Str).cps.toList = (S l).cps.toList := by rw [this]
          exact (hl (by simpa [S] using h2.symm)).elim
      have hd18 := extn_d e18 _ _ hd3
      walk_at "go"
      refine v_repr (d := .tuple [.str "address", d3]) (.tup (st_of h18) (.cons (.str _) (.cons hd18 .nil))) hs3 ?_
      walk_at "go"
      refine w_new (by simp) fun p19 H19 np19 e19 h19 => ?_
      have hd19 := up_d e19 _ _ hd18
      have T19 := T18.ext e19
      have row19 := (row17.extn e18).ex e19
      walk_at "go"
      refine v_repr (d := .tuple [.str "address", d3]) (.tup (st_of h19) (.cons (.str _) (.cons hd19 .nil))) hs3 ?_
      walk_at "go"
      refine w_ndec (fun z => absurd rfl z) (fun _ => ?_)
      walk_at "go"
      have ew1 : ((w' : Int) + 1) = ((w' + 1 : Nat) : Int) := by omega
      rw [ew1]
      refine ⟨48, w' + 1, rfl, rfl, by omega, ?_⟩
      walk_at "go"
      refine w_new (by simp) fun l20 H20 n20 e20 h20 => ?_
      walk_at "go"
      have row20 := row19.ex e20
      have T20 := T19.ext e20
      refine ⟨r, l20, sc, _, rfl, row20, .inl ⟨h20, row19.ne n20⟩, by simp, by simp, fun odd2 hodd2 H21 e21 row21 => ?_⟩
      have T21 := tabs_exc T20 row20 e21
      have hw : Wrong K "prefix" (fun v => (∀ z, v = .str z → z.length ≤ 100000) ∧ bits v w' = false) H21 odd2 := by
        simp only [List.mem_cons, List.not_mem_nil, or_false] at hodd2
        rcases hodd2 with rfl | rfl | rfl | rfl
        · refine ⟨.str _, .str _, show_pre (w' + 1) (by omega), fun z hz => ?_, ?_⟩
          · have := V.str.inj hz
            rw [← this, S_len, List.length_replicate]
            omega
          · have : ¬ (((S (List.replicate (w' + 1) 48)).length : Int) ≤ (w' : Int)) := by
              rw [S_len, List.length_replicate]
              omega
            exact (bits_eq _ _).trans (by rw [decide_eq_false this, Bool.false_and])
        · refine ⟨.str "2", .str _, by decide +kernel, fun z hz => by cases hz; decide, ?_⟩
          have : ("2" : Str).cps.toList.all isBit = false := by decide +kernel
          exact (bits_eq _ _).trans (by rw [this, Bool.and_false])
        · exact ⟨.none, .non, by decide +kernel, (fun z hz => by cases hz), rfl⟩
        · exact ⟨.int 3, .int _, by decide +kernel, (fun z hz => by cases hz), rfl⟩
      clear hodd2
      obtain ⟨d4, hd4, hs4, hlen4, hout4⟩ := hw
      walk_at "go"
      refine lam_ref (L := errs) (word := "prefix") (v := odd2) T21 (fun H22 e22 t22 R Q' hR => ?_) (fun t22 H22 e22 T22 h22 => ?_)
      · walk_at "go"
        obtain ⟨n, kn⟩ := dp_kn (extn_d e22 _ _ hd4)
        refine ⟨odd2, .int (w' : Int), n, "int", rfl, kn, kn_int, hlen4, fun c => (neW c).elim, fun w2 ew _ _ => ?_⟩
        obtain rfl := nat_of ew
        exact ⟨fun _ => rz_ref (by simp [errs]) hR, fun c => by rw [hout4] at c; cases c⟩
      have hd22 := extn_d e22 _ _ hd4
      walk_at "go"
      refine v_repr (d := .tuple [.str "prefix", d4]) (.tup (st_of h22) (.cons (.str _) (.cons hd22 .nil))) hs4 ?_
      walk_at "go"
      refine w_new (by simp) fun p23 H23 np23 e23 h23 => ?_
      have hd23 := up_d e23 _ _ hd22
      walk_at "go"
      refine v_repr (d := .tuple [.str "prefix", d4]) (.tup (st_of h23) (.cons (.str _) (.cons hd23 .nil))) hs4 ?_
      walk_at "go"
      rw [decide_eq_true rfl]
      exact q H23
end
end K34
namespace K34
open PySem PySem.Spec PyProof.Rows L2 LW SX
section
variable {P : Program} {w : World} {K : PySem.W.Frag} {mg : Str → Option Value} {base : Heap}
theorem ok_law (T : Txt K mg) (D__law_taken : Dk P w K mg base (L2.CX P w) 1 "_law_taken" (spTaken K)) (D__law_pick : Dk P w K mg base (L2.CX P w) 2 "_law_pick" (spPick K)) (D__law_bits : Dk P w K mg base (L2.CX P w) 2 "_law_bits" (spLawBits K))
    (D__law_big : Dk P w K mg base (L2.CX P w) 2 "_law_big" (spLawBig K)) (D__law_binary : Dk P w K mg base (L2.CX P w) 1 "_law_binary" spBitsTold) (D__law_range : Dk P w K mg base (L2.CX P w) 1 "_law_range" spLawRange)
    (D__law_alike : Dk P w K mg base (L2.CX P w) 4 "_law_alike" (spAlike K 4)) (D_range_blocks : Dk P w K mg base (L2.CX P w) 5 "range_blocks" (spRangeBlocks K)) (D_address_of : Dk P w K mg base (L2.CX P w) 5 "address_of" (spAddressOf K))
    (D_range_of : Dk P w K mg base (L2.CX P w) 5 "range_of" (spRangeOf K)) (D_number_of : Dk P w K mg base (L2.CX P w) 4 "number_of" (spNumberOf K)) (D__law_refuses_ranges : DkG P w K mg base (L2.CX P w) 8 "_law_refuses_ranges" (spRefuses K))
    {fd : FuncData} (F : FunD K "law" "law" (defArgs s_law) (defBody s_law) (defScope s_law) [] [] (He.fAd K ("law", none)) fd) : FnG P w K mg base (L2.CX P w) 9 (He.ga K "law") fd ["script"] (spLaw K (lamT K)) := by
  refine LW.FunD.okG F sc_law (fun vs H Q E h => ?_) (fun cdv A outer s H vs Q E hgu hr hcd lk hcv h => ⟨_, (pss_cons (ps_set (i := 1) sc_law.nd rfl (Or.inl rfl) (LW.pe_ls (pa_cons (pv 0) (pa_cons pe_int (pa_cons pe_int (pa_cons pe_int pa_nil))))))
    (pss_cons (ps_set (i := 2) sc_law.nd rfl (Or.inl rfl) (LW.pe_d D__law_pick hr (by omega) (by rfl) passL (pa_cons (pv 1) (pa_cons (LW.pe_ls (pa_cons pe_int (pa_cons pe_int (pa_cons pe_int (pa_cons pe_int (pa_cons pe_int (pa_cons pe_int (pa_cons pe_int pa_nil)))))))) pa_nil))))
    (pss_cons (ps_set (i := 3) sc_law.nd rfl (Or.inl rfl) (pe_op LW.o_sub (pe_op LW.o_shl pe_int (pv 2)) pe_int))
    (pss_cons (ps_set (i := 4) sc_law.nd rfl (Or.inl rfl) (pe_callB (LW.c_min2 rfl) (by rfl) T.b_min (by decide +kernel) (pa_cons (pv 3) (pa_cons (LW.pe_d D__law_big hr (by omega) (by rfl) passL (pa_cons (pv 1) (pa_cons (pv 2) pa_nil))) pa_nil))))
    (pss_cons (ps_set (i := 5) sc_law.nd rfl (Or.inl rfl) (LW.pe_d D__law_pick hr (by omega) (by rfl) passL (pa_cons (pv 1) (pa_cons (LW.pe_ls (pa_cons (pv 4) (pa_cons (pv 3) (pa_cons (pe_callB (LW.c_min2 rfl) (by rfl) T.b_min (by decide +kernel) (pa_cons (pv 3) (pa_cons (pe_op LW.o_add (pv 4) (LW.pe_d D__law_taken hr (by omega) (by rfl) passL (pa_cons (pv 1) (pa_cons pe_int pa_nil)))) pa_nil))) (pa_cons (pe_op LW.o_add (pv 4) (pe_op LW.o_fdiv (pe_op LW.o_sub (pv 3) (pv 4)) pe_int)) (pa_cons (pe_op LW.o_add (pv 4) (pe_op LW.o_mod (LW.pe_d D__law_big hr (by omega) (by rfl) passL (pa_cons (pv 1) (pa_cons (pv 2) pa_nil))) (pe_op LW.o_add (pe_op LW.o_sub (pv 3) (pv 4)) pe_int))) pa_nil)))))) pa_nil))))
    (pss_cons (ps_par (i := 6) (j := 7) (by rfl) sc_law.nd rfl rfl (by decide) rfl rfl (pa_cons (LW.pe_d D_range_blocks hr (by omega) (by rfl) passL (pa_cons (pv 4) (pa_cons (pv 5) (pa_cons (pv 2) pa_nil)))) (pa_cons (pv 4) pa_nil)) (by rfl))
    (pss_cons (ps_for (passes_of rfl) rfl (pi_tup (pv 6)) (pg_name (i := 8) sc_law.nd rfl (Or.inl rfl))
    (pss_cons (ps_asg (LW.pe_d D_range_of hr (by omega) (by rfl) passL (pa_cons (pv 8) (pa_cons (pv 2) pa_nil))) (pg_tup rfl (pgs_cons (pg_name (i := 9) sc_law.nd rfl (Or.inl rfl)) (pgs_cons (pg_name (i := 10) sc_law.nd rfl (Or.inl rfl)) pgs_nil))))
    (pss_cons (ps_if (PW.pt (pw_or (pt_cmpR LW.o_ne (pv 9) (pv 7) (nomark _)) (pw_or (pt_cmpR LW.o_ne (pe_op LW.o_add (pe_op LW.o_sub (pv 10) (pv 9)) pe_int) (pe_op LW.o_shl pe_int (pe_op LW.o_sub (pv 2) (pe_callB LW.c_lenS (by rfl) T.b_len (by decide +kernel) (pa_cons (pv 8) pa_nil)))) (nomark _)) (pw_or1 (pt_cmpR LW.o_ne (pe_op LW.o_mod (pv 9) (pe_op LW.o_add (pe_op LW.o_sub (pv 10) (pv 9)) pe_int)) pe_int (nomark _))))))
    (pss_one (ps_ret pe_bl)) pss_nil)
    (pss_one (ps_set (i := 7) sc_law.nd rfl (Or.inl rfl) (pe_op LW.o_add (pv 10) pe_int))))))
    (pss_cons (ps_if (PW.pt (pw_or (pt_cmpR LW.o_ne (pv 7) (pe_op LW.o_add (pv 5) pe_int) (nomark _)) (pw_or1 (pt_cmpR (LW.o_dNe hr.units) (pe_lc (own := [("one", 11), ("two", 12)]) (by rfl) sc_law.nd (RZ.pi_zipA (by rfl) T.b_zip (pa_cons (pv 6) (pa_cons (pe_slice LW.sl_tup (pv 6) (po_some pe_int) po_none) pa_nil))) (blkOk_by (own := [("one", 11), ("two", 12)]) (N := ["script", "row", "width", "most", "low", "high", "blocks", "at", "block", "first", "last", "one", "two", "number", "address", "prefix"]) (sc := defScope s_law) (by decide +kernel)) (fun _ _ _ _ _ => (LW.pg_tupK (K := K) (n := 2) rfl (pgs_cons (pg_name (i := 11) sc_law.nd rfl (Or.inl rfl)) (pgs_cons (pg_name (i := 12) sc_law.nd rfl (Or.inl rfl)) pgs_nil)))) (fun _ _ _ _ _ => (pts_one (pt_cmpR LW.o_eq (pe_slice LW.sl_str (pv 11) po_none (po_some (pe_un un_neg pe_int))) (pe_slice LW.sl_str (pv 12) po_none (po_some (pe_un un_neg pe_int))) (nomark _)))) (fun _ _ _ _ _ => (pv 11))) (LW.pe_ls pa_nil) (nomark _)))))
    (pss_one (ps_ret pe_bl)) pss_nil)
    (pss_cons (ps_if (PW.pt (pw_or (pt_not (pt_val (LW.pe_d D__law_alike hr (by omega) (by rfl) passL (pa_cons (pv 6) (pa_cons (pe_callTy LW.c_tuple (by rfl) T.b_tuple (by decide +kernel) (pa_cons (pe_callB LW.c_sortedS (by rfl) T.b_sorted (by decide +kernel) (pa_cons (pv 6) pa_nil)) pa_nil)) pa_nil))))) (pw_or1 (pt_cmpR LW.o_gt (pe_callB LW.c_lenQ (by rfl) T.b_len (by decide +kernel) (pa_cons (pv 6) pa_nil)) (pe_callB (LW.c_max2 rfl) (by rfl) T.b_max (by decide +kernel) (pa_cons pe_int (pa_cons (pe_op LW.o_sub (pe_op LW.o_mul pe_int (pv 2)) pe_int) pa_nil))) (nomark _)))))
    (pss_one (ps_ret pe_bl)) pss_nil)
    (pss_cons (ps_for (passes_of rfl) rfl (pi_tup (pv 6)) (pg_name (i := 8) sc_law.nd rfl (Or.inl rfl))
    (pss_one (ps_if (PW.pt (pw_and (pt_cmpR LW.o_ne (pv 8) pe_str (nomark _)) (pw_and (pt_cmpR LW.o_ge (pe_ix LW.ix_tup (LW.pe_d D__law_range hr (by omega) (by rfl) passL (pa_cons (pe_slice LW.sl_str (pv 8) po_none (po_some (pe_un un_neg pe_int))) (pa_cons (pv 2) pa_nil))) pe_int (fun _ _ => rfl)) (pv 4) (nomark _)) (pw_and1 (pt_cmpR LW.o_le (pe_ix LW.ix_tup (LW.pe_d D__law_range hr (by omega) (by rfl) passL (pa_cons (pe_slice LW.sl_str (pv 8) po_none (po_some (pe_un un_neg pe_int))) (pa_cons (pv 2) pa_nil))) pe_int (fun _ _ => rfl)) (pv 5) (nomark _))))))
    (pss_one (ps_ret pe_bl)) pss_nil)))
    (pss_cons (ps_for (passes_of rfl) rfl (pi_list (LW.pe_ls (pa_cons (pv 4) (pa_cons (pv 5) (pa_cons (pe_op LW.o_fdiv (pe_op LW.o_add (pv 4) (pv 5)) pe_int) pa_nil))))) (pg_name (i := 13) sc_law.nd rfl (Or.inl rfl))
    (pss_cons (ps_set (i := 14) sc_law.nd rfl (Or.inl rfl) (LW.pe_d D_address_of hr (by omega) (by rfl) passL (pa_cons (pv 13) (pa_cons (pv 2) pa_nil))))
    (pss_one (ps_if (pt_not (pt_val (LW.pe_d D__law_alike hr (by omega) (by rfl) passL (pa_cons (LW.pe_ls (pa_cons (LW.pe_d D_number_of hr (by omega) (by rfl) passL (pa_cons (pv 14) pa_nil)) (pa_cons (pe_callB LW.c_lenS (by rfl) T.b_len (by decide +kernel) (pa_cons (pv 14) pa_nil)) (pa_cons (pv 14) pa_nil)))) (pa_cons (LW.pe_ls (pa_cons (pv 13) (pa_cons (pv 2) (pa_cons (LW.pe_d D__law_binary hr (by omega) (by rfl) passL (pa_cons (pv 13) (pa_cons (pv 2) pa_nil))) pa_nil)))) pa_nil)))))
    (pss_one (ps_ret pe_bl)) pss_nil))))
    (pss_cons (ps_set (i := 15) sc_law.nd rfl (Or.inl rfl) (pe_slice LW.sl_str (LW.pe_d D__law_bits hr (by omega) (by rfl) passL (pa_cons (pv 1) (pa_cons (pv 2) pa_nil))) po_none (po_some (pv 2))))
    (pss_cons (ps_if (pt_not (pt_val (LW.pe_d D__law_alike hr (by omega) (by rfl) passL (pa_cons (LW.pe_d D_range_of hr (by omega) (by rfl) passL (pa_cons (pv 15) (pa_cons (pv 2) pa_nil))) (pa_cons (LW.pe_d D__law_range hr (by omega) (by rfl) passL (pa_cons (pv 15) (pa_cons (pv 2) pa_nil))) pa_nil)))))
    (pss_one (ps_ret pe_bl)) pss_nil)
    (pss_one (ps_ret (LW.pe_dG hgu D__law_refuses_ranges hr (by omega) (by rfl) passL (pa_cons (pv 1) (pa_cons (pv 2) (pa_cons (pv 3) pa_nil))))))))))))))))))), ?_⟩)
  · obtain ⟨a, ns, rfl, _⟩ := h
    rfl
  · obtain ⟨a, ns, rfl, hsq, hfew, hbig, hT, q⟩ := h
    walk_at "go"
    refine w_new (by simp) fun r H1 n1 e1 h1 => ?_
    walk_at "go"
    have row1 : RowOk K (a, ns) H1 r := ⟨0, 739, 0, h1, up_l e1 hsq, hfew, by decide, by decide, by decide⟩
    have T1 := hT.ext e1
    refine w_new (by simp) fun l2 H2 n2 e2 h2 => ?_
    walk_at "go"
    have row2 := row1.ex e2
    have T2 := T1.ext e2
    refine ⟨r, l2, (a, ns), _, rfl, row2, .inl ⟨h2, row1.ne n2⟩, by simp, by simp, fun wv hwv H3 e3 row3 => ?_⟩
    have T3 := tabs_exc T2 row2 e3
    obtain ⟨w', rfl, hw1, hw64⟩ : ∃ w' : Nat, wv = .int (w' : Int) ∧ 1 ≤ w' ∧ w' ≤ 64 := by
      simp only [List.mem_cons, List.not_mem_nil, or_false] at hwv
      rcases hwv with rfl | rfl | rfl | rfl | rfl | rfl | rfl
      · exact ⟨1, rfl, by decide, by decide⟩
      · exact ⟨2, rfl, by decide, by decide⟩
      · exact ⟨3, rfl, by decide, by decide⟩
      · exact ⟨5, rfl, by decide, by decide⟩
      · exact ⟨8, rfl, by decide, by decide⟩
      · exact ⟨31, rfl, by decide, by decide⟩
      · exact ⟨64, rfl, by decide, by decide⟩
    clear hwv
    have hp := M34.p2 w'
    have hp64 : 2 ^ w' ≤ 2 ^ 64 := Nat.pow_le_pow_right (by decide) hw64
    walk_at "go"
    refine v_shl1 (by omega) ?_
    walk_at "go"
    refine ⟨r, (a, ns), w', rfl, row3, hw64, fun big H4 hbig4 e4 row4 => ?_⟩
    have T4 := tabs_exc T3 row3 e4
    walk_at "go"
    have em : (((2 ^ w' : Nat) : Int) - 1) = ((2 ^ w' - 1 : Nat) : Int) := by omega
    obtain ⟨lo, elo, hlo⟩ : ∃ lo : Nat, (if (big : Int) < ((2 ^ w' : Nat) : Int) - 1 then (big : Int) else ((2 ^ w' : Nat) : Int) - 1) = (lo : Int) ∧ lo < 2 ^ w' := by
      split
      · exact ⟨big, rfl, by omega⟩
      · exact ⟨2 ^ w' - 1, em, by omega⟩
    rw [elo]
    refine ⟨r, (a, ns), 40, rfl, row4, by decide, by decide, fun u5 H5 hu5 e5 row5 => ?_⟩
    have T5 := tabs_exc T4 row4 e5
    walk_at "go"
    refine v_divS (by decide) ?_
    walk_at "go"
    refine ⟨r, (a, ns), w', rfl, row5, hw64, fun u6 H6 hu6 e6 row6 => ?_⟩
    have T6 := tabs_exc T5 row5 e6
    walk_at "go"
    refine v_mod (by omega) ?_
    walk_at "go"
    refine w_new (by simp) fun l7 H7 n7 e7 h7 => ?_
    walk_at "go"
    have row7 := row6.ex e7
    have T7 := T6.ext e7
    refine ⟨r, l7, (a, ns), _, rfl, row7, .inl ⟨h7, row6.ne n7⟩, by simp, by simp, fun hv hhv H8 e8 row8 => ?_⟩
    have T8 := tabs_exc T7 row7 e8
    obtain ⟨hi, rfl, hle, hhi⟩ : ∃ hi : Nat, hv = .int (hi : Int) ∧ lo ≤ hi ∧ hi < 2 ^ w' := by
      simp only [List.mem_cons, List.not_mem_nil, or_false] at hhv
      have of : ∀ i : Int, hv = .int i → (lo : Int) ≤ i → i ≤ ((2 ^ w' : Nat) : Int) - 1 → ∃ hi : Nat, hv = .int (hi : Int) ∧ lo ≤ hi ∧ hi < 2 ^ w' := fun i e b1 b2 => ⟨i.toNat, by rw [Int.toNat_of_nonneg (by omega)]; exact e, by omega, by omega⟩
      rcases hhv with h | h | h | h | h
      · exact of _ h (by omega) (by omega)
      · exact of _ h (by omega) (by omega)
      · refine of _ h ?_ ?_ <;> split <;> omega
      · refine of _ h ?_ ?_ <;> omega
      · have m1 := Int.emod_nonneg (u6 : Int) (show ((2 ^ w' : Nat) : Int) - 1 - (lo : Int) + 1 ≠ 0 by omega)
        have m2 := Int.emod_lt_of_pos (u6 : Int) (show 0 < ((2 ^ w' : Nat) : Int) - 1 - (lo : Int) + 1 by omega)
        exact of _ h (by omega) (by omega)
    clear hhv
    have hch := M34.all_chain (w := w') (low := lo) (hi := hi) (by omega)
    have hfew := M34.all_few (w := w') (low := lo) (hi := hi) hw1 hhi (by omega)
    generalize hbl : M34.all w' hi lo = bl at hch hfew
    have neW : within (.int (w' : Int)) 1 64 = false → False := fun c => by rw [within_w hw1 hw64] at c; cases c
    have hlen126 : bl.length ≤ 126 := by omega
    walk_at "go"
    refine ⟨.int (lo : Int), .int (hi : Int), .int (w' : Int), "int", "int", "int", rfl, kn_int, kn_int, kn_int, fun c => (neW c).elim, fun w2 ew _ _ => ?_⟩
    obtain rfl := nat_of ew
    refine ⟨fun c => absurd c (by rw [within_n hlo]; decide), fun lo2 elo2 _ => ?_⟩
    obtain rfl := nat_of elo2
    refine ⟨fun c => absurd c (by rw [within_n hhi]; decide), fun hi2 ehi2 _ => ?_⟩
    obtain rfl := nat_of ehi2
    refine ⟨fun hlt => absurd hlt (by omega), fun _ bt H9 nb9 e9 hb9 => ?_⟩
    rw [hbl] at hb9
    have row9 := row8.ex e9
    have T9 := T8.ext e9
    walk_at "go"
    refine ⟨bt, rfl, ⟨_, st_of hb9⟩, ?_⟩
    refine for_x (walk_tup (xs := blkV w' bl)) (fun i σ H' => ∃ (x : Nat) (v8 v9 v10 : Option V), σ = [some (.ref a), some (.ref r), some (.int (w' : Int)), some (.int (((2 ^ w' : Nat) : Int) - 1)), some (.int (lo : Int)), some (.int (hi : Int)), some (.ref bt), some (.int (x : Int)), v8, v9, v10, none, none, none, none, none] ∧ M34.Chain w' lo hi x (bl.drop i) ∧ Ex H9 H')
      ⟨lo, none, none, none, rfl, by simpa using hch, ex_refl⟩ (fun i σ H' _ p => by obtain ⟨_, _, _, _, _, _, e⟩ := p; exact st_of (e _ _ hb9)) (fun i x σ H10 H11 hi' p y => ?_) (fun σ H10 p => ?_)
    · obtain ⟨x0, v8, v9, v10, rfl, hc, e10⟩ := p
      obtain ⟨rfl, hx⟩ := y
      have hx2 : (bl.map fun p => V.str (S (blkT w' p)))[i]? = some x := hx
      rw [List.getElem?_map, Option.map_eq_some_iff] at hx2
      obtain ⟨⟨am, m⟩, hbi, rfl⟩ := hx2
      rw [drop_at hbi] at hc
      obtain ⟨ex0, hle', g, _, hc2⟩ := M34.chain_cons hc
      obtain rfl : am = x0 := ex0.symm
      have hpm := M34.p2 m
      have gl := g.le
      have gf := g.fit
      have ga := g.al
      have ham : am < 2 ^ w' := by omega
      have hbL : (blkT w' (am, m)).length = w' - m := blk_len
      have hmul : am / 2 ^ m * 2 ^ m = am := by
        have h1 := Nat.div_add_mod am (2 ^ m)
        rw [ga, Nat.add_zero, Nat.mul_comm] at h1
        exact h1
      walk_at "go"
      refine ⟨.str (S (blkT w' (am, m))), .int (w' : Int), "str", "int", rfl, kn_str, kn_int, fun z hz => by rw [← V.str.inj hz, S_len, hbL]; omega, fun c => (neW c).elim, fun w2 ew _ _ => ?_⟩
      obtain rfl := nat_of ew
      refine ⟨fun c => absurd c (by rw [bits_S blk_all (by rw [hbL]; omega)]; decide), fun _ l el ft H12 nf e12 hf => ?_⟩
      obtain rfl := S_inj (V.str.inj el)
      rw [hbL, show w' - (w' - m) = m by omega, blk_val ham gl, hmul, Nat.add_mul, Nat.one_mul, hmul] at hf
      refine w_gtup (st_of hf) rfl ?_
      walk_at "go"
      refine w_ndec (fun z => absurd rfl z) (fun _ => ?_)
      walk_at "go"
      refine v_lenS (by rw [S_len, hbL]; omega) ?_
      walk_at "go"
      have e1 : ((w' : Int) - ((S (blkT w' (am, m))).length : Int)) = (m : Int) := by
        rw [S_len, hbL]
        omega
      rw [e1]
      refine v_shl1 (by omega) ?_
      walk_at "go"
      have e2 : (((am + 2 ^ m : Nat) : Int) - 1 - (am : Int) + 1) = ((2 ^ m : Nat) : Int) := by omega
      rw [e2]
      refine w_ndec (fun z => absurd rfl z) (fun _ => ?_)
      walk_at "go"
      rw [e2]
      refine v_mod (by omega) ?_
      walk_at "go"
      refine w_ndec (fun z => absurd (by omega) z) (fun _ => ?_)
      walk_at "go"
      have e3 : (((am + 2 ^ m : Nat) : Int) - 1 + 1) = ((am + 2 ^ m : Nat) : Int) := by omega
      rw [e3]
      exact ⟨am + 2 ^ m, _, _, _, rfl, hc2, e10.trans e12⟩
    · obtain ⟨x0, v8, v9, v10, rfl, hc, e10⟩ := p
      have hx0 : x0 = hi + 1 := by
        have : bl.drop (blkV w' bl).length = [] := List.drop_eq_nil_of_le (by unfold blkV; rw [List.length_map]; exact Nat.le_refl _)
        rw [this] at hc
        exact chain_nil hc
      subst hx0
      have hbne : bl ≠ [] := fun z => by
        rw [z] at hch
        have := chain_nil hch
        omega
      have hb10 := e10 _ _ hb9
      have row10 := row9.ex e10
      have T10 := T9.ext e10
      have hblen : (blkV w' bl).length = bl.length := by unfold blkV; rw [List.length_map]
      walk_at "go"
      refine w_ndec (fun z => absurd (by omega) z) (fun _ => ?_)
      walk_at "go"
      refine ⟨bt, _, rfl, st_of hb10, fun z => ?_, fun p hp' => ?_⟩
      · have h1 := z.1
        rw [show (1 : Int) = ((1 : Nat) : Int) from rfl, HT.sIx_nat, hblen] at h1
        have := List.length_pos_iff.mpr hbne
        omega
      rw [cut_tail]
      refine g_new hp' fun H11 e11 h11 => ?_
      walk_at "go"
      have hb11 := e11 _ _ hb10
      have hd1 : (List.drop 1 (blkV w' bl)).length = bl.length - 1 := by rw [List.length_drop, hblen]
      refine ⟨bt, p, _, _, rfl, .inr ⟨st_of hb11, st_of h11, fun D nD => lc_filter (walk_zipT rfl) (fun _ => false) (fun _ => .non) (by omega) nD (fun H e => ⟨st_of (e _ _ hb11), st_of (e _ _ h11)⟩) (fun i x H12 H13 hi' e12 y R hR1 hR2 => ?_) (fun H12 e12 hD => ?_)⟩⟩
      · obtain ⟨T', x1, x2, rfl, nT, rfl, hx1, hx2⟩ := y
        refine g_new nT fun H13 e13 h13 => ?_
        have hx1' : (bl.map fun p => V.str (S (blkT w' p)))[i]? = some x1 := hx1
        have hx2' : (bl.map fun p => V.str (S (blkT w' p)))[i + 1]? = some x2 := by
          have : (List.drop 1 (blkV w' bl))[i]? = some x2 := hx2
          rw [List.getElem?_drop, Nat.add_comm] at this
          exact this
        rw [List.getElem?_map, Option.map_eq_some_iff] at hx1' hx2'
        obtain ⟨⟨a1, m1⟩, hb1, rfl⟩ := hx1'
        obtain ⟨⟨a2, m2⟩, hb2, rfl⟩ := hx2'
        obtain ⟨y0, hcy, _⟩ := chain_drop i hch
        rw [drop_at hb1, drop_at hb2] at hcy
        have hnh := not_halves hhi hcy
        refine w_gtup (st_of h13) rfl ?_
        walk_at "go"
        refine ⟨rfl, ?_⟩
        walk_at "go"
        refine v_slS (by rw [S_len, blk_len]; omega) ?_
        walk_at "go"
        refine v_slS (by rw [S_len, blk_len]; omega) ?_
        rw [cut_last, cut_last]
        walk_at "go"
        refine w_dec (fun z => absurd (S_inj z) hnh) (fun _ => ?_)
        exact hR2 _ e13 rfl
      have e : ∀ n, ((List.range n).filter fun _ => false) = [] := fun n => List.filter_eq_nil_iff.mpr (fun _ _ z => by cases z)
      rw [e] at hD
      walk_at "go"
      refine w_new (by simp) fun p13 H13 np13 e13 h13 => ?_
      walk_at "go"
      refine ⟨.list [], .list [], .lst (sl_of (e13 _ _ hD)) .nil, .lst (sl_of h13) .nil, by decide, by decide, ?_⟩
      have ee : PyData.eqv (.list []) (.list []) = true := by decide +kernel
      rw [ee]
      refine v_bl ?_
      refine iteF' ?_
      walk_at "go"
      have hb13 := e13 _ _ (e12 _ _ hb11)
      have row13 := ((row10.ex e11).ex e12).ex e13
      have T13 := ((T10.ext e11).ext e12).ext e13
      have hstr : SqT K H13 bt ((bl.map fun p => S (blkT w' p)).map V.str) := by rw [← blkV_strs]; exact st_of hb13
      refine ⟨bt, _, rfl, .inr hstr, fun ys p14 hperm hsort np14 => ?_⟩
      obtain rfl := blocks_sorted hhi hch hperm hsort
      refine g_new np14 fun H14 e14 h14 => ?_
      walk_at "go"
      refine v_tupL (sl_of h14) fun t15 H15 n15 e15 h15 => ?_
      walk_at "go"
      have e1315 := e14.trans e15
      refine ⟨.ref bt, .ref t15, .tuple ((bl.map fun p => S (blkT w' p)).map PyData.str), rfl, .tup (up_t e1315 hstr) (dp_strs _), .tup (st_of h15) (dp_strs _), ?_, fun H16 e16 => ?_⟩
      · show (decide _ && okds _ _) = true
        rw [okds_strs, Bool.and_true]
        exact decide_eq_true (by simp; omega)
      have hb16 := (e1315.trans e16) _ _ hb13
      have row16 := row13.ex (e1315.trans e16)
      have T16 := T13.ext (e1315.trans e16)
      walk_at "go"
      refine iteF' ?_
      walk_at "go"
      refine ⟨bt, _, rfl, .inr (st_of hb16), ?_⟩
      walk_at "go"
      refine v_mulS (by decide) (by omega) ?_
      walk_at "go"
      rw [hblen]
      refine w_dec (fun z => ?_) (fun _ => ?_)
      · exfalso
        have hm : max 1 (2 * w' - 2) ≤ 126 := by omega
        by_cases h2 : 2 * (w' : Int) - 2 > 1
        · rw [if_pos h2] at z
          omega
        · rw [if_neg h2] at z
          omega
      walk_at "go"
      refine ⟨bt, rfl, ⟨_, st_of hb16⟩, ?_⟩
      refine for_x (walk_tup (xs := blkV w' bl)) (fun i σ H' => ∃ (v8 v9 v10 v11 v12 : Option V), σ = [some (.ref a), some (.ref r), some (.int (w' : Int)), some (.int (((2 ^ w' : Nat) : Int) - 1)), some (.int (lo : Int)), some (.int (hi : Int)), some (.ref bt), some (.int ((hi + 1 : Nat) : Int)), v8, v9, v10, v11, v12, none, none, none] ∧ Ex H16 H')
        ⟨_, _, _, _, _, rfl, ex_refl⟩ (fun i σ H' _ p => by obtain ⟨_, _, _, _, _, _, e⟩ := p; exact st_of (e _ _ hb16)) (fun i x σ H17 H18 hi' p y => ?_) (fun σ H17 p => ?_)
      · obtain ⟨v8, v9, v10, v11, v12, rfl, e17⟩ := p
        obtain ⟨rfl, hx⟩ := y
        have hx2 : (bl.map fun p => V.str (S (blkT w' p)))[i]? = some x := hx
        rw [List.getElem?_map, Option.map_eq_some_iff] at hx2
        obtain ⟨⟨am, m⟩, hbi, rfl⟩ := hx2
        obtain ⟨y0, hcy, _⟩ := chain_drop i hch
        rw [drop_at hbi] at hcy
        obtain ⟨ey, hle', g, _, _⟩ := M34.chain_cons hcy
        obtain rfl : am = y0 := ey.symm
        have gl := g.le
        walk_at "go"
        refine w_ndec (fun hne => ?_) (fun _ => ?_)
        · have hm : m < w' := by
            by_cases h : m = w'
            · refine absurd ?_ hne
              have : blkT w' (am, m) = [] := List.eq_nil_of_length_eq_zero (by rw [blk_len]; show w' - m = 0; omega)
              rw [this]
              rfl
            · omega
          have hul : ((blkT w' (am, m)).dropLast).length = w' - (m + 1) := up_len
          have huv : valL ((blkT w' (am, m)).dropLast) = am / 2 ^ (m + 1) := up_val (by omega) hm
          have hua : ((blkT w' (am, m)).dropLast).all isBit = true := by rw [blk_up]; exact all_take (bitsL_all _ _)
          have hsub : w' - (w' - (m + 1)) = m + 1 := by omega
          have hno := M34.no_larger hcy hm
          walk_at "go"
          refine v_slS (by rw [S_len, blk_len]; omega) ?_
          rw [cut_last]
          walk_at "go"
          refine ⟨_, w', rfl, hua, by rw [hul]; omega, hw64, fun t18 H18 n18 e18 h18 => ?_⟩
          rw [hul, huv, hsub] at h18
          walk_at "go"
          refine v_ixT (st_of h18) (show _ = some (.int ((am / 2 ^ (m + 1) * 2 ^ (m + 1) : Nat) : Int)) by rfl) ?_
          walk_at "go"
          refine w_dec (fun c1 => ?_) (fun c1 => ?_)
          · walk_at "go"
            refine v_slS (by rw [S_len, blk_len]; omega) ?_
            rw [cut_last]
            walk_at "go"
            refine ⟨_, w', rfl, hua, by rw [hul]; omega, hw64, fun t19 H19 n19 e19 h19 => ?_⟩
            rw [hul, huv, hsub] at h19
            walk_at "go"
            refine v_ixT (st_of h19) (show _ = some (.int (((am / 2 ^ (m + 1) + 1) * 2 ^ (m + 1) : Nat) - 1 : Int)) by rfl) ?_
            walk_at "go"
            refine w_dec (fun c2 => ?_) (fun c2 => ?_)
            · exfalso
              refine hno (by omega) ?_
              rw [Nat.add_mul, Nat.one_mul] at c2
              omega
            · walk_at "go"
              exact ⟨_, _, _, _, _, rfl, (e17.trans e18).trans e19⟩
          · walk_at "go"
            exact ⟨_, _, _, _, _, rfl, e17.trans e18⟩
        · walk_at "go"
          exact ⟨_, _, _, _, _, rfl, e17⟩
      · obtain ⟨v8, v9, v10, v11, v12, rfl, e17⟩ := p
        have row17 := row16.ex e17
        have T17 := T16.ext e17
        walk_at "go"
        refine v_divS (by decide) ?_
        walk_at "go"
        refine w_new (by simp) fun l18 H18 n18 e18 h18 => ?_
        walk_at "go"
        have em2 : (((lo : Int) + (hi : Int)) / 2) = (((lo + hi) / 2 : Nat) : Int) := by omega
        rw [em2] at h18
        refine ⟨l18, rfl, ⟨_, sl_of h18⟩, ?_⟩
        have row18 := row17.ex e18
        have T18 := T17.ext e18
        refine for_x (walk_list (xs := [.int (lo : Int), .int (hi : Int), .int (((lo + hi) / 2 : Nat) : Int)])) (fun i σ H' => ∃ (v8 v9 v10 v11 v12 v13 v14 : Option V), σ = [some (.ref a), some (.ref r), some (.int (w' : Int)), some (.int (((2 ^ w' : Nat) : Int) - 1)), some (.int (lo : Int)), some (.int (hi : Int)), some (.ref bt), some (.int ((hi + 1 : Nat) : Int)), v8, v9, v10, v11, v12, v13, v14, none] ∧ Ex H18 H')
          ⟨_, _, _, _, _, _, _, rfl, ex_refl⟩ (fun i σ H' _ p => by obtain ⟨_, _, _, _, _, _, _, _, e⟩ := p; exact sl_of (e _ _ h18)) (fun i x σ H19 H20 hi' p y => ?_) (fun σ H19 p => ?_)
        · obtain ⟨v8, v9, v10, v11, v12, v13, v14, rfl, e19⟩ := p
          obtain ⟨rfl, hx⟩ := y
          obtain ⟨n, rfl, hn⟩ : ∃ n : Nat, x = .int (n : Int) ∧ n < 2 ^ w' := by
            have := List.mem_of_getElem? hx
            simp only [List.mem_cons, List.not_mem_nil, or_false] at this
            rcases this with rfl | rfl | rfl
            · exact ⟨lo, rfl, hlo⟩
            · exact ⟨hi, rfl, hhi⟩
            · exact ⟨(lo + hi) / 2, rfl, by omega⟩
          have hbl' : (S (bitsL n w')).length = w' := by rw [S_len, bitsL_len]
          walk_at "go"
          refine ⟨.int (n : Int), .int (w' : Int), "int", "int", rfl, kn_int, kn_int, fun c => (neW c).elim, fun w2 ew _ _ => ?_⟩
          obtain rfl := nat_of ew
          refine ⟨fun c => absurd c (by rw [within_n hn]; decide), fun k ek hk H21 e21 => ?_⟩
          obtain rfl := nat_of ek
          walk_at "go"
          refine ⟨.str (S (bitsL n w')), "str", rfl, kn_str, fun z hz => by rw [← V.str.inj hz, hbl']; omega, fun c => ?_, fun _ l el hl H22 e22 => ?_⟩
          · exfalso
            rcases c with c | c
            · rw [show (64 : Int) = ((64 : Nat) : Int) from rfl, bits_S (bitsL_all _ _) (by rw [bitsL_len]; exact hw64)] at c
              cases c
            · have := congrArg List.length (S_inj (V.str.inj c))
              rw [bitsL_len] at this
              simp at this
              omega
          obtain rfl := S_inj (V.str.inj el)
          rw [val_bits_all hn]
          walk_at "go"
          refine v_lenS (by rw [hbl']; omega) ?_
          rw [hbl']
          walk_at "go"
          refine w_new (by simp) fun l23 H23 n23 e23 h23 => ?_
          walk_at "go"
          refine ⟨n, w', rfl, by omega, fun H24 e24 => ?_⟩
          walk_at "go"
          refine w_new (by simp) fun l25 H25 n25 e25 h25 => ?_
          walk_at "go"
          refine ⟨.ref l23, .ref l25, .list [.int (n : Int), .int (w' : Int), .str (S (bitsL n w'))], rfl, .lst (sl_of ((e24.trans e25) _ _ h23)) (.cons (.int _) (.cons (.int _) (.cons (.str _) .nil))), .lst (sl_of h25) (.cons (.int _) (.cons (.int _) (.cons (.str _) .nil))), rfl, fun H26 e26 => ?_⟩
          walk_at "go"
          refine iteF' ?_
          walk_at "go"
          exact ⟨_, _, _, _, _, _, _, rfl, (((((e19.trans e21).trans e22).trans e23).trans e24).trans e25).trans e26⟩
        · obtain ⟨v8, v9, v10, v11, v12, v13, v14, rfl, e19⟩ := p
          have row19 := row18.ex e19
          have T19 := T18.ext e19
          walk_at "go"
          refine ⟨r, (a, ns), w', rfl, row19, by omega, fun l H20 hl hlen e20 row20 => ?_⟩
          have T20 := tabs_exc T19 row19 e20
          walk_at "go"
          refine v_slS (by rw [S_len]; omega) ?_
          rw [cut_to, List.take_of_length_le hlen]
          walk_at "go"
          refine ⟨.str (S l), .int (w' : Int), "str", "int", rfl, kn_str, kn_int, fun z hz => by rw [← V.str.inj hz, S_len]; omega, fun c => (neW c).elim, fun w2 ew _ _ => ?_⟩
          obtain rfl := nat_of ew
          refine ⟨fun c => absurd c (by rw [bits_S hl hlen]; decide), fun _ l2 el t21 H21 n21 e21 h21 => ?_⟩
          obtain rfl := S_inj (V.str.inj el)
          walk_at "go"
          refine ⟨_, w', rfl, hl, hlen, hw64, fun t22 H22 n22 e22 h22 => ?_⟩
          walk_at "go"
          refine ⟨.ref t21, .ref t22, .tuple [.int _, .int _], rfl, .tup (st_of (e22 _ _ h21)) (.cons (.int _) (.cons (.int _) .nil)), .tup (st_of h22) (.cons (.int _) (.cons (.int _) .nil)), rfl, fun H23 e23 => ?_⟩
          walk_at "go"
          refine iteF' ?_
          walk_at "go"
          have e2023 := (e21.trans e22).trans e23
          exact ⟨r, (a, ns), w', rfl, hw1, hw64, row20.ex e2023, T20.ext e2023, fun H' => q H'⟩
end
end K34
namespace K34
open PySem PySem.Spec PyProof.Rows L2 LW SX
section
variable {P : Program} {w : World} {K : PySem.W.Frag} {mg : Str → Option Value} {base : Heap}
theorem xk (T : Txt K mg) {x : Str} (hx : LW.XcF K mg "RouteError" x) : Xk P w K mg base "RouteError" x := by
  obtain ⟨fd, F⟩ := T.f_RouteError_init
  have e : (("RouteError" : Str) ++ (".__init__" : Str)) = ("RouteError.__init__" : Str) := by kernel_rfl
  rw [← e] at F
  exact ⟨hx, fd, init_ok (B := "RouteError") (st := s_RouteError_init) F sc_RouteError_init rfl (fun _ => rfl) (Or.inl rfl) (Or.inl rfl), init_binds (B := "RouteError") (st := s_RouteError_init) F (fun T kV doc pm an cdv ct us its h1 h2 => match us, h1, its, h2 with | [_, _], _, [_], _ => ⟨_, rfl, rfl⟩)⟩
theorem all (T : Txt K mg) (TBs : LamX.TabB base mg (He.cT K ("_law_refuses_ranges", none)).1 (He.cT K ("_law_refuses_ranges", none)).2)
    {fd : FuncData} (F : FunD K "law" "law" (defArgs s_law) (defBody s_law) (defScope s_law) [] [] (He.fAd K ("law", none)) fd) : FnG P w K mg base (L2.CX P w) 9 (He.ga K "law") fd ["script"] (spLaw K (lamT K)) := by
  have d1 := ok_is_integer (P := P) (w := w) (base := base) T
  have d2 := ok_is_within T d1
  have d3 := ok_is_bits (P := P) (w := w) (base := base) T
  have d4 := ok_need_width T d2 (xk T T.e_BadWidth)
  have d5 := ok_need_number T d2 (xk T T.e_BadNumber)
  have d6 := ok_bits_told (P := P) (w := w) (base := base) T
  have d7 := ok_number_of T d3 (xk T T.e_BadAddress)
  have d8 := ok_address_of T d4 d5 d6
  have d9 := ok_range_of T d4 d3 (xk T T.e_BadPrefix)
  have d10 := ok_blocks_between T d6
  have d11 := ok_range_blocks T d4 d5 d10 (xk T T.e_BadNumber)
  have l1 := ok__law_taken (P := P) (w := w) (base := base) T
  have l2 := ok__law_pick T l1
  have l3 := ok__law_bits T l1
  have l4 := ok__law_big T l1
  have l5 := ok__law_binary (P := P) (w := w) (base := base) T
  have l6 := ok__law_range (P := P) (w := w) (base := base) T
  have l7 := alike_all (P := P) (w := w) (base := base) T 4
  have l8 := ok_refuses T TBs l2 d11 d8 d9 d7
  exact ok_law T l1 l2 l3 l4 l5 l6 l7 d11 d8 d9 d7 l8 F
end
theorem end_F (w : World) (mg : Str → Option Value) (f : Addr) (h : Heap) (K : PySem.W.Frag) (P : Program) (KX : K.In h) (G : h.Ns mainGlobals mg) (c : He.SaysX fa fn [] tf exB w h K) (hf : mg "law" = some (.ref f)) :
    ∃ fd : FuncData, (∀ (s : Shared) (u : Value), BindsTo s fd ⟨[u], []⟩ [("script", u)]) ∧
      ∀ base : Heap, K.In base → base.Ns mainGlobals mg → (∀ p ∈ tf, LamX.TabB base mg (He.cT K p).1 (He.cT K p).2) →
        FnG P w K mg base (L2.CX P w) 9 f fd ["script"] (spLaw K (tf.map fun p => ((He.cT K p).2, (p.1 ++ ".<locals>.") ++ "<lambda>"))) := by
  have T := txt_of KX G c
  obtain ⟨fd, F⟩ := T.f_law
  have e := hf.symm.trans T.g_law
  cases e
  have b := FunD.bindsA (ps := ["script"]) F fun _ _ _ _ _ _ us hl => match us, hl with | [_], _ => rfl
  exact ⟨fd, fun s u => b s [u] rfl, fun base _ _ TB => all T (TB _ (List.mem_singleton.mpr rfl)) F⟩
end K34
open PySem PySem.W PySem.Calls PyProof.Rows
theorem PySem.Challenge.cw_leastroutes_k34_whole_ranges_holds : PySem.Challenge.rw_leastroutes_k34_whole_ranges.Holds := by
  w_on; o_law
  refine HandSHeadRun.head_any (r := OpenLaw.row PySem.Challenge.rw_leastroutes_k34_whole_ranges) (q := view (OpenLaw.row PySem.Challenge.rw_leastroutes_k34_whole_ranges).prog [31]) (H := K34.hk) (ob := K34.ob) (M := 8000) (loose := K34.loose) (d := HandSHeadRun.topDef (OpenLaw.row PySem.Challenge.rw_leastroutes_k34_whole_ranges).prog 31) (kwd := []) K34.ob_eq
    (by kernel_rfl) (fun s => by kernel_rfl) K34.run (by kernel_rfl) (by kernel_rfl) (by kernel_rfl) (by rfl) (by first | assumption | decide +kernel) (by decide +kernel) ⟨rfl, rfl, rfl, rfl, rfl, by decide +kernel⟩ ?hw ?hc
  case hw => w_witness2
  case hc =>
    refine LW.walk_law (l := PySem.Challenge.rw_leastroutes_k34_whole_ranges) (n := 5) (k := 9) (x := "script") rfl (by kernel_rfl) ⟨rfl, by decide, by decide⟩ ?F
    intro w mg f h K KX G c hf
    have hmg : mg ("law" : PySem.Str) = some (.ref f) := by
      have e : (HandSHeadRun.topDef (OpenLaw.row PySem.Challenge.rw_leastroutes_k34_whole_ranges).prog 31).name = ("law" : PySem.Str) := by kernel_rfl
      rw [← e]
      exact hf
    exact K34.end_F w mg f h K _ KX G c hmg
