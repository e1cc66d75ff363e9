import PyProof.Rows.All
import Wide.All
import OpenK.AllK
import Wide.FinOn
import KE.KStateDown
import KE.KNest
import KE.KNestM
import Lean
import HandS.ForMost
import HandS.Exc
import HandS.TryOnly
import HandS.TryMany
import HandS.ExcOwn
import HandS.ExcInit
import HandS.ExcField
import HandS.WordsExc
import HandS.Defaults
import HandS.Head0
import HandS.Head1
import HandS.Head2
import HandS.HeadEnd
import HandS.HeadHook1
import HandS.HeadHook2
import HandS.HeadHook3
import HandS.HeadHook4
import HandS.HeadWalk
import HandS.Lambda
import HandS.EndBits
import HandS.EndTab
import HandS.IsInst
import HandS.Wide
import HandS.Codes
import HandS.Zip
import HandS.Evl
import HandS.SortOrd
import HandS.Small
import HandS.Walk
import HandS.Steps
import HandS.WideBits
import HandS.SortInts
import PyProof.Rows.SortShellAny
import KE.KSortTup
import PyProof.EqKinds
import KE.KDictKeyed
import KE.KDictPairs
import HandS.TupSets
import HandS.TupLen
import PySem.Challenge.RW_leastroutes_k37_graphs_made
set_option Elab.async false
set_option linter.all false
set_option maxRecDepth 100000
set_option maxHeartbeats 4000000
/-! Own rules: repr of data, defs that know that no repr is under way, several except clauses with a name. -/
namespace LW
open PySem PySem.Spec PyProof.Rows L2

/-! ### repr of a tuple or list of data -/
section
variable {X : Cx}
def rRepr (K : PySem.W.Frag) : List V → Hp → VK → Prop := fun xs H Q => ∃ (a : Addr) (d : PyData), xs = [.ref a] ∧ Dp K H (.ref a) d ∧ d.showable = true ∧ d.hasDict = false ∧ d.depth ≤ 32 ∧ d.shown.length ≤ sizeLine ∧ Q (.str d.shown) H
theorem cr_repr (hg : X.A.guards = some []) (hu : X.A.units + 64 < cLine) : CallR X (.builtin "repr") (rRepr X.K) := by
  intro pins s σ H xs us Q I r h
  obtain ⟨a, d, rfl, hd, hs, hnd, hdep, hsz, q⟩ := h
  obtain ⟨u, rfl, ru⟩ := vals1 r
  obtain rfl : u = Value.ref a := ru
  obtain ⟨as, rd⟩ := Dp.reads I d _ _ hd rfl
  exact repr_of_reads' rd hs (PyData.noDict_hsm hnd) hg (by omega) (fun _ _ e => e) (fun h' u tk k => ⟨.str d.shown, H, I.kept k, ⟨u, rfl⟩, q⟩) hsz
end

/-! ### a def that is called only where no repr is under way -/
structure FnG (P : Program) (w : World) (K : PySem.W.Frag) (mg : Str → Option Value) (base : Heap) (CX : CXT) (k : Nat) (f : Addr) (fd : FuncData) (ps : List Str) (sp : Sp) : Prop where
  len : ∀ vs H Q E, sp vs H Q E → vs.length = ps.length
  run : ∀ (A : Around) (outer : List Env) (s : Shared) (H : Hp) (args : Args) (us : List Value) (vs : List V) (Q : VK) (E : XK), A.guards = some [] → Room k A → Env0 P w K mg base A outer s H → BindsTo s fd args (ps.zip us) → Vals vs us → sp vs H Q E →
    codeAny (model P w) A (.call (.ref f) args) (CR CX outer P w H s Q E) s
theorem FnOk.g {P : Program} {w : World} {K : PySem.W.Frag} {mg : Str → Option Value} {base : Heap} {CX : CXT} {k : Nat} {f : Addr} {fd : FuncData} {ps : List Str} {sp : Sp} (F : FnOk P w K mg base CX k f fd ps sp) : FnG P w K mg base CX k f fd ps sp :=
  ⟨F.len, fun A outer s H args us vs Q E _ => F.run A outer s H args us vs Q E⟩

/-- a def of the text, its body read under no repr -/
theorem FunD.okG {CX : CXT} {P : Program} {w : World} {K : PySem.W.Frag} {mg : Str → Option Value} {base : Heap} {x qual : Str} {params : Arguments} {body : List Stmt} {scope : Scope} {dvs : List V} {kws : List (Str × V)} {f : Addr} {fd : FuncData} {N ps : List Str} {k : Nat} {sp : Sp}
    (F : FunD K x qual params body scope dvs kws f fd) (S : FnScope N ps scope) (len : ∀ vs H Q E, sp vs H Q E → vs.length = ps.length)
    (hbody : ∀ (cdv : Value) (A : Around) (outer : List Env) (s : Shared) (H : Hp) (vs : List V) (Q : VK) (E : XK), A.guards = some [] → Room k (A.deeper (envOfC qual scope s.heap.objs.size f cdv)) → PySem.W.codeIn K cdv qual = true → (∃ oc od osl, K.lookup f = some ⟨oc, od, .func fd, osl⟩) → fd.code = cdv → sp vs H Q E →
      ∃ t, PSs (cxOf CX P w K mg base N qual scope f cdv A outer s H E) body t ∧ t { nx := fun _ H' => Q .non H', rt := Q } (start N vs) H) : FnG P w K mg base CX (k + 1) f fd ps sp := by
  obtain ⟨oc, od, dV, kV, doc, pm, an, cdv, ct, osl, rfl, lk, hcd, _, _⟩ := F.ex
  refine ⟨len, fun A outer s H args us vs Q E hg hr e0 hb r hsp => ?_⟩
  have lens := len _ _ _ _ hsp
  exact LamX.run_ofS lk hcd S hr e0 hb r lens fun hr' => hbody cdv A outer s H vs Q E hg hr' hcd ⟨_, _, _, lk⟩ rfl hsp
/-- the same of a def that may be called anywhere -/
theorem FunD.okC {CX : CXT} {P : Program} {w : World} {K : PySem.W.Frag} {mg : Str → Option Value} {base : Heap} {x qual : Str} {params : Arguments} {body : List Stmt} {scope : Scope} {dvs : List V} {kws : List (Str × V)} {f : Addr} {fd : FuncData} {N ps : List Str} {k : Nat} {sp : Sp}
    (F : FunD K x qual params body scope dvs kws f fd) (S : FnScope N ps scope) (len : ∀ vs H Q E, sp vs H Q E → vs.length = ps.length)
    (hbody : ∀ (cdv : Value) (A : Around) (outer : List Env) (s : Shared) (H : Hp) (vs : List V) (Q : VK) (E : XK), Room k (A.deeper (envOfC qual scope s.heap.objs.size f cdv)) → sp vs H Q E →
      ∃ t, PSs (cxOf CX P w K mg base N qual scope f cdv A outer s H E) body t ∧ t { nx := fun _ H' => Q .non H', rt := Q } (start N vs) H) : FnOk P w K mg base CX (k + 1) f fd ps sp :=
  F.ok S len hbody

/-! ### calls of a named def -/
/-- the module's name x is a def that keeps sp (dvs: the defaults that fill up) -/
structure Dk (P : Program) (w : World) (K : PySem.W.Frag) (mg : Str → Option Value) (base : Heap) (CX : CXT) (k : Nat) (x : Str) (sp : Sp) : Prop where
  ex : ∃ (f : Addr) (fd : FuncData) (ps : List Str), FnOk P w K mg base CX k f fd ps sp ∧ mg x = some (.ref f) ∧ PySem.W.keepIn K (.ref f) = true ∧ Binds K fd ps []
structure DkG (P : Program) (w : World) (K : PySem.W.Frag) (mg : Str → Option Value) (base : Heap) (CX : CXT) (k : Nat) (x : Str) (sp : Sp) : Prop where
  ex : ∃ (f : Addr) (fd : FuncData) (ps : List Str), FnG P w K mg base CX k f fd ps sp ∧ mg x = some (.ref f) ∧ PySem.W.keepIn K (.ref f) = true ∧ Binds K fd ps []
def tCl (sp : Sp) (E : XK) (t : TA) : TE := fun σ H Q => t σ H fun vs H1 => sp vs H1 Q E
section
variable {X : Cx} {CX : CXT} {j k : Nat} {x : Str} {sp : Sp} {E : XK} {p pos : Pos} {e : Expr} {es : List Expr} {t : TA}
theorem pe_d (c : Dk X.prog X.w X.K X.mg X.base CX k x sp) (hr : Room j X.A) (hk : k ≤ j) (hg : Gl X x) (hx : Passes CX X E) (ha : PA X (e :: es) t) (hdb : (x == ("__debug__" : Str)) = false := by decide)
    (he : starEach (e :: es) X.env = (false, eval e X.env) :: starEach es X.env := by rfl) (hpl : (backTo pos (starEach es X.env)).any (·.1) = false := by rfl) : PE X (.Call (.Name x p) (e :: es) [] pos) (tCl sp E t) := by
  obtain ⟨f, fd, ps, F, hm, kp, b⟩ := c.ex
  have h := pe_call (p := p) F (hr.mono hk) hg hm kp b .nil hx ha hdb he hpl
  refine ⟨fun pins s σ H Q I q => h.run pins s σ H Q I ?_⟩
  have e1 : (fun (vs : List V) (H1 : Hp) => sp (vs ++ []) H1 Q E) = fun vs H1 => sp vs H1 Q E := by
    funext vs H1
    rw [List.append_nil]
  show t σ H (fun vs H1 => sp (vs ++ []) H1 Q E)
  rw [e1]
  exact q
theorem pe_dG (hgu : X.A.guards = some []) (c : DkG X.prog X.w X.K X.mg X.base CX k x sp) (hr : Room j X.A) (hk : k ≤ j) (hg : Gl X x) (hx : Passes CX X E) (ha : PA X (e :: es) t) (hdb : (x == ("__debug__" : Str)) = false := by decide)
    (he : starEach (e :: es) X.env = (false, eval e X.env) :: starEach es X.env := by rfl) (hpl : (backTo pos (starEach es X.env)).any (·.1) = false := by rfl) : PE X (.Call (.Name x p) (e :: es) [] pos) (tCl sp E t) := by
  obtain ⟨f, fd, ps, F, hm, kp, b⟩ := c.ex
  refine ⟨fun pins s σ H Q I h => ?_⟩
  refine wpAny_Call_Name_kw (ld_glob I hg hm ?_ hdb)
  refine PySem.W.callWith_K (h₀ := X.base) I.ok.mod.kin kp (thn (ha.run pos pins s σ H _ I h) fun us s1 ⟨vs, H1, I1, r, q⟩ => ⟨I1.kIn, ?_⟩) he hpl
  have hl : (us ++ []).length = ps.length := by
    rw [List.append_nil, ← r.length]
    exact F.len _ _ _ _ q
  have hb := b s1 us I1.kIn hl
  rw [List.append_nil] at hb
  refine wpAny_call (codeAny_mono (F.run X.A X.stack s1 H1 ⟨us, []⟩ us vs Q E hgu (hr.mono hk) I1.env0 hb r q) fun r s' hq => ?_)
  cases r with
  | error er => exact hx pins σ H1 s1 er s' I1 hq
  | ok fl =>
    cases fl with
    | ret u => exact I1.after hq
    | next => exact hq.elim
    | brk => exact hq.elim
    | cont => exact hq.elim
end

/-! ### several except clauses, each with a name: what follows is asked of the first that fits -/
abbrev HdS : Type := Value × Nat × (Addr → Value → Option Addr → TS)
def wNamed (K : PySem.W.Frag) (Wout : WX) (D : Ends) : List HdS → WX
  | [] => Wout
  | (c, i, ts) :: r => fun cls d σ H => ∃ b, PySem.W.exmOne K cls c = some b ∧
      (b = true → ∀ a, H a = none → ts a cls d { nx := fun σ' H' => D.nx (σ'.set i none) H', rt := D.rt, bk := fun σ' H' => D.bk (σ'.set i none) H', ct := fun σ' H' => D.ct (σ'.set i none) H' } (σ.set i (some (.ref a))) H) ∧ (b = false → wNamed K Wout D r cls d σ H)
inductive NamedOk (X : Cx) : List ExceptHandler → List HdS → Prop
  | nil : NamedOk X [] []
  | cons {x n : Str} {c : Value} {i : Nat} {ts : Addr → Value → Option Addr → TS} {b₀ : Stmt} {suite : List Stmt} {np pos' : Pos} {hds : List ExceptHandler} {l : List HdS} (hc : Names X x c) (hi : X.N[i]? = some n) (hl : X.env.kindOf n = some .local)
      (hsu : ∀ (a : Addr) (oe : Obj) (cls : Value) (d : Option Addr) (pn : List (Addr × Obj)), Zc cls d oe → (∃ vs, oe.data = .fields vs) → PSs (X.suite a ((a, oe) :: pn)) (b₀ :: suite) (ts a cls d)) (r : NamedOk X hds l) :
      NamedOk X (.ExceptHandler (some (.Name x np)) (some n) (b₀ :: suite) pos' :: hds) ((c, i, ts) :: l)
section
variable {X : Cx} {body : List Stmt} {h₀ : ExceptHandler} {hds : List ExceptHandler} {l : List HdS} {pos : Pos} {tb : WX → TS} {Wout : WX}
/-- what an exception in flight wishes, noted where it landed -/
theorem named_go {D : Ends} {pins : List (Addr × Obj)} {a : Addr} {B h3 : Heap} {sI s' : Shared} {σ' : L2.St} {H' : Hp} {cls : Value} {d : Option Addr} (ok : X.Ok) (hN : X.N.Nodup) (hs : X.stack = X.env :: X.outer) (hf : X.env.frame = some X.env.locals) (tk : Takes X Wout)
    (J : Inv X pins σ' H' sI) (nb : ∀ b o, sI.heap.get? b = some o → b ∉ frs X.stack → B.get? b = some o) (up : sI.heap.UpToSlots h3) (os : s'.os = sI.os) (ag : AllBare s'.gens) (na : H' a = none) (nL : a ≠ X.env.locals) (nF : a ∉ X.fs)
    (fl3 : HandSPX.FlyingZ B (X.env :: X.outer) a (Zc cls d) h3) : ∀ {hs' : List ExceptHandler} {l' : List HdS}, NamedOk X hs' l' → wNamed X.K Wout D l' cls d σ' H' →
      wpAny (model X.prog X.w) X.A (handleBy (.ref a) X.env hs') (SP X pins D) X.xe { s' with heap := h3 } := by
  have J3 : Inv X pins σ' H' { s' with heap := h3 } := J.landed nb fl3.1 up os ag
  obtain ⟨oe3, vs3, he3, hz3, hd3⟩ := fl3.there
  have S3 := J3.suite he3 hd3 na nL nF
  intro hs' l' hk
  induction hk with
  | nil =>
    intro w
    refine wpAny_handleBy_nil ?_
    obtain ⟨k1, k2, k3, oe, vs, T, oT, ts', he, hz, hd, h1, hr⟩ := id fl3
    unfold PySem.passOn
    refine wpAny_bind (wpAny_field he hd h1 ?_)
    rw [if_neg (show ¬ ((Value.ref T == Value.none) = true) from by simp)]
    have fin : wpAny (model X.prog X.w) X.A (setFlight (.ref a) X.env.frame) (fun _ s4 => wpAny (model X.prog X.w) X.A (throw (.ref a) : Sem Flow) (SP X pins D) X.xe s4) X.xe { s' with heap := h3 } := by
      rw [hf]
      exact HandSPX.setFlight_upZ fl3 fun h4 hh4 up4 => wpAny_throw (tk _ _ ⟨a, B, sI, pins, σ', H', cls, d, rfl, J, nb, up.trans up4, .inr (.inr (by rw [hs]; exact hh4)), na, os, ag, w⟩)
    first
      | exact wpAny_bind (wpAny_pure (wpAny_bind fin))
      | exact wpAny_bind fin
  | @cons x n c i ts b₀ suite np pos' hds2 l2 hc hi hl hsu r ih =>
    intro w
    obtain ⟨b, hb1, hyes, hno⟩ := w
    refine wpAny_handleBy_cons (codeAny_handlers_test ?_) (by intro q; cases q)
    have LT : PySem.W.Looks (model X.prog X.w) h3 (typeOf (.ref a)) cls := fun A Q E s k q => wpAny_typeOf_ref (k _ _ he3) (by rw [hz3.1]; exact q)
    have LM := PySem.W.exm_one (M := model X.prog X.w) (J3.kIn) LT hb1
    have look : ∀ {Q : Value → Shared → Prop} {E : Value → Shared → Prop}, Q c { s' with heap := h3 } → wpAny (model X.prog X.w) (X.A.mark (some (.ref a))) (eval (.Name x np) X.env) Q E { s' with heap := h3 } := fun {Q E} q => by
      obtain ⟨hg, hdbg, hm | ⟨hm, hv, hnn⟩⟩ := hc
      · exact ld_glob (X := X.suite a ((a, oe3) :: (X.pn ++ pins))) S3 hg hm q hdbg
      · exact ld_blt (X := X.suite a ((a, oe3) :: (X.pn ++ pins))) S3 hg hm hv q hnn hdbg
    refine look (LM.here ?_)
    cases b with
    | false => exact ih (hno rfl)
    | true =>
      refine codeAny_handlers_suite_as ?_
      refine HandSPX.lands_againZ fl3 fun h4 fl4 up4 => ?_
      have J4 : Inv X pins σ' H' { s' with heap := h4 } := J.landed nb fl4.1 (up.trans up4) os ag
      obtain ⟨oe4, vs4, he4, hz4, hd4⟩ := fl4.there
      have S4 := J4.suite he4 hd4 na nL nF
      have hloc : Loc X.env.scope n := .inl hl
      refine store_ok (X := X.suite a ((a, oe4) :: (X.pn ++ pins))) (v := .ref a) S4 hN hi hloc rfl (fun s5 S5 => ?_) (.inr hl)
      refine wpAny_mono ((hsu a oe4 cls d (X.pn ++ pins) hz4 ⟨_, hd4⟩).run [] s5 _ H' _ S5 (hyes rfl a na)) (fun f s6 hsp => ?_) (fun _ _ z => z.elim)
      have gone : ∀ {σ6 : L2.St} {H6 : Hp} {Q : Shared → Prop}, Inv (X.suite a ((a, oe4) :: (X.pn ++ pins))) [] σ6 H6 s6 → (∀ s7, Inv X pins (σ6.set i none) H6 s7 → Q s7) →
          wpAny (model X.prog X.w) X.A (do bindName X.env n .none; unbindBehindTheSuite X.env n pos') (fun _ s7 => Q s7) X.xe s6 := fun {σ6 H6 Q} S6 hq => gone_ok (S6.unsuite ok) hN hi hl hq
      cases f with
      | next =>
        obtain ⟨σ6, H6, S6, q6⟩ := hsp
        exact gone S6 fun s7 J7 => ⟨_, _, J7, q6⟩
      | brk =>
        obtain ⟨σ6, H6, S6, q6⟩ := hsp
        exact gone S6 fun s7 J7 => ⟨_, _, J7, q6⟩
      | cont =>
        obtain ⟨σ6, H6, S6, q6⟩ := hsp
        exact gone S6 fun s7 J7 => ⟨_, _, J7, q6⟩
      | ret u =>
        obtain ⟨v6, σ6, H6, S6, r6, q6⟩ := hsp
        exact gone S6 fun s7 J7 => ⟨_, _, _, J7, r6, q6⟩
theorem ps_try_named (hs : X.stack = X.env :: X.outer) (hf : X.env.frame = some X.env.locals) (hN : X.N.Nodup) (tk : Takes X Wout)
    (hb : ∀ (W : WX) (pn : List (Addr × Obj)) (xe : Value → Shared → Prop), Takes (X.tr pn xe) W → PassesOwn (model X.prog X.w) X.A X.env xe → PSs (X.tr pn xe) body (tb W))
    (hh : NamedOk X (h₀ :: hds) l) : PS X (.Try body (h₀ :: hds) [] [] pos) (fun D σ H => tb (wNamed X.K Wout D l) D σ H) := by
  refine ⟨fun pins s σ H D I h => ?_⟩
  have ok := I.ok
  have hfr : X.A.frames = some (X.env :: X.outer) := by rw [ok.frames, hs]
  refine wpAny_Try_except ?_
  refine wpAny_mono ((hb (wNamed X.K Wout D l) (X.pn ++ pins) (fun e s₁ => wpAny (model X.prog X.w) X.A (noteFrame e X.env) (fun _ s₂ => wpAny (model X.prog X.w) X.A (setFlight e none) (fun _ s₃ =>
    wpAny (model X.prog X.w) X.A (handleBy e X.env (h₀ :: hds)) (SP X pins D) X.xe s₃) X.xe s₂) X.xe s₁) (fun u s' xx => ?_) PassesOwn.looking).run [] s σ H D (I.toTry _) h) (fun f s1 hsp => ?_) (fun e s1 he => he)
  · obtain ⟨a, B, sI, pins', σ', H', cls, d, rfl, J', nb, up, sky, na, os, ag, w⟩ := xx
    have J : Inv X pins σ' H' sI := J'.ofTry ok
    have sky' : Sky B (X.env :: X.outer) a (Zc cls d) X.env.locals s'.heap := by rw [← hs]; exact sky
    show wpAny (model X.prog X.w) X.A (noteFrame (.ref a) X.env) _ _ _
    refine Sky.land Zc.steady hfr hf sky' fun h3 fl3 up3 => ?_
    obtain ⟨oe3, vs3, he3, hz3, hd3⟩ := fl3.there
    have nfr : a ∉ frs (X.env :: X.outer) := fun hm => by
      obtain ⟨_, o', e', hnf⟩ := fl3.2.2.1.mem hm
      rw [he3] at e'; cases e'
      exact hnf _ hd3
    have nL : a ≠ X.env.locals := fun z => nfr (List.mem_filterMap.mpr ⟨X.env, List.mem_cons_self, by rw [hf, z]⟩)
    have nF : a ∉ X.fs := fun hm => by
      obtain ⟨e, he, q⟩ := List.mem_filterMap.mp hm
      exact nfr (List.mem_filterMap.mpr ⟨e, List.mem_cons_of_mem _ he, q⟩)
    exact named_go ok hN hs hf tk J nb (up.trans up3) os ag na nL nF fl3 hh w
  · cases f with
    | next =>
      obtain ⟨σ', H', J', q⟩ := hsp
      exact wpAny_execs_nil ⟨σ', H', J'.ofTry ok, q⟩
    | brk =>
      obtain ⟨σ', H', J', q⟩ := hsp
      exact ⟨σ', H', J'.ofTry ok, q⟩
    | cont =>
      obtain ⟨σ', H', J', q⟩ := hsp
      exact ⟨σ', H', J'.ofTry ok, q⟩
    | ret u =>
      obtain ⟨v, σ', H', J', r, q⟩ := hsp
      exact ⟨v, σ', H', J'.ofTry ok, r, q⟩
end
end LW
/-! Own facts of exception classes, raising them, named readings of operators and calls. -/
namespace LW
open PySem PySem.Spec PyProof.Rows L2

/-! ### an exception class over ValueError whose __init__ is inherited -/
def oexB (K : PySem.W.Frag) (C : Addr) : Bool := match K.lookup C with
  | some ⟨.type "type", _, .cls cd, sl⟩ => (match cd.mro, sl.toList with
    | .ref C' :: bm, [_, _, _, _, some (.builtin n), _] => C' == C && n == "ValueError.__new__" && !cd.hasDel && cd.hasDict && PySem.HandSPX.refsVE bm
    | _, _ => false)
  | _ => false
def eqO (a b : Option (Option Value)) : Bool := decide (a = b)
def xcB (K : PySem.W.Frag) (B x : Str) : Bool := oexB K (He.ga K x) && (decide (PySem.W.findIn K (.ref (He.ga K x)) "__setattr__" = some (some (.builtin "object.__setattr__"))) &&
  (decide (PySem.W.subIn K (.ref (He.ga K x)) (.type "BaseException") = some true) && (decide (PySem.W.typeIn K (.ref (He.ga K x)) = some (.type "type")) && (PySem.W.keepIn K (.ref (He.ga K x)) &&
  (decide (PySem.W.findIn K (.ref (He.ga K x)) "__init__" = some (some (.ref (He.fAd K (B, some "__init__"))))) && (decide (PySem.W.typeIn K (.ref (He.fAd K (B, some "__init__"))) = some (.type "function")) &&
  (decide (PySem.W.findIn K (.ref (He.ga K x)) "value" = some none) && xfB K (He.ga K x))))))))
structure XcT (K : PySem.W.Frag) (B x : Str) : Prop where
  o : OexC K (He.ga K x)
  ini : PySem.W.findIn K (.ref (He.ga K x)) "__init__" = some (some (.ref (He.fAd K (B, some "__init__"))))
  ty : PySem.W.typeIn K (.ref (He.fAd K (B, some "__init__"))) = some (.type "function")
  no : PySem.W.findIn K (.ref (He.ga K x)) "value" = some none
  xf : XfC K (He.ga K x)
theorem oexB_ok {K : PySem.W.Frag} {C : Addr} (h : oexB K C = true) : ∃ nm q N bs bm sn sub ab col dd k0 k1 k2 k3 k5, K.lookup C = some (excClassObj nm q C N bs bm true sn sub ab col dd k0 k1 k2 k3 k5 "ValueError.__new__") ∧ PySem.HandSPX.refsVE bm = true := by
  unfold oexB at h
  split at h
  · rename_i dd cd sl ho
    split at h
    · rename_i C' bm k0 k1 k2 k3 n k5 hm hs
      simp only [Bool.and_eq_true, beq_iff_eq, Bool.not_eq_true'] at h
      obtain ⟨⟨⟨⟨rfl, rfl⟩, hdel⟩, hdi⟩, hr⟩ := h
      obtain ⟨nm, bs, mro, ns, qn, hd, sn, sub, ab, col, del⟩ := cd
      dsimp only at hm hdel hdi
      subst hm hdel hdi
      have hsl : sl = #[k0, k1, k2, k3, some (.builtin "ValueError.__new__"), k5] := by
        obtain ⟨l⟩ := sl
        simp only at hs
        rw [hs]
      subst hsl
      exact ⟨nm, qn, ns, bs, bm, sn, sub, ab, col, dd, k0, k1, k2, k3, k5, ho, hr⟩
    · cases h
  · cases h
theorem xcB_ok {K : PySem.W.Frag} {B x : Str} (h : xcB K B x = true) : XcT K B x := by
  unfold xcB at h
  simp only [Bool.and_eq_true, decide_eq_true_eq] at h
  obtain ⟨h1, h2, h3, h4, h5, h6, h7, h8, h9⟩ := h
  exact ⟨⟨oexB_ok h1, h2, h3, h4, h5⟩, h6, h7, h8, xfB_ok h9⟩
structure XcF (K : PySem.W.Frag) (mg : Str → Option Value) (B x : Str) : Prop where
  g : mg x = some (.ref (He.ga K x))
  t : XcT K B x
theorem int_of {mg : Str → Option Value} {x : Str} {i : Int} (h : ∃ t, mg x = some (.int i t)) : ∃ u, mg x = some u ∧ RelV (.int i) u := by
  obtain ⟨t, e⟩ := h
  exact ⟨_, e, t, rfl⟩

/-! ### own classes in isinstance -/
def icTys : List String := ["NoneType", "bool", "int", "str", "list", "tuple", "dict"]
def icB (K : PySem.W.Frag) (x : Str) : Bool := decide (PySem.W.findIn K (.ref (He.ga K x)) "__class__" = some (some (.builtin "object.__class__"))) &&
  (decide (PySem.W.specialIn K (.builtin "object.__class__") "__get__" = some (some (.builtin "getset_descriptor.__get__"))) && (decide (PySem.W.takesIn K (.builtin "object.__class__") = some true) && (decide (PySem.W.mroIn K (He.ga K x) (.type "object") = some true) &&
  ((icTys.all fun n => decide (PySem.W.kitOne K (.type n) (.ref (He.ga K x)) = some false)) && decide (PySem.W.kitOne K (.ref (He.ga K x)) (.ref (He.ga K x)) = some true)))))
structure IcF (K : PySem.W.Frag) (x : Str) : Prop where
  ha : PySem.W.findIn K (.ref (He.ga K x)) "__class__" = some (some (.builtin "object.__class__"))
  hn : PySem.W.specialIn K (.builtin "object.__class__") "__get__" = some (some (.builtin "getset_descriptor.__get__"))
  ht : PySem.W.takesIn K (.builtin "object.__class__") = some true
  hm : PySem.W.mroIn K (He.ga K x) (.type "object") = some true
  no : ∀ n ∈ icTys, PySem.W.kitOne K (.type n) (.ref (He.ga K x)) = some false
  self : PySem.W.kitOne K (.ref (He.ga K x)) (.ref (He.ga K x)) = some true
theorem icB_ok {K : PySem.W.Frag} {x : Str} (h : icB K x = true) : IcF K x := by
  unfold icB at h
  simp only [Bool.and_eq_true, decide_eq_true_eq, List.all_eq_true] at h
  exact ⟨h.1, h.2.1, h.2.2.1, h.2.2.2.1, h.2.2.2.2.1, h.2.2.2.2.2⟩

/-! ### heaps -/
abbrev Ex := Evl.Ex
theorem ex_refl {H : Hp} : Ex H H := Evl.Ex.refl H
theorem ex_new {H : Hp} {p : Addr} {o : HO} (h : H p = none) : Ex H (upd H p o) := Evl.Ex.new h
theorem ex_back {H H' : Hp} {p : Addr} (e : Ex H H') (h : H' p = none) : H p = none := Evl.fresh_back e h

/-! ### RouteError.__init__(self, value=None): self.value = value -/
def spInit (K : PySem.W.Frag) : Sp := fun vs H Q _ => ∃ (a C : Addr) (v : V), vs = [.ref a, v] ∧ H a = some (exo a C none) ∧ OexC K C ∧ PySem.W.findIn K (.ref C) "value" = some none ∧
  ∀ d, H d = none → d ≠ a → Q .non (upd (upd H d (exd d [("value", v)])) a (exo a C (some d)))
/-- what a raise X(e) asks -/
def tX (C : Addr) (ta : TA) : L2.St → Hp → XK → Prop := fun σ H Q => ta σ H fun vs H1 => ∃ v, vs = [v] ∧ ∀ d H2, H1 d = none → Ex H1 H2 → H2 d = some (.xd [("value", v)]) → Q (.ref C) (some d) H2
/-- the class x, its __init__ kept at level 1 -/
structure Xk (P : Program) (w : World) (K : PySem.W.Frag) (mg : Str → Option Value) (base : Heap) (B x : Str) : Prop where
  f : XcF K mg B x
  ex : ∃ (fd : FuncData), FnOk P w K mg base L2.CX0 1 (He.fAd K (B, some "__init__")) fd ["self", "value"] (spInit K) ∧ Binds K fd ["self", "value"] []
theorem pa_mono {X : Cx} {es : List Expr} {t : TA} (ha : PA X es t) : PA X es (fun σ H R => ∃ Q0 : List V → Hp → Prop, t σ H Q0 ∧ ∀ vs H1, Q0 vs H1 → R vs H1) := by
  refine ⟨fun pos pins s σ H Q I h => ?_⟩
  obtain ⟨Q0, h0, hq⟩ := h
  exact thn (ha.run pos pins s σ H Q0 I h0) fun us s1 ⟨vs, H1, I1, r, q⟩ => ⟨vs, H1, I1, r, hq _ _ q⟩
section
variable {X : Cx} {j : Nat} {B x : Str} {p pos : Pos} {e : Expr} {ta : TA}
theorem pmk_x (c : Xk X.prog X.w X.K X.mg X.base B x) (hr : Room j X.A) (hk : 2 ≤ j) (hg : Gl X x) (ha : PA X [e] ta) (hdb : (x == ("__debug__" : Str)) = false := by decide) (he : starEach [e] X.env = (false, eval e X.env) :: starEach [] X.env := by rfl)
    (hpl : (backTo pos (starEach [] X.env)).any (·.1) = false := by rfl) : PMk X (.Call (.Name x p) [e] [] pos) (tX (He.ga X.K x) ta) := by
  obtain ⟨fd, F, b⟩ := c.ex
  intro pins s σ H Q I h
  refine pmk_oex (p := p) (pos := pos) c.f.t.o c.f.t.ini c.f.t.ty F (hr.mono hk) b .nil L2.pass0 hg c.f.g (pa_mono ha) hdb he hpl pins s σ H Q I ⟨_, h, fun vs H1 hv => ?_⟩
  obtain ⟨v, rfl, q⟩ := hv
  refine ⟨(by show 1 ≤ 1000; decide), fun a na => ⟨a, _, v, rfl, upd_same, c.f.t.o, c.f.t.no, fun d nd da => ⟨rfl, d, [("value", v)], upd_same, ?_, ?_, ?_⟩⟩⟩
  · rw [upd_ne da, upd_same]
  · rw [upd_ne da] at nd
    exact nd
  · have nd1 : H1 d = none := by rw [upd_ne da] at nd; exact nd
    refine q d _ nd1 (fun z o hz => ?_) upd_same
    have za : z ≠ a := ne_of_none hz na
    have zd : z ≠ d := ne_of_none hz nd1
    rw [upd_ne zd, del_ne za, upd_ne za, upd_ne zd, upd_ne za]
    exact hz
end
/-- the def itself -/
theorem init_ok {P : Program} {w : World} {K : PySem.W.Frag} {mg : Str → Option Value} {base : Heap} {B : Str} {st : Stmt} {fd : FuncData} (F : FunD K "__init__" (B ++ ".__init__") (defArgs st) (defBody st) (defScope st) [.non] [] (He.fAd K (B, some "__init__")) fd)
    (S : FnScope ["self", "value"] ["self", "value"] (defScope st)) {p1 p2 p3 p4 : Pos} (hb : defBody st = [.Assign [.Attribute (.Name "self" p1) "value" p2] (.Name "value" p3) p4])
    (hs : ∀ env, swapsWith (.Name "value" p3) (some (.Attribute (.Name "self" p1) "value" p2)) p4.line env = pure false)
    (hv0 : Vis (defScope st) "self") (hv1 : Vis (defScope st) "value") : FnOk P w K mg base L2.CX0 1 (He.fAd K (B, some "__init__")) fd ["self", "value"] (spInit K) := by
  refine F.ok S (fun vs H Q E h => ?_) (fun cdv A outer s H vs Q E hr h => ?_)
  · obtain ⟨a, C, v, rfl, _⟩ := h
    rfl
  · rw [hb]
    refine ⟨_, pss_one (ps_ost (pe_var (i := 0) rfl hv0) (pe_var (i := 1) rfl hv1) (hs _)), ?_⟩
    obtain ⟨a, C, v, rfl, ha, hC, hn, q⟩ := h
    exact ⟨v, rfl, _, rfl, a, C, rfl, hC, hn, .inl ⟨ha, fun d nd da => q d nd da⟩⟩
theorem init_binds {K : PySem.W.Frag} {B : Str} {st : Stmt} {fd : FuncData} (F : FunD K "__init__" (B ++ ".__init__") (defArgs st) (defBody st) (defScope st) [.non] [] (He.fAd K (B, some "__init__")) fd)
    (h : ∀ (T : Addr) (kV doc pm : Value) (an : Option Addr) (cdv ct : Value) (us its : List Value), us.length = 2 → its.length = 1 →
      ∃ k, bindArgs (PySem.W.fnOf "__init__" (B ++ ".__init__") (defArgs st) (defBody st) (defScope st) (.ref T) kV doc pm an cdv ct) ⟨us, []⟩ = seqItems? (.ref T) >>= k ∧ k (some its.toArray) = pure ((["self", "value"] : List Str).zip (us ++ its.drop 1))) : Binds K fd ["self", "value"] [] := by
  obtain ⟨ds, hv, hb⟩ := F.binds1 (ps := ["self", "value"]) 2 1 (by simp) (by simp) h
  cases hv
  exact hb
end LW
/-! The end of a law whose def knows that no repr is under way. -/
namespace LW
open PySem PySem.Spec PyProof.Rows L2

section
variable {P : Program} {w : World} {K : PySem.W.Frag} {mg mb : Str → Option Value} {k : Nat} {fa a : Addr} {cs : List (Addr × Addr)} {fd : FuncData} {x : Str} {sp : Sp} {s₁ : Shared} {vs : List Value} {ns : List Int}
/-- what stands at the law's entry: the script's list, the tables of code objects, all empty -/
structure Entry (K : PySem.W.Frag) (mg mb : Str → Option Value) (cs : List (Addr × Addr)) (a : Addr) (vs : List Value) (ns : List Int) (s₁ : Shared) : Prop where
  kin : K.In s₁.heap
  glob : s₁.heap.Ns mainGlobals mg
  blt : s₁.heap.Ns builtinsNs mb
  bltOk : ∀ x : Str, x ≠ "__name__" → mb x = bootBuiltins x
  lim : s₁.heap.NoLimit
  gens : s₁.gens = #[]
  tabs : ∀ p ∈ cs, s₁.heap.get? p.2 = some { cls := .none, data := .fields #[] }
  notIn : ∀ p ∈ cs, K.lookup p.2 = none
  code : ∀ p ∈ cs, PySem.W.CodeHd s₁.heap p.1 p.2
  bmain : ∃ (bm : Addr) (ob : Obj), mg "__builtins__" = some (.ref bm) ∧ bm ≠ builtinsNs ∧ s₁.heap.get? bm = some ob ∧ ob.cls = .type "module" ∧ ob.dict = some builtinsNs ∧ ob.data = .plain
  script : s₁.heap.get? a = some { cls := .type "list", data := .seq vs.toArray }
  intsAre : IntsAre vs ns
  few : ns.length ≤ sizeLine
/-- an abstract heap that tracks the tables, and the script at most -/
structure Starts (K : PySem.W.Frag) (cs : List (Addr × Addr)) (a : Addr) (ns : List Int) (P : Program) (w : World) (s₁ : Shared) (H : Hp) : Prop where
  tabs : ∀ p ∈ cs, H p.2 = some (.tbl #[])
  only : ∀ b, H b = none ∨ b ∈ cs.map (·.2) ∨ (b = a ∧ ∃ o xs, H b = some (.frz o (.lst xs)))
  seq : SqL K H a (ns.map V.int)
  ok : HOk P w H s₁.heap
  free : H a ≠ none → K.lookup a = none
theorem Entry.table (e : Entry K mg mb cs a vs ns s₁) {b : Addr} (hb : b ∈ cs.map (·.2)) : s₁.heap.get? b = some { cls := .none, data := .fields #[] } := by
  obtain ⟨p, hp, rfl⟩ := List.mem_map.mp hb
  exact e.tabs p hp
/-- what is no empty table and no list is not tracked -/
theorem Starts.off {H : Hp} (e : Entry K mg mb cs a vs ns s₁) (S : Starts K cs a ns P w s₁ H) {b : Addr} {o : Obj} (ho : s₁.heap.get? b = some o) (h1 : ∀ us n, o.data ≠ .seq us n) (h2 : o.data ≠ .fields #[]) : H b = none := by
  rcases S.only b with z | z | ⟨rfl, _⟩
  · exact z
  · rw [e.table z] at ho
    cases ho
    exact absurd rfl h2
  · rw [e.script] at ho
    cases ho
    exact absurd rfl (h1 _ _)
theorem Starts.nsAt {H : Hp} (e : Entry K mg mb cs a vs ns s₁) (S : Starts K cs a ns P w s₁ H) {b : Addr} {m : Str → Option Value} (h : s₁.heap.Ns b m) : (hidT s₁.heap H).Ns b m := by
  obtain ⟨o, es, ep, ho, hd, r⟩ := h
  refine ⟨o, es, ep, hidT_get ho (S.off e ho (fun us n z => ?_) fun z => ?_), hd, r⟩
  · rw [hd] at z; cases z
  · rw [hd] at z; cases z
theorem Starts.kin {H : Hp} (e : Entry K mg mb cs a vs ns s₁) (S : Starts K cs a ns P w s₁ H) : K.In (hidT s₁.heap H) := fun b o h => by
  refine hidT_get (e.kin b o h) ?_
  rcases S.only b with z | z | ⟨rfl, z⟩
  · exact z
  · obtain ⟨p, hp, rfl⟩ := List.mem_map.mp z
    rw [e.notIn p hp] at h
    cases h
  · obtain ⟨_, _, z⟩ := z
    rw [S.free (by rw [z]; simp)] at h
    cases h
theorem Starts.mod {H : Hp} (e : Entry K mg mb cs a vs ns s₁) (S : Starts K cs a ns P w s₁ H) : L2.Mod K mg (hidT s₁.heap H) :=
  ⟨S.kin e, S.nsAt e e.glob, ⟨mb, S.nsAt e e.blt, e.bltOk⟩, let ⟨mc, h1, h2⟩ := e.lim; ⟨mc, S.nsAt e h1, h2⟩⟩
theorem Starts.tb {H : Hp} (e : Entry K mg mb cs a vs ns s₁) (S : Starts K cs a ns P w s₁ H) : ∀ p ∈ cs, LamX.TabB (hidT s₁.heap H) mg p.1 p.2 := fun p hp => by
  have ht := e.tabs p hp
  refine ⟨?_, ?_, fun z => ?_⟩
  · obtain ⟨o, us, file, tf, flags, tg, inF, text, tt, e1, r1, r2, r3, r4, r5, r6, r7, r8, hne⟩ := e.code p hp
    refine ⟨o, us, file, tf, flags, tg, inF, text, tt, hidT_get e1 (S.off e e1 (fun vs n z => ?_) fun z => ?_), r1, r2, r3, r4, r5, r6, r7, r8, hne⟩
    · rw [r2] at z
      cases z
    · rw [r2] at z
      cases z
      simp at r3
  · obtain ⟨bm, ob, b1, b2, b3, b4, b5, b6⟩ := e.bmain
    have nG : bm ≠ mainGlobals := fun q => by
      obtain ⟨o, es, ep, eo, hd, _⟩ := e.glob
      rw [q, eo] at b3
      cases b3
      rw [hd] at b6
      cases b6
    have nP : bm ≠ p.2 := fun q => by
      rw [q, ht] at b3
      cases b3
      cases b6
    refine ⟨bm, ob, b1, b2, nG, nP, hidT_get b3 (S.off e b3 (fun vs n z => ?_) fun z => ?_), b4, b5, b6⟩
    · rw [b6] at z
      cases z
    · rw [b6] at z
      cases z
  · obtain ⟨o, es, ep, eo, hd, _⟩ := e.glob
    rw [z, ht] at eo
    cases eo
    cases hd
theorem law_run {CX : CXT} {H : Hp} (e : Entry K mg mb cs a vs ns s₁) (S : Starts K cs a ns P w s₁ H) (hr : Room k callerA)
    (F : ∀ base : Heap, K.In base → base.Ns mainGlobals mg → (∀ p ∈ cs, LamX.TabB base mg p.1 p.2) → FnG P w K mg base CX k fa fd [x] sp) (hbind : ∀ (s : Shared) (u : Value), BindsTo s fd ⟨[u], []⟩ [(x, u)])
    (hsp : sp [.ref a] H (fun v _ => v = .bl true) fun _ _ _ => False) (hCX : ∀ H e s', CX [] H s₁ (fun _ _ _ => False) e s' → False) :
    codeAny (model P w) callerA (.call (.ref fa) ⟨[.ref a], []⟩) (fun r s' => r = .ok (.ret (.bool true)) ∧ OldK s₁.heap s'.heap ∧ s'.os = s₁.os ∧ AllBare s'.gens) s₁ := by
  have e0 : Env0 P w K mg (hidT s₁.heap H) callerA [] s₁ H := ⟨rfl, S.mod e, fun b o z => of_hidT z, Nat.le_of_eq (hidT_size _ _), trivial, fun b hb => absurd (show b ∈ ([] : List Addr) from hb) (by simp), S.ok, .of_eq e.gens⟩
  refine codeAny_mono ((F _ (S.kin e) (S.nsAt e e.glob) (S.tb e)).run callerA [] s₁ H ⟨[.ref a], []⟩ [.ref a] [.ref a] _ _ rfl hr e0 (hbind s₁ (.ref a)) (.cons rfl .nil) hsp) fun r s' h => ?_
  cases r with
  | error er => exact (hCX H er s' h).elim
  | ok fl =>
    cases fl with
    | next => exact h.elim
    | brk => exact h.elim
    | cont => exact h.elim
    | ret u =>
      obtain ⟨v, H', os, bare, un, hok', r', q⟩ := h
      obtain rfl : v = .bl true := q
      obtain rfl : u = Value.bool true := r'
      have old : ∀ b o, b ∉ cs.map (·.2) → s₁.heap.get? b = some o → s'.heap.get? b = some o := fun b o nb eb => by
        rcases S.only b with z | z | ⟨_, ob, xs, z⟩
        · exact un.keep b o eb z (by intro y; exact absurd (show b ∈ ([] : List Addr) from y) (by simp)) (by simp)
        · exact absurd z nb
        · obtain ⟨e1, _⟩ := S.ok b _ z
          obtain ⟨e2, _⟩ := hok' b _ (un.frzs b ob _ z)
          rw [eb] at e1
          cases e1
          exact e2
      have grown : ∀ b, b ∈ cs.map (·.2) → ∃ more : Array Value, s'.heap.get? b = some { cls := .none, data := .fields more } := fun b hb => by
        obtain ⟨p, hp, rfl⟩ := List.mem_map.mp hb
        obtain ⟨more, z⟩ := un.tbls p.2 #[] (S.tabs p hp)
        exact ⟨_, hok' p.2 _ z⟩
      refine ⟨rfl, ⟨fun b o eb => ?_, fun b o eb => ?_⟩, os, bare⟩
      · by_cases hb : b ∈ cs.map (·.2)
        · obtain ⟨more, hm⟩ := grown b hb
          obtain ⟨p, hp, rfl⟩ := List.mem_map.mp hb
          rw [e.tabs p hp] at eb
          cases eb
          exact .inr (.inl ⟨((e.code p hp).tab (e.tabs p hp)).isCodeTable, rfl, #[], more, rfl, by rw [Array.empty_append]; exact hm⟩)
        · exact .inl (old b o hb eb)
      · by_cases hb : b ∈ cs.map (·.2)
        · obtain ⟨more, hm⟩ := grown b hb
          exact ⟨_, hm⟩
        · exact ⟨o, old b o hb eb⟩
/-- such an abstract heap is to be had -/
theorem starts (e : Entry K mg mb cs a vs ns s₁) : ∃ H, Starts K cs a ns P w s₁ H := by
  have rv := vals_ints e.intsAre
  have lenV := e.intsAre.length
  have aT : a ∉ cs.map (·.2) := fun z => by
    have q := e.table z
    rw [e.script] at q
    have z' : Data.seq vs.toArray _ = Data.fields #[] := congrArg Obj.data (Option.some.inj q)
    cases z'
  have tk : ∀ b, b ∈ cs.map (·.2) → ObjOk P w (fun _ => none) s₁.heap b (.tbl #[]) := fun b hb => e.table hb
  cases hk : K.lookup a with
  | some o =>
    have eo := e.kin a o hk
    rw [e.script] at eo
    cases eo
    refine ⟨fun b => if b ∈ cs.map (·.2) then some (.tbl #[]) else none, fun p hp => if_pos (List.mem_map.mpr ⟨p, hp, rfl⟩), fun b => ?_, .inr ⟨_, vs.toArray, _, hk, rfl, rfl, rfl, by rw [List.size_toArray, lenV]; exact e.few, by simpa using rv⟩, fun b u z => ?_, fun z => absurd (if_neg aT) z⟩
    · by_cases hb : b ∈ cs.map (·.2)
      · exact .inr (.inl hb)
      · exact .inl (if_neg hb)
    · by_cases hb : b ∈ cs.map (·.2)
      · have z' := (if_pos hb).symm.trans z
        cases z'
        exact e.table hb
      · have z' := (if_neg hb).symm.trans z
        cases z'
  | none =>
    refine ⟨fun b => if b = a then some (.frz { cls := .type "list", data := .seq vs.toArray } (.lst (ns.map V.int))) else if b ∈ cs.map (·.2) then some (.tbl #[]) else none,
      fun p hp => (if_neg (show ¬ p.2 = a from fun z => aT (by rw [← z]; exact List.mem_map.mpr ⟨p, hp, rfl⟩))).trans (if_pos (List.mem_map.mpr ⟨p, hp, rfl⟩)), fun b => ?_, .inl (.inr ⟨{ cls := .type "list", data := .seq vs.toArray }, if_pos rfl⟩), fun b u z => ?_, fun _ => hk⟩
    · by_cases hb : b = a
      · exact .inr (.inr ⟨hb, _, _, if_pos hb⟩)
      · by_cases hb2 : b ∈ cs.map (·.2)
        · exact .inr (.inl hb2)
        · exact .inl ((if_neg hb).trans (if_neg hb2))
    · by_cases hb : b = a
      · have z' := (if_pos hb).symm.trans z
        cases z'
        rw [hb]
        exact ⟨e.script, by rw [List.length_map]; exact e.few, vs, _, rv, e.script⟩
      · have z1 := (if_neg hb).symm.trans z
        by_cases hb2 : b ∈ cs.map (·.2)
        · have z' := (if_pos hb2).symm.trans z1
          cases z'
          exact e.table hb2
        · have z' := (if_neg hb2).symm.trans z1
          cases z'
end

/-- what the def named law promises: from the script's list, the tables tracked -/
def spLaw (K : PySem.W.Frag) (T : List (Addr × Str)) : Sp := fun vs H Q _ => ∃ (a : Addr) (ns : List Int), vs = [.ref a] ∧ SqL K H a (ns.map V.int) ∧ ns.length ≤ 63 ∧ (∀ z ∈ ns, Builtin.Int.intBits z ≤ 1048576) ∧ LamX.Tabs T H ∧ ∀ H', Q (.bl true) H'
/-- the end over a Hook: ts the defs that make lambdas -/
theorem walk_law {l : PySem.W.OpenLaw} {k n : Nat} {q : Program} {loose : List Str} {XP : (Str → Option Value) → Heap → Prop} {fa : List He.Fa} {fn : List He.DefD} {tf : List He.Defn} {ex : PySem.W.Frag → Bool} {d : DefRec} {x : Str}
    (hn : l.most = some 63) (hdf : d.params.defaults = []) (hr : Room k callerA)
    (F : ∀ (w : World) (mg : Str → Option Value) (f : Addr) (h : Heap) (K : PySem.W.Frag), K.In h → h.Ns mainGlobals mg → He.SaysX fa fn [] tf ex w h K → mg d.name = some (.ref f) →
      ∃ fd : FuncData, (∀ (s : Shared) (u : Value), BindsTo s fd ⟨[u], []⟩ [(x, u)]) ∧
        ∀ base : Heap, K.In base → base.Ns mainGlobals mg → (∀ p ∈ tf, LamX.TabB base mg (He.cT K p).1 (He.cT K p).2) →
          FnG l.prog w K mg base (L2.CX l.prog w) k f fd [x] (spLaw K (tf.map fun p => ((He.cT K p).2, (p.1 ++ ".<locals>.") ++ "<lambda>")))) :
    PySem.W.WalkO q loose XP (He.hookX n fa fn [] tf ex).says l.row.toRowW d [] (fun f vs => PySem.call f vs) := by
  refine Att.attach_callB hn hdf fun w s₀ s₁ mg mb f o pm cd doc a vs ns G Y ho hd hcd hmg hobj hints hlen hbits hg => ?_
  obtain ⟨K, KX, c⟩ := Y
  obtain ⟨fd, hb, hF⟩ := F w mg f _ K KX G.T.g c hmg
  have e : Entry K mg mb (tf.map (He.cT K)) a vs ns s₁ := by
    refine ⟨KX, G.T.g, G.T.b, G.T.builtins, G.T.nolimit, hg, fun p hp => ?_, fun p hp => ?_, fun p hp => ?_, G.T.bmain, hobj, hints, Nat.le_trans hlen (by decide)⟩
    · obtain ⟨d, hd, rfl⟩ := List.mem_map.mp hp
      exact c.empty d hd
    · obtain ⟨d, hd, rfl⟩ := List.mem_map.mp hp
      exact c.out d hd
    · obtain ⟨d, hd, rfl⟩ := List.mem_map.mp hp
      exact PySem.W.codeHd_of_K KX (c.hd d hd)
  obtain ⟨H, S⟩ := starts (P := l.prog) (w := w) e
  refine law_run e S hr (fun base kb nb tb => hF base kb nb fun p hp => tb _ (List.mem_map.mpr ⟨p, hp, rfl⟩)) hb ⟨a, ns, rfl, S.seq, hlen, hbits, fun p hp => ?_, fun _ => rfl⟩ fun H e s' z => ?_
  · obtain ⟨d, hd, rfl⟩ := List.mem_map.mp hp
    exact LamX.TabS.nil (S.tabs _ (List.mem_map.mpr ⟨d, hd, rfl⟩))
  · obtain ⟨_, _, _, _, _, _, _, _, _, _, _, _, z⟩ := z
    exact z
end LW
/-! Named readings of operators and calls, and a step for each. -/
namespace LW
open PySem PySem.Spec PyProof.Rows L2

/-! ### named readings -/
def rMod : R2 := rI (fun _ j => 0 < j) fun i j => .int (i % j)
def rAddS : R2 := fun x y H Q => ∃ i j, x = .str i ∧ y = .str j ∧ i.length + j.length ≤ sizeLine ∧ Q (.str (i ++ j)) H
def rAnd1 : R2 := fun x y H Q => ∃ n : Nat, x = .int (n : Int) ∧ y = .int 1 ∧ Q (.int ((n % 2 : Nat) : Int)) H
def rShr : R2 := fun x y H Q => ∃ (n k : Nat), x = .int (n : Int) ∧ y = .int (k : Int) ∧ Q (.int ((n / 2 ^ k : Nat) : Int)) H
/-- 1 << k, n << k of numbers that are not negative -/
def rShl : R2 := fun x y H Q => ∃ (n k : Nat), x = .int (n : Int) ∧ y = .int (k : Int) ∧ n < 2 ^ 200 ∧ k ≤ 1000 ∧ Q (.int ((n * 2 ^ k : Nat) : Int)) H
def rMulW : R2 := rI CMulW fun i j => .int (i * j)
def rDivW : R2 := rI CDivW fun i j => .int (i / j)
def rPow : R2 := rI CPow fun i j => .int (i ^ j.toNat)
def rLenS : List V → Hp → VK → Prop := fun xs H Q => ∃ z, xs = [.str z] ∧ z.length ≤ sizeLine ∧ Q (.int z.length) H
def rLenQ (K : PySem.W.Frag) : List V → Hp → VK → Prop := fun xs H Q => ∃ p ys, xs = [.ref p] ∧ (SqL K H p ys ∨ SqT K H p ys) ∧ Q (.int ys.length) H
def rIntS : List V → Hp → VK → Prop := fun xs H Q => ∃ a n, xs = [.str a] ∧ PySem.intText? a = some n ∧ a.length ≤ 640 ∧ Q (.int n) H
def rInt : List V → Hp → VK → Prop := fun xs H Q => ∃ i, xs = [.int i] ∧ Q (.int i) H
def rStr : List V → Hp → VK → Prop := fun xs H Q => ∃ i, xs = [.int i] ∧ i.natAbs.log2 < 1920 ∧ Q (.str (toString i)) H
def rMin2 : List V → Hp → VK → Prop := fun xs H Q => ∃ i j, xs = [.int i, .int j] ∧ Q (.int (if j < i then j else i)) H
def rMax2 : List V → Hp → VK → Prop := fun xs H Q => ∃ i j, xs = [.int i, .int j] ∧ Q (.int (if j > i then j else i)) H
def rTupOf (K : PySem.W.Frag) : List V → Hp → VK → Prop := fun xs H Q => ∃ p ys, xs = [.ref p] ∧ ((SqL K H p ys ∧ ∀ l, H l = none → Q (.ref l) (upd H l (.tup ys))) ∨ (SqT K H p ys ∧ Q (.ref p) H))
def rLstOf (K : PySem.W.Frag) : List V → Hp → VK → Prop := fun xs H Q => ∃ p ys, xs = [.ref p] ∧ (SqL K H p ys ∨ SqT K H p ys) ∧ ∀ l, H l = none → Q (.ref l) (upd H l (.lst ys))
def rJn (K : PySem.W.Frag) : V → List V → Hp → VK → Prop := fun x xs H Q => ∃ a p, ∃ ys : List Str, x = .str a ∧ xs = [.ref p] ∧ (SqL K H p (ys.map V.str) ∨ SqT K H p (ys.map V.str)) ∧ (ys.map (·.length)).sum + ys.length * a.length ≤ 16777216 ∧ Q (.str (Txt.join a ys)) H
def rRepS : R2 := fun x y H Q => ∃ (z : Str) (k : Nat), x = .str z ∧ y = .int (k : Int) ∧ z.length * k ≤ 100000 ∧ Q (.str ⟨(List.replicate k z.cps.toList).flatten.toArray⟩) H
/-- a new tuple, a new list: what follows is asked of each heap behind it -/
def tTupN (t : TA) : TE := fun σ H Q => t σ H fun xs H1 => xs.length ≤ 100000 ∧ ∀ p H', H1 p = none → Ex H1 H' → H' p = some (.tup xs) → Q (.ref p) H'
def tLstN (t : TA) : TE := fun σ H Q => t σ H fun xs H1 => xs.length ≤ 100000 ∧ ∀ p H', H1 p = none → Ex H1 H' → H' p = some (.lst xs) → Q (.ref p) H'
theorem w_new {A B : Prop} (a : A) (b : B) : A ∧ B := ⟨a, b⟩
def tTru (K : PySem.W.Frag) (ta : TE) : TT := fun σ H Q => ta σ H fun x H' => ∃ k, TruV K x H' k ∧ Q k H'
section
variable {X : Cx}
theorem o_add : OpR X (binaryOp .Add) (rI0 fun i j => .int (i + j)) := op_add
theorem o_sub : OpR X (binaryOp .Sub) (rI0 fun i j => .int (i - j)) := op_sub
theorem o_mul : OpR X (binaryOp .Mult) rMulW := op_mulW
theorem o_fdiv : OpR X (binaryOp .FloorDiv) rDivW := op_fdivW
theorem o_mod : OpR X (binaryOp .Mod) rMod := op_mod
theorem o_pow : OpR X (binaryOp .Pow) rPow := op_pow
theorem o_addS : OpR X (binaryOp .Add) rAddS := op_add_str
theorem o_cat : OpR X (binaryOp .Add) rCat := op_cat
theorem o_and : OpR X (binaryOp .BitAnd) rAnd1 := op_odd
theorem o_shr : OpR X (binaryOp .RShift) rShr := by
  intro pins s σ H x y v u Q I rx ry h
  obtain ⟨n, k, rfl, rfl, q⟩ := h
  refine op_shr pins s σ H _ _ v u Q I rx ry ⟨n, k, rfl, rfl, by omega, ?_⟩
  have e : ((n : Int) / 2 ^ ((k : Int)).toNat) = ((n / 2 ^ k : Nat) : Int) := by
    rw [Int.toNat_natCast]
    simp
  show Q (.int ((n : Int) / 2 ^ ((k : Int)).toNat)) H
  rw [e]
  exact q
theorem bits_small {n : Nat} (h : n < 2 ^ 200) : Builtin.Int.intBits (n : Int) ≤ 201 := by
  unfold Builtin.Int.intBits
  have := PySem.Flt.log2_lt_of (n := n) (by decide) h
  split <;> simp <;> omega
theorem o_shl : OpR X (binaryOp .LShift) rShl := by
  intro pins s σ H x y v u Q I rx ry h
  obtain ⟨n, k, rfl, rfl, hn, hk, q⟩ := h
  have hb := bits_small hn
  refine op_shlN pins s σ H _ _ v u Q I rx ry ⟨n, k, rfl, rfl, ⟨by omega, by omega⟩, ?_⟩
  have e : ((n : Int) * 2 ^ k) = ((n * 2 ^ k : Nat) : Int) := by simp
  rw [e]
  exact q
theorem o_eq : OpR X (compareOp .Eq) rEq := op_eq
theorem o_ne : OpR X (compareOp .NotEq) rNe := op_ne
theorem o_lt : OpR X (compareOp .Lt) (rI0 fun i j => .bl (decide (i < j))) := op_lt
theorem o_le : OpR X (compareOp .LtE) (rI0 fun i j => .bl (decide (i ≤ j))) := op_le
theorem o_gt : OpR X (compareOp .Gt) (rI0 fun i j => .bl (decide (j < i))) := op_gt
theorem o_ge : OpR X (compareOp .GtE) (rI0 fun i j => .bl (decide (j ≤ i))) := op_ge
theorem o_isN : OpR X (compareOp .Is) rIsN := op_isN1
theorem o_notN : OpR X (compareOp .IsNot) rNotN := op_notN1
theorem o_inS : OpR X (compareOp .In) rInS := op_inS
theorem o_notInS : OpR X (compareOp .NotIn) rNotInS := op_notInS
theorem o_inQ : OpR X (compareOp .In) (rIn X.K false) := op_in_seq
theorem o_notInQ : OpR X (compareOp .NotIn) (rIn X.K true) := op_notIn_seq
theorem o_dEq (hu : X.A.units + 64 < cLine) : OpR X (compareOp .Eq) (rEqD X.K) := op_eqD hu
theorem o_dNe (hu : X.A.units + 64 < cLine) : OpR X (compareOp .NotEq) (rNeD X.K) := op_neD hu
theorem c_isi : CallR X (.builtin "isinstance") (rIsi X.K) := call_isi
theorem c_isiT : CallR X (.builtin "isinstance") (rIsiT X.K) := call_isiT
theorem c_lenS : CallR X (.builtin "len") rLenS := call_len_str
theorem c_lenQ : CallR X (.builtin "len") (rLenQ X.K) := call_len_seq
theorem c_len : CallR X (.builtin "len") (rLen X.K) := call_len
theorem c_all (hc : X.calm = true) : CallR X (.builtin "all") (rAll X.K) := cr_all hc
theorem c_any (hc : X.calm = true) : CallR X (.builtin "any") (rAny X.K) := cr_any hc
theorem c_intS : CallR X (.type "int") rIntS := call_int_str
theorem c_int : CallR X (.type "int") rInt := fun pins s σ H xs us Q I r h => call_int1 pins s σ H xs us Q I r (.inl h)
theorem c_str : CallR X (.type "str") rStr := call_str_int
theorem c_min2 (hc : X.calm = true) : CallR X (.builtin "min") rMin2 := call_min2 hc
theorem c_max2 (hc : X.calm = true) : CallR X (.builtin "max") rMax2 := call_max2 hc
theorem c_tuple : CallR X (.type "tuple") (rTupOf X.K) := call_tuple_of
theorem c_list : CallR X (.type "list") (rLstOf X.K) := call_list_of
theorem c_repr {k : Nat} (hg : X.A.guards = some []) (hr : Room k X.A) : CallR X (.builtin "repr") (rRepr X.K) := cr_repr hg hr.units
theorem m_append : MtR X "list.append" rAppend := mt_append
theorem m_extend : MtR X "list.extend" rExtend := mt_extend
theorem set_l : PSet X rSetL := set_list
theorem ix_list : IxR X (rIxL X.K) := L2.ix_list
theorem ix_tup : IxR X (rIxT X.K) := L2.ix_tup
theorem ix_str : IxR X rIxS := L2.ix_str
theorem sl_list : SlR X (rSlL X.K) := L2.sl_list
theorem sl_tup : SlR X (rSlT X.K) := L2.sl_tup
theorem sl_str : SlR X rSlS := L2.sl_str
theorem pe_tp {es : List Expr} {x1} {pos : Pos} {t : TA} (h : PA X es t) : PE X (.Tuple es x1 pos) (tTupN t) := by
  refine ⟨fun pins s σ H Q I hq => ?_⟩
  refine wpAny_Tuple_spliced (thn (h.run pos pins s σ H _ I hq) fun us s1 ⟨xs, H1, I1, r, z, q⟩ => ⟨by rw [← r.length]; exact Evl.sz_of z, ?_⟩)
  have hf : H1 s1.heap.objs.size = none := I1.hok.fresh (Nat.le_refl _)
  refine ⟨.ref s1.heap.objs.size, upd H1 s1.heap.objs.size (.tup xs), I1.laid (t' := s1.toks) (fun b u e => Heap.get?_push_of_some _ e) (Nat.le_refl _) ?_, rfl, q _ _ hf (ex_new hf) upd_same⟩
  exact ⟨Evl.sz_of z, us, r, ⟨_, Heap.get?_push_size _ rfl, rfl, _, rfl⟩⟩
theorem pe_ls {es : List Expr} {pos : Pos} {t : TA} (h : PA X es t) : PE X (.List es pos) (tLstN t) := by
  refine ⟨fun pins s σ H Q I hq => ?_⟩
  refine wpAny_List_spliced (thn (h.run pos pins s σ H _ I hq) fun us s1 ⟨xs, H1, I1, r, z, q⟩ => ⟨by rw [← r.length]; exact Evl.sz_of z, ?_⟩)
  have hf : H1 s1.heap.objs.size = none := I1.hok.fresh (Nat.le_refl _)
  refine ⟨.ref s1.heap.objs.size, upd H1 s1.heap.objs.size (.lst xs), I1.laid (t' := s1.toks) (fun b u e => Heap.get?_push_of_some _ e) (Nat.le_refl _) ?_, rfl, q _ _ hf (ex_new hf) upd_same⟩
  exact ⟨Evl.sz_of z, us, 0, r, Heap.get?_push_size _ rfl⟩
theorem pe_jn {o e : Expr} {to te : TE} {apos pos : Pos} (ho : PE X o to) (he : PE X e te) (hs : starEach [e] X.env = [(false, eval e X.env)] := by rfl) (hbase : attributeBase o "join" X.env (eval o X.env) = eval o X.env := by rfl) (hline : (apos.endLine == pos.line) = true := by rfl) :
    PE X (.Call (.Attribute o "join" apos) [e] [] pos) (tM1 (rJn X.K) to te) := pe_join ho he hs hbase hline
theorem pt_tru {a : Expr} {ta : TE} (ha : PE X a ta) (he : ∀ whole, isTrue a X.env whole = (do let v ← whole; standAt a.pos; holding [v] (truthy v))) : PT X a (tTru X.K ta) := pt_truth ha he
end

/-! ### steps -/
section
variable {K : PySem.W.Frag} {σ : L2.St} {H : Hp} {Q : VK} {ta tb tc te : TE} {t u : TT} {A : TA} {D : Ends} {s1 s2 s3 : TS} {i j : Nat} {v w : V} {x y : V}
theorem w_seq (h : s1 { D with nx := s2 D } σ H) : tSeq s1 s2 D σ H := h
theorem w_next (h : D.nx σ H) : tNext D σ H := h
theorem w_set (h : te σ H fun x H1 => D.nx (σ.set i (some x)) H1) : tAsg te (gName i) D σ H := h
theorem w_asg {g : TG} (h : te σ H fun x H1 => g x σ H1 D.nx) : tAsg te g D σ H := h
theorem w_ret (h : te σ H D.rt) : tRet te D σ H := h
theorem w_retN (h : D.rt .non H) : tRetN D σ H := h
theorem w_drop (h : te σ H fun _ H1 => D.nx σ H1) : tDrop te D σ H := h
theorem w_if (h : t σ H fun b H1 => if b = true then s1 D σ H1 else s2 D σ H1) : tIfS t s1 s2 D σ H := h
theorem w_par (h : A σ H fun vs H1 => ∃ v w, vs = [v, w] ∧ D.nx ((σ.set i (some v)).set j (some w)) H1) : tPar i j A D σ H := h
theorem w_aug {f : Int → Int → Int} {a : Int} (e : σ[i]? = some (some (.int a))) (h : te σ H fun y H1 => ∃ b, y = .int b ∧ D.nx (σ.set i (some (.int (f a b)))) H1) : tAug i te (ipI f) D σ H := by
  refine ⟨_, e, ?_⟩
  have e2 : (fun (y : V) (H1 : Hp) => ipI f (.int a) y H1 fun z H2 => D.nx (σ.set i (some z)) H2) = fun y H1 => ∃ b, y = .int b ∧ D.nx (σ.set i (some (.int (f a b)))) H1 := by
    funext y H1
    unfold ipI
    apply propext
    constructor
    · rintro ⟨a', b, e1, e2, q⟩
      cases e1
      exact ⟨b, e2, q⟩
    · rintro ⟨b, e2, q⟩
      exact ⟨a, b, rfl, e2, q⟩
  rw [e2]
  exact h
theorem w_brk (h : D.bk σ H) : tBreak D σ H := h
theorem w_cont (h : D.ct σ H) : tCont D σ H := h
theorem w_var (e : σ[i]? = some (some v)) (h : Q v H) : tVar i σ H Q := ⟨v, e, h⟩
theorem w_c (h : Q v H) : tC v σ H Q := h
theorem w_op {r : R2} (h : ta σ H fun x H1 => tb σ H1 fun y H2 => r x y H2 Q) : tOp r ta tb σ H Q := h
theorem w_un {r : V → Hp → VK → Prop} (h : ta σ H fun x H1 => r x H1 Q) : tUn r ta σ H Q := h
theorem w_cons {R : List V → Hp → Prop} (h : ta σ H fun x H1 => A σ H1 fun xs H2 => R (x :: xs) H2) : tCons ta A σ H R := h
theorem w_nil {R : List V → Hp → Prop} (h : R [] H) : tNil σ H R := h
theorem w_test {R : Bool → Hp → Prop} (h : te σ H fun x H' => ∃ k, x = .bl k ∧ R k H') : tTest te σ H R := h
theorem w_B {R : Bool → Hp → Prop} (h : te σ H fun x H' => ∃ k, x = .bl k ∧ R k H') : tB te σ H R := h
theorem w_tru {R : Bool → Hp → Prop} (h : te σ H fun x H' => ∃ k, TruV K x H' k ∧ R k H') : tTru K te σ H R := h
theorem w_and {R : Bool → Hp → Prop} (h : t σ H fun c H1 => if c = true then u σ H1 R else R false H1) : tAnd t u σ H R := h
theorem w_or {R : Bool → Hp → Prop} (h : t σ H fun c H1 => if c = true then R true H1 else u σ H1 R) : tOr t u σ H R := h
theorem w_not {R : Bool → Hp → Prop} (h : t σ H fun c H1 => R (!c) H1) : tNot t σ H R := h
theorem w_yes {R : Bool → Hp → Prop} (h : R true H) : tYes σ H R := h
theorem w_andV (h : ta σ H fun x H1 => ∃ c, x = .bl c ∧ if c = true then tb σ H1 Q else Q (.bl false) H1) : tAndV ta tb σ H Q := h
theorem w_orV (h : ta σ H fun x H1 => ∃ c, x = .bl c ∧ if c = true then Q (.bl true) H1 else tb σ H1 Q) : tOrV ta tb σ H Q := h
theorem w_notV (h : ta σ H fun x H1 => ∃ c, x = .bl c ∧ Q (.bl (!c)) H1) : tNotV ta σ H Q := h
theorem w_ifE (h : t σ H fun c H1 => if c = true then ta σ H1 Q else tb σ H1 Q) : tIf t ta tb σ H Q := h
theorem w_cl {sp : Sp} {E : XK} (h : A σ H fun vs H1 => sp vs H1 Q E) : tCl sp E A σ H Q := h
theorem w_cb {r : List V → Hp → VK → Prop} (h : A σ H fun vs H1 => r vs H1 Q) : tCB r A σ H Q := h
theorem w_tup (h : A σ H fun xs H1 => xs.length ≤ 100000 ∧ ∀ p H', H1 p = none → Ex H1 H' → H' p = some (.tup xs) → Q (.ref p) H') : tTupN A σ H Q := h
theorem w_lst (h : A σ H fun xs H1 => xs.length ≤ 100000 ∧ ∀ p H', H1 p = none → Ex H1 H' → H' p = some (.lst xs) → Q (.ref p) H') : tLstN A σ H Q := h
theorem w_sl {r : V → Option Int → Option Int → Hp → VK → Prop} {tl th : TO} (h : te σ H fun x H1 => tl σ H1 fun l H2 => th σ H2 fun u H3 => r x l u H3 Q) : L2.tSl r te tl th σ H Q := h
theorem w_noPart {R : Option Int → Hp → Prop} (h : R none H) : tNoPart σ H R := h
theorem w_part {R : Option Int → Hp → Prop} (h : te σ H fun x H1 => ∃ i, x = .int i ∧ R (some i) H1) : tPart te σ H R := h
theorem w_m1 {r : V → List V → Hp → VK → Prop} (h : ta σ H fun x H1 => (∃ a, x = .str a) ∧ tb σ H1 fun y H2 => r x [y] H2 Q) : tM1 r ta tb σ H Q := h
theorem w_bm {T : String} {r : V → List V → Hp → VK → Prop} (h : ta σ H fun x H1 => tyV K T x H1 ∧ A σ H1 fun xs H2 => r x xs H2 Q) : tBM K T r ta A σ H Q := h
theorem w_chain {r r' : R2} (h : ta σ H fun x H1 => tb σ H1 fun y H2 => r x y H2 fun z H3 => ∃ k, z = .bl k ∧ (if k = true then tc σ H3 fun w' H4 => r' y w' H4 Q else Q (.bl false) H3)) : tChain r r' ta tb tc σ H Q := h
theorem w_fld {C a dx : Addr} {f : Str} {fs : List (Str × V)} (h : ta σ H fun x H1 => ∃ a C dx fs v, x = .ref a ∧ H1 a = some (.ins C dx fs) ∧ Cls K C ∧ NoAttr K C f ∧ fs.lookup f = some v ∧ Q v H1) : tFld K ta f σ H Q := h
/-! by values -/
theorem v_I0 {g : Int → Int → V} {a b : Int} (h : Q (g a b) H) : rI0 g (.int a) (.int b) H Q := ⟨a, b, rfl, rfl, h⟩
theorem v_I {C : Int → Int → Prop} {g : Int → Int → V} {a b : Int} (hc : C a b) (h : Q (g a b) H) : rI C g (.int a) (.int b) H Q := ⟨a, b, rfl, rfl, hc, h⟩
theorem v_U {g : Int → V} {a : Int} (h : Q (g a) H) : rU g (.int a) H Q := ⟨a, rfl, h⟩
theorem v_mod {a b : Int} (hc : 0 < b) (h : Q (.int (a % b)) H) : rMod (.int a) (.int b) H Q := ⟨a, b, rfl, rfl, hc, h⟩
theorem v_mulS {a b : Int} (ha : -(2 ^ 64) < a ∧ a < 2 ^ 64) (hb : -(2 ^ 64) < b ∧ b < 2 ^ 64) (h : Q (.int (a * b)) H) : rMulW (.int a) (.int b) H Q :=
  ⟨a, b, rfl, rfl, wide_mul (a := 64) (b := 64) (by omega) (by omega) (by decide) (by decide) (by decide), h⟩
theorem v_divS {a b : Int} (hb : 0 < b ∧ b < 2 ^ 64) (h : Q (.int (a / b)) H) : rDivW (.int a) (.int b) H Q :=
  ⟨a, b, rfl, rfl, wide_div (b := 64) hb.1 (by omega) (by decide) (by decide), h⟩
theorem v_addS {a b : Str} (hl : a.length + b.length ≤ 100000) (h : Q (.str (a ++ b)) H) : rAddS (.str a) (.str b) H Q := ⟨a, b, rfl, rfl, Evl.sz_of hl, h⟩
theorem v_and1 {n : Nat} (h : Q (.int ((n % 2 : Nat) : Int)) H) : rAnd1 (.int (n : Int)) (.int 1) H Q := ⟨n, rfl, rfl, h⟩
theorem v_shr {n k : Nat} (h : Q (.int ((n / 2 ^ k : Nat) : Int)) H) : rShr (.int (n : Int)) (.int (k : Int)) H Q := ⟨n, k, rfl, rfl, h⟩
theorem v_shl {n k : Nat} (hn : n < 2 ^ 200) (hk : k ≤ 1000) (h : Q (.int ((n * 2 ^ k : Nat) : Int)) H) : rShl (.int (n : Int)) (.int (k : Int)) H Q := ⟨n, k, rfl, rfl, hn, hk, h⟩
theorem v_shl1 {k : Nat} (hk : k ≤ 1000) (h : Q (.int ((2 ^ k : Nat) : Int)) H) : rShl (.int 1) (.int (k : Int)) H Q := by
  refine ⟨1, k, rfl, rfl, by decide, hk, ?_⟩
  rw [Nat.one_mul]
  exact h
theorem v_eqI {a b : Int} (h : Q (.bl (decide (a = b))) H) : rEq (.int a) (.int b) H Q := by
  refine ⟨rfl, ?_⟩
  have e : decide (V.int a = V.int b) = decide (a = b) := by simp
  rw [e]
  exact h
theorem v_neI {a b : Int} (h : Q (.bl (!decide (a = b))) H) : rNe (.int a) (.int b) H Q := by
  refine ⟨rfl, ?_⟩
  have e : decide (V.int a = V.int b) = decide (a = b) := by simp
  rw [e]
  exact h
theorem v_eqS {a b : Str} (h : Q (.bl (decide (a = b))) H) : rEq (.str a) (.str b) H Q := by
  refine ⟨rfl, ?_⟩
  have e : decide (V.str a = V.str b) = decide (a = b) := by simp
  rw [e]
  exact h
theorem v_neS {a b : Str} (h : Q (.bl (!decide (a = b))) H) : rNe (.str a) (.str b) H Q := by
  refine ⟨rfl, ?_⟩
  have e : decide (V.str a = V.str b) = decide (a = b) := by simp
  rw [e]
  exact h
theorem v_eqB {a b : Bool} (h : Q (.bl (decide (a = b))) H) : rEq (.bl a) (.bl b) H Q := by
  refine ⟨rfl, ?_⟩
  have e : decide (V.bl a = V.bl b) = decide (a = b) := by simp
  rw [e]
  exact h
theorem v_neB {a b : Bool} (h : Q (.bl (!decide (a = b))) H) : rNe (.bl a) (.bl b) H Q := by
  refine ⟨rfl, ?_⟩
  have e : decide (V.bl a = V.bl b) = decide (a = b) := by simp
  rw [e]
  exact h
theorem v_isN (h : Q (.bl (decide (v = .non))) H) : rIsN v .non H Q := ⟨rfl, h⟩
theorem v_notN (h : Q (.bl (!decide (v = .non))) H) : rNotN v .non H Q := ⟨rfl, h⟩
theorem v_inS {c : Nat} {z : Str} (h : Q (.bl (decide (c ∈ z.cps.toList))) H) : rInS (.str ⟨#[c]⟩) (.str z) H Q := ⟨c, z, rfl, rfl, h⟩
theorem v_notInS {c : Nat} {z : Str} (h : Q (.bl (!decide (c ∈ z.cps.toList))) H) : rNotInS (.str ⟨#[c]⟩) (.str z) H Q := ⟨c, z, rfl, rfl, h⟩
theorem v_lenS {z : Str} (hl : z.length ≤ 100000) (h : Q (.int z.length) H) : rLenS [.str z] H Q := ⟨z, rfl, Evl.sz_of hl, h⟩
theorem v_lenL {p : Addr} {ys : List V} (hs : SqL K H p ys) (h : Q (.int ys.length) H) : rLenQ K [.ref p] H Q := ⟨p, ys, rfl, .inl hs, h⟩
theorem v_lenT {p : Addr} {ys : List V} (hs : SqT K H p ys) (h : Q (.int ys.length) H) : rLenQ K [.ref p] H Q := ⟨p, ys, rfl, .inr hs, h⟩
theorem v_int {a : Int} (h : Q (.int a) H) : rInt [.int a] H Q := ⟨a, rfl, h⟩
theorem v_intS {a : Str} {n : Int} (e : PySem.intText? a = some n) (hl : a.length ≤ 640) (h : Q (.int n) H) : rIntS [.str a] H Q := ⟨a, n, rfl, e, hl, h⟩
theorem v_str {a : Int} (hl : a.natAbs.log2 < 1920) (h : Q (.str (toString a)) H) : rStr [.int a] H Q := ⟨a, rfl, hl, h⟩
theorem v_min2 {a b : Int} (h : Q (.int (if b < a then b else a)) H) : rMin2 [.int a, .int b] H Q := ⟨a, b, rfl, h⟩
theorem v_max2 {a b : Int} (h : Q (.int (if b > a then b else a)) H) : rMax2 [.int a, .int b] H Q := ⟨a, b, rfl, h⟩
theorem v_ixL {p : Addr} {ys : List V} {a : Int} (hs : SqL K H p ys) (e : atI ys a = some v) (h : Q v H) : rIxL K (.ref p) (.int a) H Q := ⟨p, ys, a, v, rfl, rfl, hs, e, h⟩
theorem v_ixT {p : Addr} {ys : List V} {a : Int} (hs : SqT K H p ys) (e : atI ys a = some v) (h : Q v H) : rIxT K (.ref p) (.int a) H Q := ⟨p, ys, a, v, rfl, rfl, hs, e, h⟩
theorem v_ixS {z : Str} {a : Int} {c : Nat} (hl : z.length ≤ 100000) (e : atI z.cps.toList a = some c) (h : Q (.str ⟨#[c]⟩) H) : rIxS (.str z) (.int a) H Q := ⟨z, a, c, rfl, rfl, Evl.sz_of hl, e, h⟩
theorem v_slS {z : Str} {lo hi : Option Int} (hl : z.length ≤ 100000) (h : Q (.str (cutS z lo hi)) H) : rSlS (.str z) lo hi H Q := ⟨z, rfl, Evl.sz_of hl, h⟩
theorem v_bl {b : Bool} {R : Bool → Prop} (h : R b) : ∃ k, V.bl b = V.bl k ∧ R k := ⟨b, rfl, h⟩
theorem v_in {a : Int} {R : Int → Prop} (h : R a) : ∃ k, V.int a = V.int k ∧ R k := ⟨a, rfl, h⟩
theorem v_st {z : Str} {B : Prop} (h : B) : (∃ a, V.str z = V.str a) ∧ B := ⟨⟨z, rfl⟩, h⟩
theorem v_two {R : V → V → Prop} (h : R v w) : ∃ a b, [v, w] = [a, b] ∧ R a b := ⟨v, w, rfl, h⟩
end
/-- a new object: the heap behind it -/
@[elab_as_elim] theorem g_new {p : Addr} {H : Hp} {o : HO} {G : Hp → Prop} (hp : H p = none) (h : ∀ H', Ex H H' → H' p = some o → G H') : G (upd H p o) := h _ (ex_new hp) upd_same
/-- all but the object at r stays -/
def Exc (r : Addr) (H H' : Hp) : Prop := ∀ a o, a ≠ r → H a = some o → H' a = some o
theorem Ex.exc {r : Addr} {H H' : Hp} (e : Ex H H') : Exc r H H' := fun a o _ h => e a o h
theorem exc_refl {r : Addr} {H : Hp} : Exc r H H := fun _ _ _ h => h
theorem Exc.trans {r : Addr} {H H1 H2 : Hp} (a : Exc r H H1) (b : Exc r H1 H2) : Exc r H H2 := fun x o n h => b x o n (a x o n h)
theorem Exc.ex {r : Addr} {H0 H H' : Hp} (b : Exc r H H') (a : Ex H0 H) (n : H0 r = none) : Ex H0 H' := fun x o h => b x o (ne_of_none h n) (a x o h)
/-- an object is written -/
@[elab_as_elim] theorem g_put {r : Addr} {H : Hp} {o : HO} {G : Hp → Prop} (h : ∀ H', Exc r H H' → H' r = some o → G H') : G (upd H r o) := h _ (fun a u n e => by rw [upd_ne n]; exact e) upd_same
/-! facts carried to a later heap -/
theorem up_o {H H' : Hp} {a : Addr} {o : HO} (e : Ex H H') (h : H a = some o) : H' a = some o := e a o h
theorem up_l {K : PySem.W.Frag} {H H' : Hp} {a : Addr} {xs : List V} (e : Ex H H') (h : SqL K H a xs) : SqL K H' a xs := Evl.ex_l e h
theorem up_t {K : PySem.W.Frag} {H H' : Hp} {a : Addr} {xs : List V} (e : Ex H H') (h : SqT K H a xs) : SqT K H' a xs := Evl.ex_t e h
theorem st_of {K : PySem.W.Frag} {H : Hp} {a : Addr} {xs : List V} (h : H a = some (.tup xs)) : SqT K H a xs := Evl.st_of h
theorem sl_of {K : PySem.W.Frag} {H : Hp} {a : Addr} {xs : List V} (h : H a = some (.lst xs)) : SqL K H a xs := Evl.sq_of h
mutual
theorem up_d {K : PySem.W.Frag} {H H' : Hp} (e : Ex H H') : ∀ (d : PyData) (v : V), Dp K H v d → Dp K H' v d
  | .none, _, h => by cases h; exact .non
  | .bool b, _, h => by cases h; exact .bl b
  | .int i, _, h => by cases h; exact .int i
  | .str x, _, h => by cases h; exact .str x
  | .list ds, _, h => by
    cases h with
    | lst a b => exact .lst (up_l e a) (up_ds e ds _ b)
  | .tuple ds, _, h => by
    cases h with
    | tup a b => exact .tup (up_t e a) (up_ds e ds _ b)
  | .dict _, _, h => by cases h
theorem up_ds {K : PySem.W.Frag} {H H' : Hp} (e : Ex H H') : ∀ (ds : List PyData) (vs : List V), DpAll K H vs ds → DpAll K H' vs ds
  | [], _, h => by cases h; exact .nil
  | d :: ds, _, h => by
    cases h with
    | cons a b => exact .cons (up_d e d _ a) (up_ds e ds _ b)
end
theorem iteT' {A B : Prop} (h : A) : if true = true then A else B := by rw [if_pos rfl]; exact h
theorem iteF' {A B : Prop} (h : B) : if false = true then A else B := by rw [if_neg Bool.false_ne_true]; exact h
theorem w_ite {b : Bool} {A B : Prop} (h1 : b = true → A) (h2 : b = false → B) : if b = true then A else B := by
  cases b with
  | true => exact iteT' (h1 rfl)
  | false => exact iteF' (h2 rfl)
theorem w_dec {p : Prop} [Decidable p] {A B : Prop} (h1 : p → A) (h2 : ¬ p → B) : if decide p = true then A else B := by
  by_cases h : p
  · rw [if_pos (decide_eq_true h)]
    exact h1 h
  · rw [if_neg (by simp [h])]
    exact h2 h
theorem w_ndec {p : Prop} [Decidable p] {A B : Prop} (h1 : ¬ p → A) (h2 : p → B) : if (!decide p) = true then A else B := by
  by_cases h : p
  · rw [if_neg (by simp [h])]
    exact h2 h
  · rw [if_pos (by simp [h])]
    exact h1 h
end LW
/-! Values of any kind, isinstance; what the checks of plain values promise. -/
namespace LW
open PySem PySem.Spec PyProof.Rows L2
def tyNames : List String := ["NoneType", "bool", "int", "str", "list", "tuple", "dict"]
def isK (n T : String) : Bool := n == T || (n == "bool" && T == "int")
theorem isK_ok : ∀ n ∈ tyNames, ∀ T ∈ tyNames, kitB n T = some (isK n T) := by decide +kernel
/-- x is of the built-in type n -/
def Kn (K : PySem.W.Frag) (H : Hp) (x : V) (n : String) : Prop := TyX K H x (.type n) ∧ n ∈ tyNames
section
variable {K : PySem.W.Frag} {H H' : Hp} {x : V} {n T : String} {Q : VK}
theorem v_isi (h : Kn K H x n) (hT : T ∈ tyNames) (q : Q (.bl (isK n T)) H) : rIsi K [x, .ty T] H Q := ⟨x, .ty T, _, _, _, rfl, .ty T, h.1, kit_ty (isK_ok n h.2 T hT), q⟩
theorem v_isiT {tp : Addr} {T U : String} (h : Kn K H x n) (hT : T ∈ tyNames) (hU : U ∈ tyNames) (ht : H tp = some (.tup [.ty T, .ty U])) (q : Q (.bl (isK n T || isK n U)) H) : rIsiT K [x, .ref tp] H Q :=
  ⟨x, tp, _, _, _, _, rfl, ht, .cons (.ty T) (.cons (.ty U) .nil), h.1, kitAny_cons (kit_ty (isK_ok n h.2 T hT)) (fun e => kitAny_cons (r := isK n T || isK n U) (kit_ty (isK_ok n h.2 U hU)) (fun e2 => by rw [e, e2]; exact kitAny_nil) fun e2 => by rw [e2, Bool.or_true]) fun e => by rw [e, Bool.true_or], q⟩
theorem kn_non : Kn K H .non "NoneType" := ⟨.base .non, by decide⟩
theorem kn_bl {b : Bool} : Kn K H (.bl b) "bool" := ⟨.base (.bl b), by decide⟩
theorem kn_int {i : Int} : Kn K H (.int i) "int" := ⟨.base (.int i), by decide⟩
theorem kn_str {z : Str} : Kn K H (.str z) "str" := ⟨.base (.str z), by decide⟩
theorem kn_lst {a : Addr} {xs : List V} (h : H a = some (.lst xs)) : Kn K H (.ref a) "list" := ⟨.base (.lst h), by decide⟩
theorem kn_tup {a : Addr} {xs : List V} (h : H a = some (.tup xs)) : Kn K H (.ref a) "tuple" := ⟨.base (.tup h), by decide⟩
theorem kn_dK {a : Addr} {xs : List (Key × V)} (h : H a = some (.dK xs)) : Kn K H (.ref a) "dict" := ⟨.base (.dK h), by decide⟩
theorem kn_int_inv (h : Kn K H x "int") : ∃ i, x = .int i := by
  obtain ⟨h, _⟩ := h
  generalize e : Value.type "int" = t at h
  cases h with
  | base b => cases b <;> first | exact ⟨_, rfl⟩ | exact absurd (Value.type.inj e) (by decide) | cases e
  | _ => exact absurd (Value.type.inj e) (by decide)
theorem kn_str_inv (h : Kn K H x "str") : ∃ z, x = .str z := by
  obtain ⟨h, _⟩ := h
  generalize e : Value.type "str" = t at h
  cases h with
  | base b => cases b <;> first | exact ⟨_, rfl⟩ | exact absurd (Value.type.inj e) (by decide) | cases e
  | _ => exact absurd (Value.type.inj e) (by decide)
theorem kn_of_int {i : Int} (h : Kn K H (.int i) n) : n = "int" := by
  obtain ⟨h, _⟩ := h
  cases h with
  | base b => cases b; rfl
theorem kn_of_str {i : Str} (h : Kn K H (.str i) n) : n = "str" := by
  obtain ⟨h, _⟩ := h
  cases h with
  | base b => cases b; rfl
theorem up_k (e : Ex H H') (h : Kn K H x n) : Kn K H' x n := by
  obtain ⟨h, m⟩ := h
  refine ⟨?_, m⟩
  cases h with
  | base b =>
    cases b with
    | non => exact .base .non
    | bl b => exact .base (.bl b)
    | int b => exact .base (.int b)
    | str b => exact .base (.str b)
    | flt b => exact .base (.flt b)
    | lst q => exact .base (.lst (e _ _ q))
    | frz q => exact .base (.frz (e _ _ q))
    | tup q => exact .base (.tup (e _ _ q))
    | dK q => exact .base (.dK (e _ _ q))
    | dT q => exact .base (.dT (e _ _ q))
  | byt b => exact .byt b
  | set q => exact .set (e _ _ q)
  | kList a b => exact .kList a b
  | kTuple a b => exact .kTuple a b
  | kDict a b => exact .kDict a b
  | fTuple q => exact .fTuple (e _ _ q)
  | fDict q => exact .fDict (e _ _ q)
end
/-- x is a whole number (no bool) within these bounds -/
def within (x : V) (lo hi : Int) : Bool := match x with
  | .int i => decide (lo ≤ i) && decide (i ≤ hi)
  | _ => false
def isBit (c : Nat) : Bool := decide (c = 48) || decide (c = 49)
/-- x is a text of at most m bits -/
def bits (x : V) (m : Int) : Bool := match x with
  | .str z => decide ((z.length : Int) ≤ m) && z.cps.toList.all isBit
  | _ => false
/-- what is wished of an exception of the class c that keeps v -/
def Rz (K : PySem.W.Frag) (c : Str) (v : V) (H : Hp) (E : XK) : Prop := ∀ d H', H d = none → Ex H H' → H' d = some (.xd [("value", v)]) → E (.ref (He.ga K c)) (some d) H'
def spIsInteger (K : PySem.W.Frag) : Sp := fun vs H Q _ => ∃ (x : V) (n : String), vs = [x] ∧ Kn K H x n ∧ Q (.bl (n == "int")) H
def spWithin (K : PySem.W.Frag) : Sp := fun vs H Q _ => ∃ (x : V) (n : String) (lo hi : Int), vs = [x, .int lo, .int hi] ∧ Kn K H x n ∧ Q (.bl (within x lo hi)) H
def spBits (K : PySem.W.Frag) : Sp := fun vs H Q _ => ∃ (x : V) (n : String) (m : Int), vs = [x, .int m] ∧ Kn K H x n ∧ (∀ z, x = .str z → z.length ≤ 100000) ∧ ∀ H', Ex H H' → Q (.bl (bits x m)) H'
def spNeedWidth (K : PySem.W.Frag) : Sp := fun vs H Q E => ∃ (x : V) (n : String), vs = [x] ∧ Kn K H x n ∧ (within x 1 64 = true → Q .non H) ∧ (within x 1 64 = false → Rz K "BadWidth" x H E)
end LW
/-! Comprehensions and loops told by a function; texts as lists of codes. -/
namespace LW
open PySem PySem.Spec PyProof.Rows L2 SX
section
variable {J : It} {n : Nat} {G : Hp → Prop} {Y : Nat → Hp → V → Hp → Prop}
/-- [e for ..]: turn i gives f i, what stood stands -/
theorem lc_map (wk : Walk J n G Y) {g : TG} {te : TE} {vs : List Nat} {σ : L2.St} {H1 : Hp} {D : Addr} {Qd : Hp → Prop} (f : Nat → V) (hn : n ≤ 100000) (hD : H1 D = none) (hG : ∀ H, Ex H1 H → G H)
    (hs : ∀ i x H H', i < n → Ex H1 H → Y i H x H' → ∀ R : VK, (∀ H3, Ex H H3 → R (f i) H3) → g x (wipe σ vs) H' fun σ2 H2 => wipe σ2 vs = wipe σ vs ∧ te σ2 H2 R)
    (hd : ∀ H, Ex H1 H → H D = some (.lst ((List.range n).map f)) → Qd H) :
    ∃ W : Nat → Nat → Hp → Prop, (∃ m, W 0 m (upd H1 D (.lst []))) ∧ ∀ i m H, W i m H →
      (J.stop i H ∧ Qd H) ∨ (J.go i H ∧ ∃ Nx : Hp → Prop, (∀ H', Nx H' → ∃ m', m' < m ∧ W (i + 1) m' H') ∧ ∀ x H', J.yld i H x H' → g x (wipe σ vs) H' fun σ2 H2 => wipe σ2 vs = wipe σ vs ∧ tYes σ2 H2 fun b H3 =>
        if b = true then te σ2 H3 fun y H4 => ∃ acc, H4 D = some (.lst acc) ∧ acc.length < sizeLine ∧ Nx (upd H4 D (.lst (acc ++ [y]))) else Nx H3) := by
  refine lc_it wk (fun i H => Ex H1 H ∧ H D = some (.lst ((List.range i).map f))) ⟨ex_new hD, upd_same⟩ (fun i H _ p => hG H p.1) (fun i x H H' hi p y => ?_) fun H p => hd H p.1 p.2
  obtain ⟨e, hl⟩ := p
  refine hs i x H H' hi e y _ fun H3 e3 => ?_
  refine ⟨_, e3 D _ hl, by rw [List.length_map, List.length_range]; exact Evl.sz_lt (by omega), Evl.Ex.mut (Evl.Ex.trans e e3) hD, ?_⟩
  rw [upd_same, List.range_succ, List.map_append] <;> rfl
/-- [e for .. if t]: turn i gives f i where c i holds -/
theorem lc_filter (wk : Walk J n G Y) {g : TG} {tt : TT} {te : TE} {vs : List Nat} {σ : L2.St} {H1 : Hp} {D : Addr} {Qd : Hp → Prop} (c : Nat → Bool) (f : Nat → V) (hn : n ≤ 100000) (hD : H1 D = none) (hG : ∀ H, Ex H1 H → G H)
    (hs : ∀ i x H H', i < n → Ex H1 H → Y i H x H' → ∀ R : Bool → VK, (∀ H3, Ex H H3 → c i = true → R true (f i) H3) → (∀ H3, Ex H H3 → c i = false → R false .non H3) →
      g x (wipe σ vs) H' fun σ2 H2 => wipe σ2 vs = wipe σ vs ∧ tt σ2 H2 fun b H3 => if b = true then te σ2 H3 (R true) else R false .non H3)
    (hd : ∀ H, Ex H1 H → H D = some (.lst (((List.range n).filter c).map f)) → Qd H) :
    ∃ W : Nat → Nat → Hp → Prop, (∃ m, W 0 m (upd H1 D (.lst []))) ∧ ∀ i m H, W i m H →
      (J.stop i H ∧ Qd H) ∨ (J.go i H ∧ ∃ Nx : Hp → Prop, (∀ H', Nx H' → ∃ m', m' < m ∧ W (i + 1) m' H') ∧ ∀ x H', J.yld i H x H' → g x (wipe σ vs) H' fun σ2 H2 => wipe σ2 vs = wipe σ vs ∧ tt σ2 H2 fun b H3 =>
        if b = true then te σ2 H3 fun y H4 => ∃ acc, H4 D = some (.lst acc) ∧ acc.length < sizeLine ∧ Nx (upd H4 D (.lst (acc ++ [y]))) else Nx H3) := by
  refine lc_it wk (fun i H => Ex H1 H ∧ H D = some (.lst (((List.range i).filter c).map f))) ⟨ex_new hD, upd_same⟩ (fun i H _ p => hG H p.1) (fun i x H H' hi p y => ?_) fun H p => hd H p.1 p.2
  obtain ⟨e, hl⟩ := p
  have key := hs i x H H' hi e y (fun b y H4 => if b = true then ∃ acc, H4 D = some (.lst acc) ∧ acc.length < sizeLine ∧ (Ex H1 (upd H4 D (.lst (acc ++ [y]))) ∧ (upd H4 D (.lst (acc ++ [y]))) D = some (.lst (((List.range (i + 1)).filter c).map f)))
      else (Ex H1 H4 ∧ H4 D = some (.lst (((List.range (i + 1)).filter c).map f)))) (fun H3 e3 hc => ?_) (fun H3 e3 hc => ?_)
  · exact key
  · refine iteT' ⟨_, e3 D _ hl, ?_, Evl.Ex.mut (Evl.Ex.trans e e3) hD, ?_⟩
    · have := List.length_filter_le c (List.range i)
      rw [List.length_map]
      rw [List.length_range] at this
      exact Evl.sz_lt (by omega)
    · rw [upd_same, List.range_succ, List.filter_append, List.map_append, List.filter_cons, if_pos hc] <;> rfl
  · refine iteF' ⟨Evl.Ex.trans e e3, ?_⟩
    rw [List.range_succ, List.filter_append, List.map_append, List.filter_cons, if_neg (by rw [hc]; decide)]
    show _ = some (HO.lst (_ ++ []))
    rw [List.append_nil]
    exact e3 D _ hl
end
theorem w_rng1 {A : TA} {σ : L2.St} {H : Hp} {R : It → Hp → Prop} (h : A σ H fun vs H1 => ∃ j : Int, vs = [.int j] ∧ -(2 ^ 62) ≤ j ∧ j < 2 ^ 62 ∧ R (Itr 0 j.toNat) H1) : iRng1 A σ H R := h
theorem w_rng2 {A : TA} {σ : L2.St} {H : Hp} {R : It → Hp → Prop} (h : A σ H fun vs H1 => ∃ i j : Int, vs = [.int i, .int j] ∧ (-(2 ^ 62) ≤ i ∧ i < 2 ^ 62 ∧ -(2 ^ 62) ≤ j ∧ j < 2 ^ 62) ∧ R (Itr i (j - i).toNat) H1) : iRng2 A σ H R := h
theorem w_rng3 {A : TA} {σ : L2.St} {H : Hp} {R : It → Hp → Prop} (h : A σ H fun vs H1 => ∃ (i j c : Int) (n : Nat), vs = [.int i, .int j, .int c] ∧ RgC i j c n ∧ R (Itc i c n) H1) : iRng3 A σ H R := h
theorem w_istr {te : TE} {σ : L2.St} {H : Hp} {R : It → Hp → Prop} (h : te σ H fun v H1 => ∃ x, v = .str x ∧ R (Its x) H1) : iStr te σ H R := h
theorem w_ilist {K : PySem.W.Frag} {te : TE} {σ : L2.St} {H : Hp} {R : It → Hp → Prop} (h : te σ H fun x H1 => ∃ a, x = .ref a ∧ (∃ xs, SqL K H1 a xs) ∧ R (Itl K a) H1) : iList K te σ H R := h
theorem w_itup {K : PySem.W.Frag} {te : TE} {σ : L2.St} {H : Hp} {R : It → Hp → Prop} (h : te σ H fun x H1 => ∃ a, x = .ref a ∧ (∃ xs, SqT K H1 a xs) ∧ R (Itt K a) H1) : iTup K te σ H R := h
theorem w_izip {K : PySem.W.Frag} {A : TA} {σ : L2.St} {H : Hp} {R : It → Hp → Prop} (h : A σ H fun vs H1 => ∃ a b xs ys, vs = [.ref a, .ref b] ∧ ((SqL K H1 a xs ∧ SqL K H1 b ys ∧ R (Itz K a b) H1) ∨ (SqT K H1 a xs ∧ SqT K H1 b ys ∧ R (RZ.ItzT K a b) H1))) : RZ.iZipA K A σ H R := h
theorem w_for {wi : TI} {g : TG} {tb : TS} {D : Ends} {σ : L2.St} {H : Hp} (h : wi σ H fun J H1 => ∃ W : Nat → Nat → L2.St → Hp → Prop, (∃ m, W 0 m σ H1) ∧ ∀ i m σ H, W i m σ H →
      (J.stop i H ∧ D.nx σ H) ∨ (J.go i H ∧ ∃ N : L2.St → Hp → Prop, (∀ σ' H', N σ' H' → ∃ m', m' < m ∧ W (i + 1) m' σ' H') ∧ ∀ x H', J.yld i H x H' → g x σ H' fun σ2 H2 => tb { D with nx := N, ct := N, bk := D.nx } σ2 H2)) : tFor wi g tb D σ H := h
theorem w_lc {wi : TI} {g : TG} {tt : TT} {te : TE} {vs : List Nat} {σ : L2.St} {H : Hp} {Q : VK} (h : wi σ H fun J H1 => ∀ D, H1 D = none → ∃ W : Nat → Nat → Hp → Prop, (∃ m, W 0 m (upd H1 D (.lst []))) ∧ ∀ i m H, W i m H →
      (J.stop i H ∧ Q (.ref D) H) ∨ (J.go i H ∧ ∃ Nx : Hp → Prop, (∀ H', Nx H' → ∃ m', m' < m ∧ W (i + 1) m' H') ∧ ∀ x H', J.yld i H x H' → g x (wipe σ vs) H' fun σ2 H2 => wipe σ2 vs = wipe σ vs ∧ tt σ2 H2 fun b H3 =>
        if b = true then te σ2 H3 fun y H4 => ∃ acc, H4 D = some (.lst acc) ∧ acc.length < sizeLine ∧ Nx (upd H4 D (.lst (acc ++ [y]))) else Nx H3)) : tLc wi g tt te vs σ H Q := h
theorem w_gname {i : Nat} {v : V} {σ : L2.St} {H : Hp} {Q : L2.St → Hp → Prop} (h : Q (σ.set i (some v)) H) : gName i v σ H Q := h
theorem w_gtup {K : PySem.W.Frag} {n : Nat} {t : TGs} {a : Addr} {xs : List V} {σ : L2.St} {H : Hp} {Q : L2.St → Hp → Prop} (hs : SqT K H a xs) (hn : xs.length = n) (h : t xs σ H Q) : gTup K n t (.ref a) σ H Q := ⟨a, xs, rfl, hs, hn, h⟩
theorem w_gcons {t : TG} {u : TGs} {v : V} {r : List V} {σ : L2.St} {H : Hp} {Q : L2.St → Hp → Prop} (h : t v σ H fun σ' H' => u r σ' H' Q) : gCons t u (v :: r) σ H Q := ⟨v, r, rfl, h⟩
theorem w_gnil {σ : L2.St} {H : Hp} {Q : L2.St → Hp → Prop} (h : Q σ H) : gNil [] σ H Q := ⟨rfl, h⟩
theorem w_gsub {to ti : TE} {t : TSet} {v : V} {σ : L2.St} {H : Hp} {Q : L2.St → Hp → Prop} (h : to σ H fun o H1 => ti σ H1 fun i H2 => t o i v H2 fun H3 => Q σ H3) : gSub to ti t v σ H Q := h
theorem v_setL {l : Addr} {xs : List V} {k : Int} {j : Nat} {v : V} {H : Hp} {Q : Hp → Prop} (hl : H l = some (.lst xs)) (hj : ixN xs.length k = some j) (h : Q (upd H l (.lst (xs.set j v)))) : rSetL (.ref l) (.int k) v H Q := ⟨l, xs, k, j, rfl, rfl, hl, hj, h⟩
theorem v_app {l : Addr} {xs : List V} {v : V} {H : Hp} {Q : VK} (hl : H l = some (.lst xs)) (hn : xs.length < 100000) (h : Q .non (upd H l (.lst (xs ++ [v])))) : rAppend (.ref l) [v] H Q := ⟨l, xs, v, rfl, rfl, hl, Evl.sz_lt hn, h⟩
theorem ty_list {K : PySem.W.Frag} {l : Addr} {xs : List V} {H : Hp} (hl : H l = some (.lst xs)) : tyV K "list" (.ref l) H := .inl ⟨rfl, xs, sl_of hl⟩
theorem v_all {K : PySem.W.Frag} {H : Hp} {a : Addr} {bs : List Bool} {Q : VK} (h : SqL K H a (bs.map V.bl)) (q : Q (.bl (bs.all id)) H) : rAll K [.ref a] H Q := ⟨a, bs, rfl, h, q⟩
theorem v_jn {K : PySem.W.Frag} {H : Hp} {a : Str} {p : Addr} {ys : List Str} {Q : VK} (h : SqL K H p (ys.map V.str)) (hz : (ys.map (·.length)).sum + ys.length * a.length ≤ 100000) (q : Q (.str (Txt.join a ys)) H) : rJn K (.str a) [.ref p] H Q :=
  ⟨a, p, ys, rfl, rfl, .inl h, by omega, q⟩
theorem v_tupL {K : PySem.W.Frag} {H : Hp} {p : Addr} {ys : List V} {Q : VK} (h : SqL K H p ys) (q : ∀ l H', H l = none → Ex H H' → H' l = some (.tup ys) → Q (.ref l) H') : rTupOf K [.ref p] H Q :=
  ⟨p, ys, rfl, .inl ⟨h, fun l hl => q l _ hl (ex_new hl) upd_same⟩⟩
theorem rgc_down {w : Nat} (hw : w ≤ 100000) : RgC ((w : Int) - 1) (-1) (-1) w := by
  have h := RgC.neg (i := (w : Int) - 1) (j := -1) (by omega) (by omega) (by omega) (by omega)
  have e : ((w : Int) - 1 - -1).toNat = w := by omega
  rw [e] at h
  exact h

theorem isK_int : ∀ n ∈ tyNames, isK n "int" = true → (n == "int") = !isK n "bool" := by decide +kernel
theorem isK_str : ∀ n ∈ tyNames, isK n "str" = (n == "str") := by decide +kernel
theorem isK_tup : ∀ n ∈ tyNames, isK n "tuple" = (n == "tuple") := by decide +kernel
theorem isK_list : ∀ n ∈ tyNames, isK n "list" = (n == "list") := by decide +kernel
theorem isK_dict : ∀ n ∈ tyNames, isK n "dict" = (n == "dict") := by decide +kernel
theorem map_at {α : Type} (l : List Nat) (f : Nat → α) : (List.range l.length).map (fun i => f (l.getD i 0)) = l.map f := by
  apply List.ext_getElem
  · simp
  · intro i h1 h2
    simp at h1
    simp [h1]
theorem in01 (c : Nat) : decide (c ∈ ("01" : Str).cps.toList) = isBit c := by
  have e : ("01" : Str).cps.toList = [48, 49] := rfl
  rw [e]
  simp [isBit]
/-! ### texts as lists of codes -/
theorem str_S (z : Str) : z = S z.cps.toList := (S_tl z).symm
theorem S_cps (l : List Nat) : (S l).cps.toList = l := rfl
theorem S_len' (l : List Nat) : (S l).length = l.length := S_len l
/-- the signs joined by nothing -/
theorem joinL_one : ∀ l : List Nat, TL.joinL [] (l.map fun c => [c]) = l
  | [] => rfl
  | [c] => rfl
  | c :: d :: l => by
    have ih := joinL_one (d :: l)
    simp only [List.map_cons, TL.joinL] at ih ⊢
    rw [ih]
    rfl
theorem join_signs (l : List Nat) : Txt.join (S []) (l.map fun c => S [c]) = S l := by
  have e : (l.map fun c => S [c]) = (l.map fun c => [c]).map S := by rw [List.map_map]; rfl
  rw [e, join_S, joinL_one]
theorem signs_size : ∀ l : List Nat, ((l.map fun c => S [c]).map (·.length)).sum + (l.map fun c => S [c]).length * (S []).length = l.length
  | [] => rfl
  | c :: l => by
    have ih := signs_size l
    simp only [List.map_cons, List.sum_cons, List.length_cons] at ih ⊢
    have e1 : (S [c]).length = 1 := rfl
    have e2 : (S []).length = 0 := rfl
    rw [e1]
    rw [e2] at ih ⊢
    omega
theorem v_jnS {K : PySem.W.Frag} {H : Hp} {p : Addr} {l : List Nat} {Q : VK} (h : SqL K H p ((l.map fun c => S [c]).map V.str)) (hl : l.length ≤ 100000) (q : Q (.str (S l)) H) : rJn K (.str "") [.ref p] H Q := by
  have e : ("" : Str) = S [] := rfl
  rw [e]
  refine v_jn h (by rw [signs_size]; exact hl) ?_
  rw [join_signs]
  exact q
/-- a for over a walk, its ends told apart -/
theorem for_x {J : It} {n : Nat} {G : Hp → Prop} {Y : Nat → Hp → V → Hp → Prop} (w : Walk J n G Y) {g : TG} {tb : TS} {nx : L2.St → Hp → Prop} {rt : VK} {σ : L2.St} {H : Hp} (Pv : Nat → L2.St → Hp → Prop) (h0 : Pv 0 σ H) (hG : ∀ i σ H, i ≤ n → Pv i σ H → G H)
    (hs : ∀ i x σ H H', i < n → Pv i σ H → Y i H x H' → g x σ H' fun σ2 H2 => tb { nx := Pv (i + 1), rt := rt, ct := Pv (i + 1), bk := nx } σ2 H2) (hd : ∀ σ H, Pv n σ H → nx σ H) :
    ∃ W : Nat → Nat → L2.St → Hp → Prop, (∃ m, W 0 m σ H) ∧ ∀ i m σ H, W i m σ H →
      (J.stop i H ∧ nx σ H) ∨ (J.go i H ∧ ∃ N : L2.St → Hp → Prop, (∀ σ' H', N σ' H' → ∃ m', m' < m ∧ W (i + 1) m' σ' H') ∧ ∀ x H', J.yld i H x H' → g x σ H' fun σ2 H2 => tb { nx := N, rt := rt, ct := N, bk := nx } σ2 H2) :=
  for_it w (D := { nx := nx, rt := rt }) Pv h0 hG hs hd
/-- while: W with its measure -/
theorem w_while {c : TT} {tb : TS} {D : Ends} {σ : L2.St} {H : Hp} (W : Nat → L2.St → Hp → Prop) (m0 : Nat) (h0 : W m0 σ H)
    (hs : ∀ m σ H, W m σ H → c σ H fun b H1 => if b = true then ∃ N : L2.St → Hp → Prop, (∀ σ' H', N σ' H' → ∃ m', m' < m ∧ W m' σ' H') ∧ tb { nx := N, rt := D.rt, ct := N, bk := D.nx } σ H1 else D.nx σ H1) : tWhile c tb D σ H := ⟨W, ⟨m0, h0⟩, hs⟩
theorem v_N {m : Nat} {W : Nat → L2.St → Hp → Prop} {B : (L2.St → Hp → Prop) → Prop} (h : B (fun σ' H' => ∃ m', m' < m ∧ W m' σ' H')) : ∃ N : L2.St → Hp → Prop, (∀ σ' H', N σ' H' → ∃ m', m' < m ∧ W m' σ' H') ∧ B N := ⟨_, fun _ _ h => h, h⟩
end LW
/-! More rules: str * int, sorted of texts, zip of tuples, comprehensions by an invariant; what a law's draws promise. -/
namespace LW
open PySem PySem.Spec PyProof.Rows L2 SX

/-! ### one sign, many times -/
def rRep1 : R2 := fun x y H Q => ∃ (c k : Nat), x = .str (S [c]) ∧ y = .int (k : Int) ∧ k ≤ 100000 ∧ Q (.str (S (List.replicate k c))) H
theorem foldl_one (c : Nat) : ∀ (k : Nat) (a : Array Nat), ((List.replicate k (#[c] : Array Nat)).foldl (· ++ ·) a).toList = a.toList ++ List.replicate k c
  | 0, a => by simp
  | k + 1, a => by
    rw [List.replicate_succ, List.foldl_cons, foldl_one c k, List.replicate_succ]
    simp
theorem mul_one' (c k : Nat) : Txt.mul (S [c]) (k : Int) = S (List.replicate k c) := by
  unfold Txt.mul
  by_cases h1 : (k : Int) < 1
  · rw [if_pos h1]
    have : k = 0 := by omega
    subst this
    rfl
  · rw [if_neg h1]
    by_cases h2 : ((k : Int) == 1 || (S [c]).length == 0) = true
    · rw [if_pos h2]
      have h3 : (S [c]).length = 1 := rfl
      rw [h3] at h2
      have h4 : (k : Int) = 1 := by simpa using h2
      have : k = 1 := by omega
      subst this
      rfl
    · rw [if_neg h2, Int.toNat_natCast]
      have e : (S [c]).cps = #[c] := rfl
      rw [e]
      have h := foldl_one c k #[]
      unfold S
      congr 1
      rw [← Array.toList_inj, h]
      simp
theorem o_rep1 {X : Cx} : OpR X (binaryOp .Mult) rRep1 := by
  intro pins s σ H x y v u Q I rx ry h
  obtain ⟨c, k, rfl, rfl, hk, q⟩ := h
  obtain ⟨t, rfl⟩ := rx
  obtain ⟨t2, rfl⟩ := ry
  have hl : (S [c]).length = 1 := rfl
  refine SB.mul ⟨?_, fun h1 _ z => ?_, fun h1 _ => ?_⟩ fun t' k' => ?_
  · rw [Bool.or_eq_false_iff]
    exact ⟨decide_eq_false (by omega), decide_eq_false (by omega)⟩
  · rw [hl] at z
    have hk0 : (0 : Int) < k := by omega
    have h2 : (1 : Int) ≤ (2 ^ 63 - 1) / (k : Int) := by
      refine (Int.le_ediv_iff_mul_le hk0).mpr ?_
      omega
    omega
  · rw [hl, Int.toNat_natCast, Nat.one_mul]
    have : k ≤ sizeLine := Evl.sz_of hk
    unfold Builtin.Str.tooLong
    simpa using this
  · rw [mul_one']
    exact ⟨.str (S (List.replicate k c)), H, I.kept (t' := k') fun _ _ z => z, ⟨_, rfl⟩, q⟩

/-! ### sorted of texts, a list or a tuple, any number of them -/
section
open PySem.Spec
variable {prog : Program} {w : World} {A : Around} {E : Value → Shared → Prop} {s : Shared}
theorem collect_tup {l : Addr} {vs : List Value} {Q : List Value → Shared → Prop} (hl : s.heap.IsTuple l vs.toArray)
    (h : Q vs { s with heap := (s.heap.push (seqObj "list" #[] 0)).update s.heap.objs.size (Obj.mapSeq (· ++ vs.toArray)) }) (hsz : vs.length ≤ sizeLine) :
    wpAny (model prog w) A (collect (.ref l)) Q E s := by
  obtain ⟨o, ho, hc, n, hd⟩ := id hl
  unfold collect
  refine wpAny_bind (wpAny_runValue (codeAny_builtin entry_proto_collect' ?_))
  show wpAny _ _ (do again (.builtin "list.__iadd__" ⟨[← newList [], .ref l], []⟩)) _ _ s
  refine wpAny_bind (wpAny_newList (wpAny_pure ⟨Code.quiet_builtin _ (by decide +kernel), codeAny_builtin entry_list_iadd' ?_⟩))
  show wpAny _ _ (Builtin.List.listExtendWith (.ref s.heap.objs.size) (.ref l) (.ref s.heap.objs.size)) _ _ { s with heap := s.heap.push (seqObj "list" #[] 0) }
  unfold Builtin.List.listExtendWith
  have ho' : (s.heap.push (seqObj "list" #[] 0)).get? l = some o := Heap.get?_push_of_some _ ho
  refine wpAny_bind (wpAny_typeOf (T := "tuple") ⟨o, ho', hc⟩ ?_)
  have ht : (Value.type "tuple" == Value.type "tuple") = true := by rfl
  rw [if_pos (by rw [ht]; simp)]
  refine wpAny_bind (listItems_at ho' hd ?_)
  refine wpAny_bind (listItems_at (xs := #[]) (n := 0) (Heap.get?_push_size _ rfl) rfl ?_)
  rw [if_neg (by simp)]
  refine wpAny_bind (listUpdate_at (xs := #[]) (n := 0) (Heap.get?_push_size _ rfl) rfl ?_ (Nat.zero_le _) (by show (#[] ++ vs.toArray).size ≤ sizeLine + 1; simp only [Array.size_append, List.size_toArray, List.length_nil]; omega))
  refine wpAny_pure ?_
  show wpAny (model prog w) A (do
      let o ← load s.heap.objs.size
      match o.data with
      | .seq xs _ => pure xs.toList
      | _ => unsupported "internal:collect") Q E { s with heap := (s.heap.push (seqObj "list" #[] 0)).update s.heap.objs.size (Obj.mapSeq (· ++ vs.toArray)) }
  refine wpAny_bind (wpAny_load (get?_update_seq (Heap.get?_push_size _ rfl) _) ?_)
  show wpAny _ _ (pure ((#[] : Array Value) ++ vs.toArray).toList) Q E _
  rw [show ((#[] : Array Value) ++ vs.toArray).toList = vs by simp]
  exact wpAny_pure h
theorem sortedKT {κ : KeyKind} (hO : κ.OneLt) {l : Addr} {vs : List Value} {Q : Value → Shared → Prop} (hl : s.heap.IsTuple l vs.toArray) (h0 : KeysOf κ (pairsOf vs)) (hkk : ∀ v₁ v₂ rest, vs = v₁ :: v₂ :: rest → keyKind' (v₁ :: v₂ :: rest).toArray = pure oneType') (hL : vs.length ≤ sizeLine)
    (h : ∀ st' : SortSt, (arrOf st').Perm (pairsOf vs) → SortedToK κ (arrOf st') (pairsOf vs).size → Q (.ref (s.heap.objs.size + 1)) { s with heap := sortedAll s.heap vs ((arrOf st').map (·.2)) }) :
    wpAny (model prog w) A (call (.builtin "sorted") [.ref l]) Q E s := by
  refine Calls.call_function_entry kind_sorted plain_sorted entry_sorted (args_sorted1 _) ?_
  unfold Builtin.«sorted»
  refine wpAny_bind (m := checkCount "sorted" 1 1 _) (wpAny_pure ?_)
  refine wpAny_bind (collect_tup hl ?_ hL)
  refine wpAny_bind (wpAny_newList ?_)
  have hsz : ((s.heap.push (seqObj "list" #[] 0)).update s.heap.objs.size (Obj.mapSeq (· ++ vs.toArray))).objs.size = s.heap.objs.size + 1 := by
    rw [Heap.size_update, size_push']
  have hoL : (((s.heap.push (seqObj "list" #[] 0)).update s.heap.objs.size (Obj.mapSeq (· ++ vs.toArray))).push (seqObj "list" vs.toArray 0)).get? (s.heap.objs.size + 1) = some (seqObj "list" vs.toArray 0) := by
    rw [← hsz]; exact Heap.get?_push_size _ rfl
  show wpAny _ _ _ _ _ { s with heap := ((s.heap.push (seqObj "list" #[] 0)).update s.heap.objs.size (Obj.mapSeq (· ++ vs.toArray))).push (seqObj "list" vs.toArray 0) }
  rw [hsz]
  refine wpAny_bind (wpAny_holding (wpAny_call_entry slot_list_sort ⟨_, hoL, rfl⟩ entry_list_sort (list_sort_treeKAny hO hoL h0 hkk hL fun st' a1 a2 => ⟨_, rfl, ?_⟩) (args_list_sort _)))
  exact wpAny_pure ⟨_, rfl, h st' a1 a2⟩
theorem sorted_strsT {l : Addr} {vs : List Value} {ss : List Str} {Q : Value → Shared → Prop} (hl : s.heap.IsTuple l vs.toArray) (hS : StrsAre vs ss) (hL : vs.length ≤ sizeLine)
    (h : ∀ (out : Array Value) (ss' : List Str), StrsAre out.toList ss' → ss'.Perm ss → sortedS ss' = true → Q (.ref (s.heap.objs.size + 1)) { s with heap := sortedAll s.heap vs out }) :
    wpAny (model prog w) A (call (.builtin "sorted") [.ref l]) Q E s := by
  refine sortedKT strKind_oneLt hl hS.keysOf (fun v₁ v₂ rest e => keyKind_strs (by rw [← e]; exact hS)) hL fun st' hp hs => ?_
  obtain ⟨ss', h1, h2, h3⟩ := sorted_out_str hS hp hs
  exact h _ ss' h1 h2 h3
end
def rSrtS (K : PySem.W.Frag) : List V → Hp → VK → Prop := fun vs H Q => ∃ (a : Addr) (xs : List Str), vs = [V.ref a] ∧ (SqL K H a (xs.map V.str) ∨ SqT K H a (xs.map V.str)) ∧
  ∀ (ys : List Str) (p : Addr), ys.Perm xs → sortedS ys = true → H p = none → Q (.ref p) (upd H p (.lst (ys.map V.str)))
theorem c_sortedS {X : Cx} : CallR X (.builtin "sorted") (rSrtS X.K) := by
  intro pins s σ H vs us Q I r h
  obtain ⟨a, xs, rfl, hs, q⟩ := h
  rw [Vals.ref1 r]
  rcases hs with hs | hs
  · obtain ⟨its, rv, hl, hz⟩ := I.list hs
    have hlen0 := rv.length
    refine PyProof.Rows.sorted_strsAny hl.isList rv.strs (by rw [← hlen0]; exact hz) fun out ys h1 h2 h3 => ?_
    obtain ⟨ep, he'⟩ := PyProof.Rows.sortedAll_at s.heap its out
    have hlen : (ys.map V.str).length ≤ sizeLine := by
      rw [List.length_map] at hz ⊢
      rw [h2.length_eq]
      exact hz
    exact ⟨.ref _, upd H (s.heap.objs.size + 1) (.lst (ys.map V.str)), I.laid (t' := s.toks) (fun _ _ => PyProof.Rows.sortedAll_old) (Nat.le_succ _) ⟨hlen, out.toList, ep, vals_of_strs h1, he'⟩, rfl, q ys _ h2 h3 (I.hok.fresh (Nat.le_succ _))⟩
  · obtain ⟨its, rv, hl, hz⟩ := I.tuple hs
    have hlen0 := rv.length
    refine sorted_strsT (show s.heap.IsTuple a its.toArray from hl) rv.strs (by rw [← hlen0]; exact hz) fun out ys h1 h2 h3 => ?_
    obtain ⟨ep, he'⟩ := PyProof.Rows.sortedAll_at s.heap its out
    have hlen : (ys.map V.str).length ≤ sizeLine := by
      rw [List.length_map] at hz ⊢
      rw [h2.length_eq]
      exact hz
    exact ⟨.ref _, upd H (s.heap.objs.size + 1) (.lst (ys.map V.str)), I.laid (t' := s.toks) (fun _ _ => PyProof.Rows.sortedAll_old) (Nat.le_succ _) ⟨hlen, out.toList, ep, vals_of_strs h1, he'⟩, rfl, q ys _ h2 h3 (I.hok.fresh (Nat.le_succ _))⟩

/-! ### zip of two tuples -/
theorem walk_zipT {K : PySem.W.Frag} {a b : Addr} {xs ys : List V} {n : Nat} (hn : n = min xs.length ys.length) : Walk (RZ.ItzT K a b) n (fun H => SqT K H a xs ∧ SqT K H b ys) (YPair (fun i => xs[i]?) (fun i => ys[i]?)) := by
  subst hn
  refine ⟨fun i _ hi q => ?_, fun _ q => ⟨xs, ys, q.1, q.2, by omega⟩, fun i H v H' _ q y => ?_⟩
  · have h1 : i < xs.length := by omega
    have h2 : i < ys.length := by omega
    exact ⟨xs, ys, xs[i], ys[i], q.1, q.2, by simp [h1], by simp [h2]⟩
  · obtain ⟨T, x, z, h1, h2, h3, h4, h5⟩ := y
    exact ⟨T, x, z, h1, h2, h3, h4 xs q.1, h5 ys q.2⟩

/-! ### a comprehension by an invariant of what it has put together -/
theorem lc_inv {J : It} {n : Nat} {G : Hp → Prop} {Y : Nat → Hp → V → Hp → Prop} (wk : Walk J n G Y) {g : TG} {tt : TT} {te : TE} {vs : List Nat} {σ : L2.St} {H1 : Hp} {D : Addr} {Qd : Hp → Prop} (Pv : Nat → List V → Hp → Prop)
    (h0 : ∀ H, Ex H1 H → H D = some (.lst []) → Pv 0 [] H) (hD : H1 D = none) (hG : ∀ i acc H, Pv i acc H → G H) (hn : n ≤ 100000)
    (hs : ∀ i x acc H H', i < n → Pv i acc H → H D = some (.lst acc) → Y i H x H' → ∀ R : Bool → VK, (∀ y H4, H4 D = some (.lst acc) → (∀ H5, Exc D H4 H5 → H5 D = some (.lst (acc ++ [y])) → Pv (i + 1) (acc ++ [y]) H5) → R true y H4) → (∀ H4, H4 D = some (.lst acc) → Pv (i + 1) acc H4 → R false .non H4) →
      g x (wipe σ vs) H' fun σ2 H2 => wipe σ2 vs = wipe σ vs ∧ tt σ2 H2 fun b H3 => if b = true then te σ2 H3 (R true) else R false .non H3) (hd : ∀ acc H, Pv n acc H → H D = some (.lst acc) → Qd H) :
    ∃ W : Nat → Nat → Hp → Prop, (∃ m, W 0 m (upd H1 D (.lst []))) ∧ ∀ i m H, W i m H →
      (J.stop i H ∧ Qd H) ∨ (J.go i H ∧ ∃ Nx : Hp → Prop, (∀ H', Nx H' → ∃ m', m' < m ∧ W (i + 1) m' H') ∧ ∀ x H', J.yld i H x H' → g x (wipe σ vs) H' fun σ2 H2 => wipe σ2 vs = wipe σ vs ∧ tt σ2 H2 fun b H3 =>
        if b = true then te σ2 H3 fun y H4 => ∃ acc, H4 D = some (.lst acc) ∧ acc.length < sizeLine ∧ Nx (upd H4 D (.lst (acc ++ [y]))) else Nx H3) := by
  refine lc_it wk (fun i H => ∃ acc, acc.length ≤ i ∧ H D = some (.lst acc) ∧ Pv i acc H) ⟨[], Nat.le_refl _, upd_same, h0 _ (ex_new hD) upd_same⟩ (fun i H _ p => ?_) (fun i x H H' hi p y => ?_) fun H p => ?_
  · obtain ⟨acc, _, _, p⟩ := p
    exact hG i acc H p
  · obtain ⟨acc, hl, hacc, p⟩ := p
    exact hs i x acc H H' hi p hacc y (fun b y H4 => if b = true then ∃ acc, H4 D = some (.lst acc) ∧ acc.length < sizeLine ∧ ∃ acc', acc'.length ≤ i + 1 ∧ (upd H4 D (.lst (acc ++ [y]))) D = some (.lst acc') ∧ Pv (i + 1) acc' (upd H4 D (.lst (acc ++ [y])))
        else ∃ acc', acc'.length ≤ i + 1 ∧ H4 D = some (.lst acc') ∧ Pv (i + 1) acc' H4)
      (fun y H4 h1 h2 => iteT' ⟨acc, h1, Evl.sz_lt (by omega), acc ++ [y], by simp; omega, upd_same, h2 _ (fun a u ne e => by rw [upd_ne ne]; exact e) upd_same⟩)
      (fun H4 h1 h2 => iteF' ⟨acc, by omega, h1, h2⟩)
  · obtain ⟨acc, _, hacc, p⟩ := p
    exact hd acc H p hacc
end LW
/-! What the helpers of a law promise: draws, likeness. -/
namespace LW
open PySem PySem.Spec PyProof.Rows L2 SX
theorem intBits_mono {a b : Int} (h0 : 0 ≤ a) (h : a ≤ b) : Builtin.Int.intBits a ≤ Builtin.Int.intBits b := by
  unfold Builtin.Int.intBits
  by_cases h1 : a = 0
  · subst h1
    simp
  · have h2 : b ≠ 0 := by omega
    rw [if_neg (by simpa using h1), if_neg (by simpa using h2)]
    have e : a.natAbs ≤ b.natAbs := by omega
    have h3 : 2 ^ a.natAbs.log2 ≤ a.natAbs := Nat.log2_self_le (by omega)
    have h4 := (Nat.le_log2 (n := b.natAbs) (k := a.natAbs.log2) (by omega)).mpr (Nat.le_trans h3 e)
    omega
theorem div_bits {a b : Int} (h0 : 0 ≤ a) (hb : 0 < b) : Builtin.Int.intBits (a / b) ≤ Builtin.Int.intBits a :=
  intBits_mono (Int.ediv_nonneg h0 (Int.le_of_lt hb)) (Int.ediv_le_self b h0)
/-- the row of a law's draws at r: the script's list, the place, the mixed number, the rest of a cell -/
structure RowAt (K : PySem.W.Frag) (H : Hp) (r a : Addr) (ns : List Int) (i m c : Int) : Prop where
  at_ : H r = some (.lst [.ref a, .int i, .int m, .int c])
  sq : SqL K H a (ns.map V.int)
  few : ns.length ≤ 63
  i0 : 0 ≤ i
  m0 : 0 ≤ m ∧ m < 2147483647
  c0 : 0 ≤ c
abbrev Scr := Addr × List Int
def RowOk (K : PySem.W.Frag) (sc : Scr) (H : Hp) (r : Addr) : Prop := ∃ i m c, RowAt K H r sc.1 sc.2 i m c
section
variable {K : PySem.W.Frag} {sc : Scr} {H H' : Hp} {r a b : Addr} {xs ys : List V} {o : HO}
theorem exc_o (h : H a = some o) (hr : H r = some (.lst ys)) (hn : o ≠ .lst ys) (e : Exc r H H') : H' a = some o := e a o (fun z => hn (by rw [z, hr] at h; exact (Option.some.inj h).symm)) h
theorem exc_l (h : SqL K H a xs) (hr : H r = some (.lst ys)) (hn : xs ≠ ys) (e : Exc r H H') : SqL K H' a xs := by
  rcases h with (h | ⟨o, h⟩) | h
  · exact .inl (.inl (exc_o h hr (fun z => hn (by cases z; rfl)) e))
  · exact .inl (.inr ⟨o, exc_o h hr (fun z => by cases z) e⟩)
  · exact .inr h
theorem exc_t (h : SqT K H a xs) (hr : H r = some (.lst ys)) (e : Exc r H H') : SqT K H' a xs := by
  rcases h with (h | ⟨o, h⟩) | h
  · exact .inl (.inl (exc_o h hr (fun z => by cases z) e))
  · exact .inl (.inr ⟨o, exc_o h hr (fun z => by cases z) e⟩)
  · exact .inr h
theorem row_sq {ns : List Int} (h : SqL K H a (ns.map V.int)) (hr : H r = some (.lst (.ref b :: ys))) (e : Exc r H H') : SqL K H' a (ns.map V.int) :=
  exc_l h hr (fun z => by
    cases ns with
    | nil => cases z
    | cons n ns => cases z) e
theorem RowOk.ex (h : RowOk K sc H r) (e : Ex H H') : RowOk K sc H' r := by
  obtain ⟨i, m, c, R⟩ := h
  exact ⟨i, m, c, e _ _ R.at_, up_l e R.sq, R.few, R.i0, R.m0, R.c0⟩
theorem RowOk.lst (h : RowOk K sc H r) : ∃ ys, H r = some (.lst ys) := by
  obtain ⟨i, m, c, R⟩ := h
  exact ⟨_, R.at_⟩
/-- what is no list at r stays -/
theorem RowOk.keep (h : RowOk K sc H r) (e : Exc r H H') (ha : H a = some o) (hn : ∀ ys, o ≠ .lst ys) : H' a = some o := by
  obtain ⟨ys, hr⟩ := h.lst
  exact exc_o ha hr (hn ys) e
theorem RowOk.t (h : RowOk K sc H r) (e : Exc r H H') (ha : SqT K H a xs) : SqT K H' a xs := by
  obtain ⟨ys, hr⟩ := h.lst
  exact exc_t ha hr e
end
/-- a list that was not there at H0 is written -/
theorem exc_n {K : PySem.W.Frag} {H0 H H' : Hp} {D a : Addr} {xs : List V} (h0 : SqL K H0 a xs) (hD : H0 D = none) (h : SqL K H a xs) (e : Exc D H H') : SqL K H' a xs := by
  by_cases z : a = D
  · subst z
    rcases h0 with (h0 | ⟨o, h0⟩) | h0
    · rw [hD] at h0; cases h0
    · rw [hD] at h0; cases h0
    · exact .inr h0
  · rcases h with (h | ⟨o, h⟩) | h
    · exact .inl (.inl (e a _ z h))
    · exact .inl (.inr ⟨o, e a _ z h⟩)
    · exact .inr h
theorem RowOk.new {K : PySem.W.Frag} {sc : Scr} {H0 H H' : Hp} {D r : Addr} (h0 : RowOk K sc H0 r) (hD : H0 D = none) (h : RowOk K sc H r) (e : Exc D H H') : RowOk K sc H' r := by
  obtain ⟨i0, m0, c0, R0⟩ := h0
  obtain ⟨i, m, c, R⟩ := h
  have hne : r ≠ D := fun z => by
    have := R0.at_
    rw [z, hD] at this
    cases this
  exact ⟨i, m, c, e _ _ hne R.at_, exc_n R0.sq hD R.sq e, R.few, R.i0, R.m0, R.c0⟩
/-- all but the row stays, a list that was not there is written -/
theorem Exc.new {H0 H H' : Hp} {D r : Addr} (a : Exc r H0 H) (hD : H0 D = none) (e : Exc D H H') : Exc r H0 H' := fun b o n hb => e b o (fun z => by rw [z, hD] at hb; cases hb) (a b o n hb)
theorem RowOk.ne {K : PySem.W.Frag} {sc : Scr} {H0 : Hp} {D r : Addr} (h0 : RowOk K sc H0 r) (hD : H0 D = none) : D ≠ r := fun z => by
  obtain ⟨ys, hy⟩ := h0.lst
  rw [z, hy] at hD
  cases hD
def spTaken (K : PySem.W.Frag) : Sp := fun vs H Q _ => ∃ (r : Addr) (sc : Scr) (many : Nat), vs = [.ref r, .int (many : Int)] ∧ RowOk K sc H r ∧ 0 < many ∧ many < 2 ^ 62 ∧ ∀ (v : Nat) H', v < many → Exc r H H' → RowOk K sc H' r → Q (.int (v : Int)) H'
def spPick (K : PySem.W.Frag) : Sp := fun vs H Q _ => ∃ (r l : Addr) (sc : Scr) (ys : List V), vs = [.ref r, .ref l] ∧ RowOk K sc H r ∧ (H l = some (.lst ys) ∧ l ≠ r ∨ H l = some (.tup ys)) ∧ ys ≠ [] ∧ ys.length ≤ 100000 ∧ ∀ y ∈ ys, ∀ H', Exc r H H' → RowOk K sc H' r → Q y H'
def spLawBits (K : PySem.W.Frag) : Sp := fun vs H Q _ => ∃ (r : Addr) (sc : Scr) (most : Nat), vs = [.ref r, .int (most : Int)] ∧ RowOk K sc H r ∧ most ≤ 1000 ∧ ∀ l H', l.all isBit = true → l.length ≤ most → Exc r H H' → RowOk K sc H' r → Q (.str (S l)) H'
/-! ### likeness -/
mutual
/-- data of at most n levels over its atoms, no part longer than a line, no dicts -/
def okd : Nat → PyData → Bool
  | _, .none => true
  | _, .bool _ => true
  | _, .int _ => true
  | _, .str _ => true
  | n + 1, .list ds => decide (ds.length ≤ 100000) && okds n ds
  | n + 1, .tuple ds => decide (ds.length ≤ 100000) && okds n ds
  | _, _ => false
def okds : Nat → List PyData → Bool
  | _, [] => true
  | n, d :: ds => okd n d && okds n ds
end
theorem okds_mem : ∀ {ds : List PyData} {n : Nat}, okds n ds = true → ∀ d ∈ ds, okd n d = true
  | [], _, _, d, h => absurd h (by simp)
  | e :: ds, n, hk, d, h => by
    unfold okds at hk
    rw [Bool.and_eq_true] at hk
    rcases List.mem_cons.mp h with rfl | h
    · exact hk.1
    · exact okds_mem hk.2 d h
def spAlike (K : PySem.W.Frag) : Nat → Sp
  | 0 => fun _ _ _ _ => False
  | n + 1 => fun vs H Q _ => ∃ (x y : V) (d : PyData), vs = [x, y] ∧ Dp K H x d ∧ Dp K H y d ∧ okd n d = true ∧ ∀ H', Ex H H' → Q (.bl true) H'
section
variable {K : PySem.W.Frag} {H : Hp} {x : V}
theorem kn_sqL {a : Addr} {xs : List V} (h : SqL K H a xs) : Kn K H (.ref a) "list" := by
  rcases h with (h | ⟨o, h⟩) | ⟨o, its, n, h, c, _⟩
  · exact ⟨.base (.lst h), by decide⟩
  · exact ⟨.base (.frz h), by decide⟩
  · exact ⟨.kList h c, by decide⟩
theorem kn_sqT {a : Addr} {xs : List V} (h : SqT K H a xs) : Kn K H (.ref a) "tuple" := by
  rcases h with (h | ⟨o, h⟩) | ⟨o, its, n, h, c, _⟩
  · exact ⟨.base (.tup h), by decide⟩
  · exact ⟨.fTuple h, by decide⟩
  · exact ⟨.kTuple h c, by decide⟩
theorem dpAll_len : ∀ {xs : List V} {ds : List PyData}, DpAll K H xs ds → xs.length = ds.length
  | _, _, .nil => rfl
  | _, _, .cons _ r => congrArg (· + 1) (dpAll_len r)
theorem dpAll_at : ∀ {xs : List V} {ds : List PyData} {i : Nat} {d : PyData}, DpAll K H xs ds → ds[i]? = some d → ∃ v, xs[i]? = some v ∧ Dp K H v d
  | [], _, _, _, .nil, h => by simp at h
  | v :: xs, e :: ds, 0, d, .cons a r, h => by
    have h' : e = d := by simpa using h
    subst h'
    exact ⟨_, rfl, a⟩
  | v :: xs, e :: ds, i + 1, d, .cons a r, h => by
    have h' : ds[i]? = some d := by simpa using h
    obtain ⟨u, h1, h2⟩ := dpAll_at r h'
    exact ⟨u, by simpa using h1, h2⟩
end
/-- x[i] of a list or a tuple -/
def rIxLT (K : PySem.W.Frag) : R2 := fun x y H Q => rIxL K x y H Q ∨ rIxT K x y H Q
theorem ix_lt {X : Cx} : IxR X (rIxLT X.K) := L2.ix_list.or L2.ix_tup
/-! the same rules, K named: for blocks -/
section
variable {X : Cx} {K : PySem.W.Frag}
theorem ix_ltK (h : X.K = K := by rfl) : IxR X (rIxLT K) := h ▸ ix_lt
theorem ix_listK (h : X.K = K := by rfl) : IxR X (rIxL K) := h ▸ L2.ix_list
theorem ix_tupK (h : X.K = K := by rfl) : IxR X (rIxT K) := h ▸ L2.ix_tup
theorem c_lenQK (h : X.K = K := by rfl) : CallR X (.builtin "len") (rLenQ K) := h ▸ c_lenQ
theorem c_isiK (h : X.K = K := by rfl) : CallR X (.builtin "isinstance") (rIsi K) := h ▸ c_isi
theorem c_isiTK (h : X.K = K := by rfl) : CallR X (.builtin "isinstance") (rIsiT K) := h ▸ c_isiT
theorem sl_listK (h : X.K = K := by rfl) : SlR X (rSlL K) := h ▸ L2.sl_list
theorem sl_tupK (h : X.K = K := by rfl) : SlR X (rSlT K) := h ▸ L2.sl_tup
theorem o_inQK (h : X.K = K := by rfl) : OpR X (compareOp .In) (rIn K false) := h ▸ o_inQ
theorem o_notInQK (h : X.K = K := by rfl) : OpR X (compareOp .NotIn) (rIn K true) := h ▸ o_notInQ
theorem o_dEqK (hu : X.A.units + 64 < cLine) (h : X.K = K := by rfl) : OpR X (compareOp .Eq) (rEqD K) := h ▸ o_dEq hu
theorem o_dNeK (hu : X.A.units + 64 < cLine) (h : X.K = K := by rfl) : OpR X (compareOp .NotEq) (rNeD K) := h ▸ o_dNe hu
theorem pg_tupK {es : List Expr} {k : Nat} {pos : Pos} {t : TGs} {n : Nat} (hc : X.calm = true) (h : PGs X es t) (hk : X.K = K := by rfl)
    (hn : (assignEach es X.env).length = n := by rfl) (hst : (assignEach es X.env).findIdx? (·.1) = none := by rfl) : PG X (.Tuple es k pos) (gTup K n t) := hk ▸ pg_tup hc h hn hst
theorem c_tupleK (h : X.K = K := by rfl) : CallR X (.type "tuple") (rTupOf K) := h ▸ c_tuple
theorem c_listK (h : X.K = K := by rfl) : CallR X (.type "list") (rLstOf K) := h ▸ c_list
end
end LW
/-! A law's def that calls a lambda and tells the error: what it promises. -/
namespace LW
open PySem PySem.Spec PyProof.Rows L2 SX
/-- x() where x holds the lambda f: what it lets out is taken by W -/
def tAct (f c' : Addr) (q : Str) (tl : XK → Hp → VK → Prop) (W : WX) : TE := fun σ H Q => ∃ Ech : XK, (∀ cls d σ' H', Ech cls d H' → W cls d σ' H') ∧ σ[0]? = some (some (.ref f)) ∧ H c' = some (LamX.CodeO c' q) ∧ tl Ech H Q
theorem pe_actW {X : Cx} {e : Expr} {f c' : Addr} {q : Str} {tl : XK → Hp → VK → Prop} {W : WX} (hp : ∀ E : XK, (∀ cls d σ' H', E cls d H' → W cls d σ' H') → PE X e (fun σZ HZ Q => σZ[0]? = some (some (.ref f)) ∧ HZ c' = some (LamX.CodeO c' q) ∧ tl E HZ Q)) : PE X e (tAct f c' q tl W) :=
  ⟨fun pins s σ H Q I h => by
    obtain ⟨E, hW, h⟩ := h
    exact (hp E hW).run pins s σ H Q I h⟩
/-- what is taken with the slots that the def has -/
theorem takes_len {X : Cx} {W : WX} (t : Takes X W) : Takes X (fun c d σ H => σ.length = X.N.length → W c d σ H) := fun u s' ⟨a, B, sI, pins, σ, H, cls, d, e, I, nb, up, sky, na, os, ag, w⟩ =>
  t u s' ⟨a, B, sI, pins, σ, H, cls, d, e, I, nb, up, sky, na, os, ag, w I.len⟩
/-- the clause of one class: return (word, e.value) -/
def hdOf (K : PySem.W.Frag) (p : Str × Str) : HdS := (.ref (He.ga K p.1), 1, fun a cls d => tRet (tTupN (tCons (tC (.str p.2)) (tCons (tXf a cls d (He.ga K p.1) "value" (tVar 1)) tNil))))
/-- what is wished of the error and of the end without one -/
def refX (K : PySem.W.Frag) (L : List (Str × Str)) (Q : VK) : XK := fun cls d H' => ∃ (p : Str × Str) (dd : Addr) (v : V), p ∈ L ∧ cls = .ref (He.ga K p.1) ∧ d = some dd ∧ H' dd = some (.xd [("value", v)]) ∧ ∀ t H2, H' t = none → Ex H' H2 → H2 t = some (.tup [.str p.2, v]) → Q (.ref t) H2
def TTref (K : PySem.W.Frag) (L : List (Str × Str)) (end_ : V) : (XK → Hp → VK → Prop) → Hp → VK → Prop := fun tl H Q =>
  tl (refX K L Q) H (fun _ H' => tTupN (tCons (tC (.str "")) (tCons (tC end_) tNil)) [] H' Q)
theorem wNamed_ref {K : PySem.W.Frag} {Wout : WX} {D : Ends} {σ : L2.St} (hσ : σ.length = 2) {H' : Hp} : ∀ {L M : List (Str × Str)} {cls : Value} {d : Option Addr},
    (∀ p ∈ L, ∀ p' ∈ L, PySem.W.exmOne K (.ref (He.ga K p.1)) (.ref (He.ga K p'.1)) = some (decide (p = p'))) → (∀ p ∈ M, p ∈ L) →
    (∃ (p : Str × Str) (dd : Addr) (v : V), p ∈ M ∧ p ∈ L ∧ cls = .ref (He.ga K p.1) ∧ d = some dd ∧ H' dd = some (.xd [("value", v)]) ∧ ∀ t H2, H' t = none → Ex H' H2 → H2 t = some (.tup [.str p.2, v]) → D.rt (.ref t) H2) →
    wNamed K Wout D (M.map (hdOf K)) cls d σ H'
  | L, [], cls, d, _, _, h => by
    obtain ⟨p, dd, v, hp, _⟩ := h
    cases hp
  | L, m :: M, cls, d, hx, hM, h => by
    obtain ⟨p, dd, v, hp, hpL, rfl, rfl, hd, q⟩ := h
    refine ⟨_, hx p hpL m (hM m List.mem_cons_self), fun hb a ha => ?_, fun hb => ?_⟩
    · have e := of_decide_eq_true hb
      subst e
      have hv : (σ.set 1 (some (V.ref a)))[1]? = some (some (.ref a)) := by
        rw [List.getElem?_set_self (by omega)]
      refine w_ret (w_tup (w_cons (w_c (w_cons ?_))))
      refine ⟨.ref a, hv, rfl, rfl, dd, _, v, rfl, hd, rfl, ?_⟩
      refine w_nil ⟨by simp, fun t H2 ht e2 h2 => q t H2 ht e2 h2⟩
    · have ne := of_decide_eq_false hb
      refine wNamed_ref hσ hx (fun p' hp' => hM p' (List.mem_cons_of_mem _ hp')) ⟨p, dd, v, ?_, hpL, rfl, rfl, hd, q⟩
      rcases List.mem_cons.mp hp with e | h
      · exact absurd e ne
      · exact h
end LW
/-! Heaps behind lambdas; a call that is refused, and its repr. -/
namespace LW
open PySem PySem.Spec PyProof.Rows L2 SX
abbrev ExtN := LamX.ExtN
theorem Ex.n {H H' : Hp} (e : Ex H H') : ExtN H H' := LamX.ExtN.of e
section
variable {K : PySem.W.Frag} {sc : Scr} {H H' : Hp} {r a : Addr} {xs : List V} {o : HO} {x : V} {n : String}
theorem extn_o (e : ExtN H H') (h : H a = some o) (hn : ∀ ps, o ≠ .tbl ps) : H' a = some o := e a o h hn
theorem extn_l (e : ExtN H H') (h : SqL K H a xs) : SqL K H' a xs := by
  rcases h with (h | ⟨o, h⟩) | h
  · exact .inl (.inl (e _ _ h (fun _ z => by cases z)))
  · exact .inl (.inr ⟨o, e _ _ h (fun _ z => by cases z)⟩)
  · exact .inr h
theorem extn_t (e : ExtN H H') (h : SqT K H a xs) : SqT K H' a xs := by
  rcases h with (h | ⟨o, h⟩) | h
  · exact .inl (.inl (e _ _ h (fun _ z => by cases z)))
  · exact .inl (.inr ⟨o, e _ _ h (fun _ z => by cases z)⟩)
  · exact .inr h
theorem RowOk.extn (h : RowOk K sc H r) (e : ExtN H H') : RowOk K sc H' r := by
  obtain ⟨i, m, c, R⟩ := h
  exact ⟨i, m, c, extn_o e R.at_ (fun _ z => by cases z), extn_l e R.sq, R.few, R.i0, R.m0, R.c0⟩
mutual
theorem extn_d (e : ExtN H H') : ∀ (d : PyData) (v : V), Dp K H v d → Dp K H' v d
  | .none, _, h => by cases h; exact .non
  | .bool b, _, h => by cases h; exact .bl b
  | .int i, _, h => by cases h; exact .int i
  | .str x, _, h => by cases h; exact .str x
  | .list ds, _, h => by
    cases h with
    | lst a b => exact .lst (extn_l e a) (extn_ds e ds _ b)
  | .tuple ds, _, h => by
    cases h with
    | tup a b => exact .tup (extn_t e a) (extn_ds e ds _ b)
  | .dict _, _, h => by cases h
theorem extn_ds (e : ExtN H H') : ∀ (ds : List PyData) (vs : List V), DpAll K H vs ds → DpAll K H' vs ds
  | [], _, h => by cases h; exact .nil
  | d :: ds, _, h => by
    cases h with
    | cons a b => exact .cons (extn_d e d _ a) (extn_ds e ds _ b)
end
theorem dp_kn : ∀ {d : PyData} {v : V}, Dp K H v d → ∃ n, Kn K H v n
  | .none, _, h => by cases h; exact ⟨_, kn_non⟩
  | .bool b, _, h => by cases h; exact ⟨_, kn_bl⟩
  | .int i, _, h => by cases h; exact ⟨_, kn_int⟩
  | .str x, _, h => by cases h; exact ⟨_, kn_str⟩
  | .list ds, _, h => by
    cases h with
    | lst a b => exact ⟨_, kn_sqL a⟩
  | .tuple ds, _, h => by
    cases h with
    | tup a b => exact ⟨_, kn_sqT a⟩
  | .dict _, _, h => by cases h
/-- the code tables stay where only the row is written -/
theorem tabs_exc {T : List (Addr × Str)} (t : LamX.Tabs T H) (h : RowOk K sc H r) (e : Exc r H H') : LamX.Tabs T H' := fun p hp => by
  obtain ⟨ps, h1, h2, h3⟩ := t p hp
  refine ⟨ps, h.keep e h1 (fun _ z => by cases z), h2, fun pos cv hc => ?_⟩
  obtain ⟨c, e1, e2⟩ := h3 pos cv hc
  exact ⟨c, e1, h.keep e e2 (fun _ z => by cases z)⟩
end
/-- data whose repr is to be had -/
def shows (d : PyData) : Bool := d.showable && !d.hasDict && decide (d.depth ≤ 32) && decide (d.shown.length ≤ 100000)
theorem v_repr {K : PySem.W.Frag} {H : Hp} {a : Addr} {d : PyData} {Q : VK} (h : Dp K H (.ref a) d) (g : shows d = true) (q : Q (.str d.shown) H) : rRepr K [.ref a] H Q := by
  unfold shows at g
  simp only [Bool.and_eq_true, decide_eq_true_eq, Bool.not_eq_true'] at g
  obtain ⟨⟨⟨g1, g2⟩, g3⟩, g4⟩ := g
  exact ⟨a, d, rfl, h, g1, g2, g3, Evl.sz_of g4, q⟩
section
variable {K : PySem.W.Frag} {H : Hp} {σ : L2.St} {T : List (Addr × Str)} {L : List (Str × Str)} {end_ : V} {tl : XK → TE} {Q : VK} {word : Str} {v : V} {d : PyData} {te2 : TE}
/-- an error of a listed class -/
theorem rz_ref {c : Str} (hp : (c, word) ∈ L) (q : ∀ t H3, Ex H H3 → H3 t = some (.tup [.str word, v]) → Q (.ref t) H3) : Rz K c v H (refX K L Q) := fun dd H2 nd e2 hd =>
  ⟨(c, word), dd, v, hp, rfl, rfl, hd, fun t H3 _ e3 h3 => q t H3 (e2.trans e3) h3⟩
/-- a lambda called that is refused -/
theorem lam_ref (hT : LamX.Tabs T H) (hcall : ∀ H1, ExtN H H1 → LamX.Tabs T H1 → ∀ R Q' : VK, (∀ t H3, Ex H1 H3 → H3 t = some (.tup [.str word, v]) → R (.ref t) H3) → tl (refX K L R) σ H1 Q')
    (q : ∀ t H', ExtN H H' → LamX.Tabs T H' → H' t = some (.tup [.str word, v]) → Q (.ref t) H') : LamX.tLam T (TTref K L end_) tl σ H Q :=
  ⟨hT, fun H1 e1 t1 => hcall H1 e1 t1 Q _ fun t H3 e3 h3 => q t H3 (e1.trans e3.n) (t1.ext e3) h3⟩
/-- repr of what it told against repr of what is due: alike -/
theorem ref_ne (hT : LamX.Tabs T H) (hd : Dp K H v d) (hs : shows (.tuple [.str word, d]) = true) (hte : ∀ H' (R : VK), R v H' → te2 σ H' R)
    (hcall : ∀ H1, ExtN H H1 → LamX.Tabs T H1 → ∀ R Q' : VK, (∀ t H3, Ex H1 H3 → H3 t = some (.tup [.str word, v]) → R (.ref t) H3) → tl (refX K L R) σ H1 Q')
    (q : ∀ H', ExtN H H' → LamX.Tabs T H' → Q (.bl false) H') :
    tOp rNe (tCB (rRepr K) (tCons (LamX.tLam T (TTref K L end_) tl) tNil)) (tCB (rRepr K) (tCons (tTupN (tCons (tC (.str word)) (tCons te2 tNil))) tNil)) σ H Q := by
  refine w_op (w_cb (w_cons (lam_ref hT hcall fun t H1 e1 t1 h1 => w_nil ?_)))
  refine v_repr (d := .tuple [.str word, d]) (.tup (st_of h1) (.cons (.str _) (.cons (extn_d e1 _ _ hd) .nil))) hs ?_
  refine w_cb (w_cons (w_tup (w_cons (w_c (w_cons (hte _ _ (w_nil ⟨by simp, fun p H2 np e2 h2 => w_nil ?_⟩)))))))
  refine v_repr (d := .tuple [.str word, d]) (.tup (st_of h2) (.cons (.str _) (.cons (extn_d (e1.trans e2.n) _ _ hd) .nil))) hs ?_
  refine v_neS ?_
  rw [decide_eq_true rfl]
  exact q H2 (e1.trans e2.n) (t1.ext e2)
end
end LW
/-! sorted of pairs (a text, a number); sorted of a dict's texts, any number of them. -/
namespace LW
open PySem PySem.Spec PyProof.Rows L2 SX
/-! ### pairs of a text and a number, by the text, then by the number -/
def lexQ (p q : Str × Int) : Bool := if p.1 = q.1 then decide (p.2 < q.2) else decide (p.1.cps.toList < q.1.cps.toList)
theorem str_ext {x y : Str} (h : x.cps.toList = y.cps.toList) : x = y := by
  obtain ⟨⟨a⟩⟩ := x
  obtain ⟨⟨b⟩⟩ := y
  have h' : a = b := h
  rw [h']
theorem lexQ_iff {p q : Str × Int} : lexQ p q = true ↔ p.1.cps.toList < q.1.cps.toList ∨ (p.1 = q.1 ∧ p.2 < q.2) := by
  unfold lexQ
  by_cases h : p.1 = q.1
  · rw [if_pos h, decide_eq_true_eq, h]
    exact ⟨fun z => .inr ⟨rfl, z⟩, fun z => z.elim (fun z => absurd z (List.lt_irrefl _)) fun z => z.2⟩
  · rw [if_neg h, decide_eq_true_eq]
    exact ⟨.inl, fun z => z.elim id fun z => absurd z.1 h⟩
theorem lexQ_no {p q : Str × Int} : lexQ p q = false ↔ ¬ (p.1.cps.toList < q.1.cps.toList ∨ (p.1 = q.1 ∧ p.2 < q.2)) := by
  rw [← lexQ_iff]
  cases lexQ p q <;> simp
theorem swo_lexQ {α : Type} (k : α → Str × Int) : SrtO.Swo fun v u => lexQ (k v) (k u) := by
  refine ⟨fun x y h => ?_, fun x y z h1 h2 => ?_⟩
  · have a := lexQ_iff.mp h
    refine lexQ_no.mpr fun b => ?_
    rcases a with a | ⟨a, a'⟩
    · rcases b with b | ⟨b, b'⟩
      · exact List.lt_irrefl _ (List.lt_trans a b)
      · rw [b] at a
        exact List.lt_irrefl _ a
    · rcases b with b | ⟨b, b'⟩
      · rw [a] at b
        exact List.lt_irrefl _ b
      · omega
  · have a := lexQ_no.mp h1
    have b := lexQ_no.mp h2
    have a1 : ¬ (k y).1.cps.toList < (k x).1.cps.toList := fun z => a (.inl z)
    have b1 : ¬ (k z).1.cps.toList < (k y).1.cps.toList := fun z => b (.inl z)
    refine lexQ_no.mpr fun c => ?_
    rcases c with c | ⟨c, c'⟩
    · exact a1 (List.lt_of_le_of_lt (List.not_lt.mp b1) c)
    · rw [c] at b1
      have e : (k x).1 = (k y).1 := str_ext (List.le_antisymm (List.not_lt.mp a1) (List.not_lt.mp b1))
      have a2 : ¬ (k y).2 < (k x).2 := fun z => a (.inr ⟨e.symm, z⟩)
      have b2 : ¬ (k z).2 < (k y).2 := fun z => b (.inr ⟨c.trans e, z⟩)
      omega
def PairSI (h : Heap) (v : Value) (x : Str) (y : Int) : Prop := ∃ a o t u n, v = .ref a ∧ h.get? a = some o ∧ o.cls = .type "tuple" ∧ o.data = .seq #[.str x t, .int y u] n
theorem PairSI.keeps {h h' : Heap} {v : Value} {x : Str} {y : Int} (p : PairSI h v x y) (k : ∀ b o, h.get? b = some o → o.cls = .type "tuple" → h'.get? b = some o) : PairSI h' v x y := by
  obtain ⟨a, o, t, u, n, e, ho, hc, hd⟩ := p
  exact ⟨a, o, t, u, n, e, k _ _ ho hc, hc, hd⟩
section
variable {prog : Program} {w : World} {A : Around} {E : Value → Shared → Prop} {s : Shared}
theorem firstsQ {h : Heap} : ∀ {vs : List Value}, (∀ v ∈ vs, ∃ x y, PairSI h v x y) → ∃ fs : List Value, PySem.W.KatTups h vs fs ∧ fs.length = vs.length ∧ ∀ f ∈ fs, ∃ x t, f = Value.str x t
  | [], _ => ⟨[], PySem.W.KatTups.nil, rfl, fun _ hm => by simp at hm⟩
  | v :: vs, hp => by
    obtain ⟨fs, h1, h2, h3⟩ := firstsQ (vs := vs) fun v' hm => hp v' (List.mem_cons_of_mem _ hm)
    obtain ⟨x, y, a, o, t, u, n, e, ho, hc, hd⟩ := hp v (List.mem_cons_self ..)
    subst e
    refine ⟨.str x t :: fs, PySem.W.KatTups.cons ho hc hd rfl h1, by rw [List.length_cons, List.length_cons, h2], fun f hm => ?_⟩
    rcases List.mem_cons.mp hm with rfl | hm
    · exact ⟨x, t, rfl⟩
    · exact h3 f hm
theorem pairQ_cmp {vs : List Value} {k : Value → Str × Int} (hp : ∀ v ∈ vs, PairSI s.heap v (k v).1 (k v).2) : SrtO.Cmp prog w A s (tuples' true) (fun p => p.1 ∈ vs) (SrtO.lt2 fun v u => lexQ (k v) (k u)) := by
  intro p q hm hm'
  have h1 := hp _ hm
  have h2 := hp _ hm'
  show wpAny (model prog w) A (keyLt' (tuples' true) p.1 q.1) (fun r s' => s' = s ∧ r = lexQ (k p.1) (k q.1)) (fun _ _ => False) s
  unfold lexQ
  generalize (k p.1).1 = x at h1 ⊢
  generalize (k p.1).2 = y at h1 ⊢
  generalize (k q.1).1 = x' at h2 ⊢
  generalize (k q.1).2 = y' at h2 ⊢
  obtain ⟨a, o, t, u, n, e, ho, hc, hd⟩ := h1
  obtain ⟨a', o', t', u', n', e', ho', hc', hd'⟩ := h2
  rw [e, e']
  refine PySem.W.kat_lt ho hd ho' hd' ?_
  show PySem.W.KatLex prog w A true (decide (2 < 2)) _ [(.str x t, .str x' t'), (.int y u, .int y' u')] 0 s
  refine PySem.W.kat_cons (SeqAt.EqAt.str_str x t x' t' prog w _ _ ?_)
  refine PySem.W.kat_go (fun e1 => ?_) (fun e1 => ?_)
  · have ex : x = x' := by simpa using e1
    refine PySem.W.kat_yes (PySem.W.kat_cons (SeqAt.EqAt.int_int y u y' u' prog w _ _ ?_))
    refine PySem.W.kat_go (fun e2 => ?_) (fun e2 => ?_)
    · have ey : y = y' := by simpa using e2
      refine PySem.W.kat_yes (PySem.W.kat_nil ⟨rfl, ?_⟩)
      rw [if_pos ex, ey]
      exact (decide_eq_false (Int.lt_irrefl _)).symm
    · refine PySem.W.kat_no (PySem.W.kat_one _ _ (PyProof.Rows.lt_int ?_))
      exact (show s = s ∧ decide (y < y') = (if x = x' then decide (y < y') else decide (x.cps.toList < x'.cps.toList)) from ⟨rfl, (if_pos ex).symm⟩)
  · have ex : ¬ x = x' := by simpa using e1
    exact PySem.W.kat_no (oneLt_str ⟨rfl, (if_neg ex).symm⟩)
theorem pairsQ_sortable {a : Addr} {vs : List Value} {k : Value → Str × Int} (h0 : 0 < vs.length) (hp : ∀ v ∈ vs, PairSI s.heap v (k v).1 (k v).2) (ha : ∀ o, s.heap.get? a = some o → o.cls ≠ .type "tuple") : SrtO.SortableO prog w A s a vs fun v u => lexQ (k v) (k u) := by
  intro h' keep
  have hp' : ∀ v ∈ vs, PairSI h' v (k v).1 (k v).2 := fun v hm => (hp v hm).keeps fun b o e c => keep b o (fun z => by subst z; exact ha o e c) e
  obtain ⟨fs, h1, h2, h3⟩ := firstsQ fun v hm => ⟨_, _, hp' v hm⟩
  refine ⟨tuples' true, fun Q E hq => ?_, pairQ_cmp hp'⟩
  refine PySem.W.kat_kind (T := .type "str") h1 (by omega) (fun f hm => ?_) (by rfl) ?_
  · obtain ⟨x, t, rfl⟩ := h3 f hm
    exact PySem.W.Looks.now
  · have e : (Value.type "str" != Value.type "tuple") = true := by first | decide +kernel | rfl | decide
    rw [e]
    exact hq
end
/-- sorted(xs), xs a list of pairs (k says which) -/
def rSrtQ (K : PySem.W.Frag) : List V → Hp → VK → Prop := fun vs H Q => ∃ (a : Addr) (xs : List V) (k : V → Str × Int), vs = [V.ref a] ∧ SqL K H a xs ∧ (∀ x ∈ xs, ∃ t, x = V.ref t ∧ SqT K H t [.str (k x).1, .int (k x).2]) ∧
  ∀ ys p, ys.Pairwise (fun x y => lexQ (k y) (k x) = false) → ys.Perm xs → H p = none → Q (.ref p) (upd H p (.lst ys))
section
variable {X : Cx}
theorem c_sortedQ : CallR X (.builtin "sorted") (rSrtQ X.K) := by
  intro pins s σ H vs us Q I r h
  obtain ⟨a, xs, k, rfl, hs, hx, q⟩ := h
  obtain ⟨its, rv, hl, hz⟩ := I.list hs
  obtain ⟨u, rfl, ru⟩ := vals1 r
  obtain rfl : u = Value.ref a := ru
  obtain ⟨e1, e2⟩ := refs_back rv fun x m => by
    obtain ⟨t, e, _⟩ := hx x m
    exact ⟨t, e⟩
  have hp : ∀ v ∈ its, PairSI s.heap v (k (backV v)).1 (k (backV v)).2 := fun v hv => by
    obtain ⟨t, rfl⟩ := e2 v hv
    have hm : V.ref t ∈ xs := by rw [e1]; exact List.mem_map.mpr ⟨_, hv, rfl⟩
    obtain ⟨t', e, ht⟩ := hx _ hm
    cases e
    obtain ⟨its2, r2, ⟨o, ho, hc, n, hd⟩, _⟩ := I.tuple ht
    obtain ⟨u1, u2, rfl, ri, rj⟩ := vals2 r2
    obtain ⟨t1, rfl⟩ := ri
    obtain ⟨t2, rfl⟩ := rj
    exact ⟨t, o, t1, t2, n, rfl, ho, hc, hd⟩
  refine SrtO.sorted_ord (swo_lexQ fun u => k (backV u)) hl.isList (by rw [← rv.length]; exact hz) (fun h2 h₁ a' ha kk => ?_) fun out h1 h2 => ?_
  · refine pairsQ_sortable (s := { s with heap := h₁ }) (k := fun u => k (backV u)) (by omega) (fun v hm => (hp v hm).keeps fun b o e _ => (kk b o e).2) fun o e => ?_
    have e' := e.symm.trans ha
    cases e'
    intro c
    exact absurd (Value.type.inj c) (by decide)
  · have h3 : ∀ u ∈ out, ∃ a, u = Value.ref a := fun u hu => e2 u (h2.perm.mem_iff.mp hu)
    obtain ⟨ep, he'⟩ := PyProof.Rows.sortedAll_at s.heap its out.toArray
    have hperm : (out.map backV).Perm xs := by
      rw [e1]
      exact h2.perm.map backV
    have hlen : (out.map backV).length ≤ sizeLine := by
      rw [hperm.length_eq]
      exact hz
    refine ⟨.ref _, upd H (s.heap.objs.size + 1) (.lst (out.map backV)), I.laid (t' := s.toks) (fun _ _ => PyProof.Rows.sortedAll_old) (Nat.le_succ _) ⟨hlen, out, ep, vals_back h3, he'⟩, rfl, q _ _ ?_ hperm (I.hok.fresh (Nat.le_succ _))⟩
    exact List.pairwise_map.mpr h1
end
/-! ### the texts of a dict, sorted -/
def rSrtD : List V → Hp → VK → Prop := fun xs H Q => ∃ (a : Addr) (kvs : List (Key × V)) (ks : List Str), xs = [.ref a] ∧ Rd H a (.dK kvs) ∧ kvs.map (·.1) = ks.map Sum.inr ∧ ks.length ≤ 100000 ∧
    ∀ ys p, ys.Perm ks → sortedS ys = true → H p = none → Q (.ref p) (upd H p (.lst (ys.map V.str)))
theorem c_sortedD {X : Cx} (hcalm : X.calm = true) : CallR X (.builtin "sorted") rSrtD := by
  intro pins s σ H xs us Q I r q
  obtain ⟨a, kvs, ks, rfl, hd, hks, hlim, q⟩ := q
  obtain ⟨u, rfl, rx⟩ := vals1 r
  cases rx
  obtain ⟨z, lo, vs, rel, dd⟩ := dk_rd I.hok hd
  obtain ⟨ep, hat⟩ := dd.dictAt
  have hkeys : vs.map (·.1) = ks.map Sum.inr := rel.keys.symm.trans hks
  have hl : vs.length = ks.length := by
    have e := congrArg List.length hkeys
    rw [List.length_map, List.length_map] at e
    exact e
  have hks2 : ks.length ≤ sizeLine := Evl.sz_of hlim
  have h16 : vs.length ≤ sizeLine := by rw [hl]; exact hks2
  refine Calls.call_function_entry PyProof.Rows.kind_sorted PyProof.Rows.plain_sorted PyProof.Rows.entry_sorted (PyProof.Rows.args_sorted1 _) ?_
  unfold Builtin.«sorted»
  refine wpAny_bind (m := checkCount "sorted" 1 1 _) (wpAny_pure ?_)
  refine wpAny_bind (PySem.W.kdu_collect (A := X.A.in1) (PySem.W.kdl_dict (knd := mixKind X.prog X.w) (kvs := vs) (ep := ep) lo) (I.ok.hd hcalm) hat h16 fun h' tk acc hk hacc => ?_)
  have hal : acc.toList.length = ks.length := by rw [Array.length_toList, hacc.1, hl]
  have hS : StrsAre acc.toList ks := strs_at hal fun j v e => by
    obtain ⟨k, x, e1, e2⟩ := hacc.2 j v (by rw [← Array.getElem?_toList]; exact e)
    have e3 : (vs.map (·.1))[j]? = some k := by
      rw [List.getElem?_map, e1] <;> rfl
    rw [hkeys, List.getElem?_map] at e3
    cases e4 : ks[j]? with
    | none => rw [e4] at e3; cases e3
    | some y =>
      rw [e4] at e3
      have e5 : Sum.inr y = k := Option.some.inj e3
      subst e5
      obtain ⟨t, ev⟩ := Value.isStrOf_shape (x := y) (v := v) e2
      exact ⟨y, t, rfl, ev⟩
  have I1 : Inv X pins σ H { s with heap := h', toks := tk } := I.kept hk
  refine wpAny_bind (wpAny_newList ?_ (by rw [hal]; exact hks2))
  have hoL : (h'.push (seqObj "list" acc.toList.toArray 0)).get? h'.objs.size = some (seqObj "list" acc.toList.toArray 0) := Heap.get?_push_size _ rfl
  show wpAny _ _ _ _ _ { s with heap := h'.push (seqObj "list" acc.toList.toArray 0), toks := tk }
  refine wpAny_bind (wpAny_holding (wpAny_call_entry PyProof.Rows.slot_list_sort ⟨_, hoL, rfl⟩ PyProof.Rows.entry_list_sort
    (list_sort_treeKAny strKind_oneLt (s := { s with heap := h'.push (seqObj "list" acc.toList.toArray 0), toks := tk }) hoL hS.keysOf (fun v₁ v₂ rest e => keyKind_strs (by rw [← e]; exact hS)) (by rw [hal]; exact hks2) fun st' hp hs => ⟨_, rfl, ?_⟩)
    (PyProof.Rows.args_list_sort _)))
  obtain ⟨ys, g1, g2, g3⟩ := sorted_out_str hS hp hs
  obtain ⟨e', he'⟩ := PyProof.Rows.sortedHeap_at (vs := acc.toList) (out := (arrOf st').map (·.2)) hoL
  have hlen : (ys.map V.str).length ≤ sizeLine := by
    rw [List.length_map, g2.length_eq]
    exact hks2
  refine wpAny_pure ⟨_, rfl, .ref h'.objs.size, upd H h'.objs.size (.lst (ys.map V.str)), I1.laid (t' := tk) (fun b u e => ?_) (Nat.le_refl _)
    (show ObjOk X.prog X.w _ _ _ (.lst (ys.map V.str)) from ⟨hlen, ((arrOf st').map (·.2)).toList, e', vals_of_strs g1, by rw [Array.toArray_toList]; exact he'⟩), rfl, q ys _ g2 g3 (I1.hok.fresh (Nat.le_refl _))⟩
  have hb : b < h'.objs.size := Heap.lt_size e
  rw [PyProof.Rows.sortedHeap_old (Nat.ne_of_lt hb) (by rw [size_push']; exact Nat.lt_succ_of_lt hb)]
  exact Heap.get?_push_of_some _ e
end LW
/-! Own classes: made, their fields, methods, isinstance; dicts with text keys; repr of data with an empty dict; a def called by a variable. -/
namespace LW
open PySem PySem.Spec PyProof.Rows L2 SX
/-! ### C(..) -/
/-- the class x, its __init__ kept (over self and the arguments) at level k -/
structure Mkk (P : Program) (w : World) (K : PySem.W.Frag) (mg : Str → Option Value) (base : Heap) (CX : CXT) (k : Nat) (x : Str) (sp : Sp) : Prop where
  g : mg x = some (.ref (He.ga K x))
  ex : ∃ (f : Addr) (fd : FuncData) (ps : List Str), Mk K (He.ga K x) f ∧ FnOk P w K mg base CX k f fd ps sp ∧ Binds K fd ps []
def tMkN (C : Addr) (sp : Sp) (E : XK) (t : TA) : TE := fun σ H Q => t σ H fun vs H1 => ∀ x dx H2, H1 x = none → Ex H1 H2 → H2 x = some (.ins C dx []) → sp (.ref x :: vs) H2 (fun v H3 => v = .non ∧ Q (.ref x) H3) E
section
variable {X : Cx} {CX : CXT} {j k : Nat} {x m : Str} {sp : Sp} {E : XK} {p pos apos : Pos} {e o : Expr} {es : List Expr} {t : TA} {ta : TE}
theorem pe_mk (c : Mkk X.prog X.w X.K X.mg X.base CX k x sp) (hr : Room j X.A) (hk : k + 1 ≤ j) (hg : Gl X x) (hx : Passes CX X E) (ha : PA X (e :: es) t) (hdb : (x == ("__debug__" : Str)) = false := by decide)
    (he : starEach (e :: es) X.env = (false, eval e X.env) :: starEach es X.env := by rfl) (hpl : (backTo pos (starEach es X.env)).any (·.1) = false := by rfl) : PE X (.Call (.Name x p) (e :: es) [] pos) (tMkN (He.ga X.K x) sp E t) := by
  obtain ⟨f, fd, ps, M, F, b⟩ := c.ex
  have h := pe_make (p := p) M F (hr.mono hk) hg c.g b .nil hx (pa_mono ha) hdb he hpl
  refine ⟨fun pins s σ H Q I q => h.run pins s σ H Q I ?_⟩
  refine ⟨_, q, fun vs H1 q1 => fun a dx na ndx hne => ?_⟩
  rw [List.append_nil]
  exact q1 a dx _ na (fun b o hb => by rw [upd_ne (ne_of_none hb na), upd_ne (ne_of_none hb ndx)]; exact hb) upd_same
/-! ### o.m(..) -/
structure Mtk (P : Program) (w : World) (K : PySem.W.Frag) (mg : Str → Option Value) (base : Heap) (CX : CXT) (k : Nat) (x m : Str) (sp : Sp) : Prop where
  c : Cls K (He.ga K x)
  ex : ∃ (f : Addr) (fd : FuncData) (ps : List Str), Meth K (He.ga K x) m f ∧ FnOk P w K mg base CX k f fd ps sp ∧ Binds K fd ps []
def tMtN (C : Addr) (m : Str) (sp : Sp) (E : XK) (ta : TE) (t : TA) : TE := fun σ H Q => ta σ H fun x H1 => ∃ a dx fs, x = .ref a ∧ H1 a = some (.ins C dx fs) ∧ fs.lookup m = none ∧ t σ H1 fun vs H2 => sp (x :: vs) H2 Q E
theorem pe_mt {pl : Sem Bool} (c : Mtk X.prog X.w X.K X.mg X.base CX k x m sp) (hr : Room j X.A) (hk : k ≤ j) (ho : PE X o ta) (hx : Passes CX X E) (ha : PA X (e :: es) t)
    (hst : starEach (e :: es) X.env = (false, eval e X.env) :: starEach es X.env := by rfl) (hpl : (backTo pos (starEach es X.env)).any (·.1) = false := by rfl)
    (ht : eval (.Call (.Attribute o m apos) (e :: es) [] pos) X.env = (do
      let ov ← eval o X.env
      standAt apos.atName
      let (f, first) ← holding [ov] (getMethod ov m pl)
      callWith pos f first (backTo pos (starEach (e :: es) X.env)) (backToKw pos (keywordEach [] X.env))) := by rfl) : PE X (.Call (.Attribute o m apos) (e :: es) [] pos) (tMtN (He.ga X.K x) m sp E ta t) := by
  obtain ⟨f, fd, ps, M, F, b⟩ := c.ex
  have h := pe_meth (pl := pl) ho c.c M F (hr.mono hk) b .nil hx ha hst hpl ht
  refine ⟨fun pins s σ H Q I q => h.run pins s σ H Q I ?_⟩
  have e1 : (fun (y : V) (H1 : Hp) => ∃ a dx fs, y = .ref a ∧ H1 a = some (.ins (He.ga X.K x) dx fs) ∧ fs.lookup m = none ∧ t σ H1 fun vs H2 => sp (y :: (vs ++ [])) H2 Q E) = fun y H1 => ∃ a dx fs, y = .ref a ∧ H1 a = some (.ins (He.ga X.K x) dx fs) ∧ fs.lookup m = none ∧ t σ H1 fun vs H2 => sp (y :: vs) H2 Q E := by
    funext y H1
    simp only [List.append_nil]
  show ta σ H (fun (y : V) (H1 : Hp) => ∃ a dx fs, y = .ref a ∧ H1 a = some (.ins (He.ga X.K x) dx fs) ∧ fs.lookup m = none ∧ t σ H1 fun vs H2 => sp (y :: (vs ++ [])) H2 Q E)
  rw [e1]
  exact q
end
section
variable {K : PySem.W.Frag} {σ : L2.St} {H : Hp} {Q : VK} {ta td tv ty tx : TE} {A : TA} {D : Ends} {C : Addr} {sp : Sp} {E : XK} {f m : Str}
theorem w_mk (h : A σ H fun vs H1 => ∀ x dx H2, H1 x = none → Ex H1 H2 → H2 x = some (.ins C dx []) → sp (.ref x :: vs) H2 (fun v H3 => v = .non ∧ Q (.ref x) H3) E) : tMkN C sp E A σ H Q := h
theorem w_mt (h : ta σ H fun x H1 => ∃ a dx fs, x = .ref a ∧ H1 a = some (.ins C dx fs) ∧ fs.lookup m = none ∧ A σ H1 fun vs H2 => sp (x :: vs) H2 Q E) : tMtN C m sp E ta A σ H Q := h
theorem w_sfld (h : tv σ H fun y H1 => ta σ H1 fun x H2 => ∃ a C dx fs, x = .ref a ∧ H2 a = some (.ins C dx fs) ∧ Cls K C ∧ NoAttr K C f ∧ fs.length < 1000 ∧ D.nx σ (upd H2 a (.ins C dx (putF f y fs)))) : sFld K ta tv f D σ H := h
theorem w_din (h : ty σ H fun y H1 => td σ H1 fun x H2 => ∃ a o, x = .ref a ∧ DGet H2 a y o ∧ Q (.bl o.isSome) H2) : tDIn ty td σ H Q := h
theorem w_dget (h : td σ H fun x H1 => ty σ H1 fun y H2 => ∃ a v, x = .ref a ∧ DGet H2 a y (some v) ∧ Q v H2) : tDGet td ty σ H Q := h
theorem w_dput (h : tv σ H fun v H1 => td σ H1 fun x H2 => ty σ H2 fun y H3 => ∃ a H4, x = .ref a ∧ DPut H3 a y v H4 ∧ D.nx σ H4) : sDPut td ty tv D σ H := h
theorem w_dget2 (h : td σ H fun x H1 => ∃ a, x = .ref a ∧ IsD H1 a ∧ ty σ H1 fun y H2 => tx σ H2 fun z H3 => ∃ o, DGet H3 a y o ∧ Q (o.getD z) H3) : tDGet2 td ty tx σ H Q := h
end
/-! ### dicts with text keys -/
def tDNewN : TE := fun _ H Q => ∀ p H', H p = none → Ex H H' → H' p = some (.dK []) → Q (.ref p) H'
theorem pe_dn {X : Cx} {pos : Pos} : PE X (.Dict [] [] pos) tDNewN := ⟨fun pins s σ H Q I h => (pe_dnewK (X := X) (pos := pos)).run pins s σ H Q I fun p hp => h p _ hp (ex_new hp) upd_same⟩
theorem v_dput {H : Hp} {a : Addr} {kvs : List (Key × V)} {z : Str} {v : V} {R : Hp → Prop} (h : H a = some (.dK kvs)) (hl : kvs.length < 100000) (q : ∀ H', Exc a H H' → H' a = some (.dK (putK kvs (.inr z) v)) → R H') :
    ∃ b H4, V.ref a = .ref b ∧ DPut H b (.str z) v H4 ∧ R H4 :=
  ⟨a, _, rfl, .inl ⟨kvs, .inr z, h, rfl, Evl.sz_lt hl, rfl⟩, q _ (fun b o n e => by rw [upd_ne n]; exact e) upd_same⟩
def rDictP (K : PySem.W.Frag) : List V → Hp → VK → Prop := fun xs H Q => ∃ (a : Addr) (ps : List Addr) (kvs : List (Key × V)), xs = [.ref a] ∧ SqL K H a (ps.map V.ref) ∧ Paired (fun p kv => SqT K H p [kV kv.1, kv.2]) ps kvs ∧ ∀ p H', H p = none → Ex H H' → H' p = some (.dK (mergeK [] kvs)) → Q (.ref p) H'
theorem c_dictP {X : Cx} (hcalm : X.calm = true) : CallR X (.type "dict") (rDictP X.K) := fun pins s σ H xs us Q I r h => by
  obtain ⟨a, ps, kvs, h1, h2, h3, h4⟩ := h
  exact call_dictP hcalm pins s σ H xs us Q I r ⟨a, ps, kvs, h1, h2, h3, fun p hp => h4 p _ hp (ex_new hp) upd_same⟩
/-! ### isinstance(x, C) -/
def InsT (K : PySem.W.Frag) (H : Hp) (x : Str) (v : V) : Prop := ∃ a dx fs, v = .ref a ∧ H a = some (.ins (He.ga K x) dx fs)
theorem v_isC_no {K : PySem.W.Frag} {H : Hp} {x : Str} {v : V} {n : String} {Q : VK} (ic : IcF K x) (h : Kn K H v n) (q : Q (.bl false) H) : rIsi K [v, .ref (He.ga K x)] H Q :=
  ⟨v, .ref (He.ga K x), _, _, _, rfl, .own _, h.1, ic.no n h.2, q⟩
theorem v_isC_yes {K : PySem.W.Frag} {H : Hp} {x : Str} {v : V} {Q : VK} (c : Cls K (He.ga K x)) (ic : IcF K x) (h : InsT K H x v) (q : Q (.bl true) H) : rIsi K [v, .ref (He.ga K x)] H Q := by
  obtain ⟨a, dx, fs, rfl, ha⟩ := h
  exact ⟨_, .ref (He.ga K x), _, _, _, rfl, .own _, .base (.ins ha c ic.ha ic.hn ic.ht ic.hm), ic.self, q⟩
/-! ### repr of (word, {}) -/
def rReprE (K : PySem.W.Frag) : List V → Hp → VK → Prop := fun xs H Q => ∃ (a e : Addr) (word : Str), xs = [.ref a] ∧ SqT K H a [.str word, .ref e] ∧ H e = some (.dK []) ∧ (PyData.tuple [.str word, .dict []]).showable = true ∧ (PyData.tuple [.str word, .dict []]).shown.length ≤ sizeLine ∧ Q (.str (PyData.tuple [.str word, .dict []]).shown) H
def rReprZ (K : PySem.W.Frag) : List V → Hp → VK → Prop := fun xs H Q => rRepr K xs H Q ∨ rReprE K xs H Q
theorem c_reprZ {X : Cx} {k : Nat} (hg : X.A.guards = some []) (hr : Room k X.A) : CallR X (.builtin "repr") (rReprZ X.K) := by
  intro pins s σ H xs us Q I r h
  rcases h with h | h
  · exact c_repr hg hr pins s σ H xs us Q I r h
  · obtain ⟨a, e, word, rfl, hT, he, hs, hsz, q⟩ := h
    obtain ⟨u, rfl, ru⟩ := vals1 r
    obtain rfl : u = Value.ref a := ru
    obtain ⟨its, rv, ⟨o, ho, hc, n, hd⟩, _⟩ := I.tuple hT
    obtain ⟨u1, u2, rfl, r1, r2⟩ := vals2 rv
    obtain ⟨t, rfl⟩ := r1
    obtain rfl : u2 = Value.ref e := r2
    obtain ⟨_, lo, vs, rel, oe, es, ep, hoe, hex, hde, _, hpairs, _⟩ := dk_rd I.hok (.inl he)
    have hvs : vs = [] := by
      cases rel
      rfl
    subst hvs
    have hes : es.toList = [] := by
      generalize es.toList = l at hpairs
      cases hpairs
      rfl
    have rd : Reads s.heap (.ref a) (.tuple [.str word, .dict []]) ([] ++ ((e :: [] ++ []) ++ [])) :=
      .tuple ho hc hd (.cons (.str word t) (.cons (.dict hoe hex.1 hde (by rw [hes]; exact .nil) (by rw [hes]; exact .nil)) .nil))
    refine repr_of_reads' rd hs (fun _ hm => ?_) hg (by have := hr.units; show X.A.units + (2 + 1) < cLine; omega) (fun _ _ e => e) (fun h' u tk k => ⟨.str _, H, I.kept k, ⟨u, rfl⟩, q⟩) hsz
    have e1 : sysModules = e := by simpa using hm
    rw [e1] at lo
    simp at lo
/-! ### f(..), f a variable that holds a def -/
def tClV (i : Nat) (c : Addr → Sp → Prop) (E : XK) (t : TA) : TE := fun σ H Q => ∃ f sp, σ[i]? = some (some (.ref f)) ∧ c f sp ∧ t σ H fun vs H1 => sp vs H1 Q E
theorem pe_dv {X : Cx} {CX : CXT} {j i : Nat} {x : Str} {c : Addr → Sp → Prop} {E : XK} {p pos : Pos} {e : Expr} {es : List Expr} {t : TA}
    (hc : ∀ f sp, c f sp → ∃ (fd : FuncData) (ps : List Str), FnOk X.prog X.w X.K X.mg X.base CX j f fd ps sp ∧ PySem.W.keepIn X.K (.ref f) = true ∧ Binds X.K fd ps []) (hr : Room j X.A) (hx : Passes CX X E) (ha : PA X (e :: es) t)
    (hN : X.N[i]? = some x) (hv : Vis X.env.scope x) (hd : (x == ("__debug__" : Str)) = false := by decide) (hcd : (x == ("__classdict__" : Str)) = false := by decide)
    (he : starEach (e :: es) X.env = (false, eval e X.env) :: starEach es X.env := by rfl) (hpl : (backTo pos (starEach es X.env)).any (·.1) = false := by rfl) : PE X (.Call (.Name x p) (e :: es) [] pos) (tClV i c E t) := by
  refine ⟨fun pins s σ H Q I h => ?_⟩
  obtain ⟨f, sp, hs, hcf, q⟩ := h
  obtain ⟨fd, ps, F, kp, b⟩ := hc f sp hcf
  refine wpAny_Call_Name_kw (thn ((pe_var (pos := p) (i := i) hN hv hd hcd).run pins s σ H (fun v H1 => v = .ref f ∧ H1 = H) I ⟨.ref f, hs, rfl, rfl⟩) fun u s1 ⟨v, H1, I1, r1, q1⟩ => ?_)
  obtain ⟨ev, eH⟩ := q1
  subst ev
  subst eH
  obtain rfl : u = Value.ref f := r1
  refine PySem.W.callWith_K (h₀ := X.base) I1.ok.mod.kin kp (thn (ha.run pos pins s1 σ H1 _ I1 q) fun us s2 ⟨vs, H2, I2, r, q2⟩ => ⟨I2.kIn, ?_⟩) he hpl
  have h2 : sp (vs ++ []) H2 Q E := by
    rw [List.append_nil]
    exact q2
  exact run_fn F hr b .nil hx I2 r h2
/-! ### the same, K named (for blocks) -/
section
variable {X : Cx} {CX : CXT} {K : PySem.W.Frag} {j k : Nat} {x m f : Str} {sp : Sp} {E : XK} {p pos apos : Pos} {e o : Expr} {es : List Expr} {t : TA} {ta : TE}
theorem pe_mkK (c : Mkk X.prog X.w X.K X.mg X.base CX k x sp) (hr : Room j X.A) (hk : k + 1 ≤ j) (hg : Gl X x) (hx : Passes CX X E) (ha : PA X (e :: es) t) (hK : X.K = K := by rfl) (hdb : (x == ("__debug__" : Str)) = false := by decide)
    (he : starEach (e :: es) X.env = (false, eval e X.env) :: starEach es X.env := by rfl) (hpl : (backTo pos (starEach es X.env)).any (·.1) = false := by rfl) : PE X (.Call (.Name x p) (e :: es) [] pos) (tMkN (He.ga K x) sp E t) := hK ▸ pe_mk c hr hk hg hx ha hdb he hpl
theorem pe_mtK {pl : Sem Bool} (c : Mtk X.prog X.w X.K X.mg X.base CX k x m sp) (hr : Room j X.A) (hk : k ≤ j) (ho : PE X o ta) (hx : Passes CX X E) (ha : PA X (e :: es) t) (hK : X.K = K := by rfl)
    (hst : starEach (e :: es) X.env = (false, eval e X.env) :: starEach es X.env := by rfl) (hpl : (backTo pos (starEach es X.env)).any (·.1) = false := by rfl)
    (ht : eval (.Call (.Attribute o m apos) (e :: es) [] pos) X.env = (do
      let ov ← eval o X.env
      standAt apos.atName
      let (f, first) ← holding [ov] (getMethod ov m pl)
      callWith pos f first (backTo pos (starEach (e :: es) X.env)) (backToKw pos (keywordEach [] X.env))) := by rfl) : PE X (.Call (.Attribute o m apos) (e :: es) [] pos) (tMtN (He.ga K x) m sp E ta t) := hK ▸ pe_mt (pl := pl) c hr hk ho hx ha hst hpl ht
theorem pe_fldK (he : PE X e ta) (hb : attributeBase e f X.env (eval e X.env) = eval e X.env) (hK : X.K = K := by rfl) : PE X (.Attribute e f pos) (tFld K ta f) := hK ▸ pe_fld he hb
theorem c_dictPK (hcalm : X.calm = true) (hK : X.K = K := by rfl) : CallR X (.type "dict") (rDictP K) := hK ▸ c_dictP hcalm
end
theorem u1 {a c : Nat} (h : a + 64 < c) : a + 1 < c := by omega
theorem w_ienum {K : PySem.W.Frag} {A : TA} {σ : L2.St} {H : Hp} {R : It → Hp → Prop} (h : A σ H fun vs H1 => ∃ a xs, vs = [.ref a] ∧ SqL K H1 a xs ∧ R (Ite K a) H1) : iEnum K A σ H R := h
theorem w_dn {σ : L2.St} {H : Hp} {Q : VK} (h : ∀ p H', H p = none → Ex H H' → H' p = some (.dK []) → Q (.ref p) H') : tDNewN σ H Q := h
theorem w_fl {K : PySem.W.Frag} {ta : TE} {f : Str} {σ : L2.St} {H : Hp} {Q : VK} (h : ta σ H fun x H1 => ∃ a C dx fs v, x = .ref a ∧ H1 a = some (.ins C dx fs) ∧ Cls K C ∧ NoAttr K C f ∧ fs.lookup f = some v ∧ Q v H1) : tFld K ta f σ H Q := h
end LW
/-! Keys that are nested tuples of whole numbers: the set of such, its size. -/
namespace LW
open PySem PySem.Spec PyProof.Rows L2 SX
mutual
/-- a key of numbers alone -/
def numb : NestedKey → Bool
  | .num _ => true
  | .tup ks => numbs ks
  | .none => false
  | .text _ => false
def numbs : List NestedKey → Bool
  | [] => true
  | k :: ks => numb k && numbs ks
end
/-- what may be asked of an item of a key, n levels deep -/
def Item (h : Heap) (n : Nat) (v : Value) : Prop := ∃ k, NestedIs h k v ∧ numb k = true ∧ k.depth ≤ n
theorem items_of {h : Heap} {n : Nat} : ∀ {ks : List NestedKey} {vs : List Value}, NestedAll h ks vs → numbs ks = true → NestedKey.depthAll ks ≤ n → ∀ v ∈ vs, Item h n v
  | [], _, .nil, _, _, v, hv => by cases hv
  | k :: ks, _, .cons a r, hn, hd, v, hv => by
    unfold numbs at hn
    rw [Bool.and_eq_true] at hn
    unfold NestedKey.depthAll at hd
    rcases List.mem_cons.mp hv with e | hv
    · rw [e]
      exact ⟨k, a, hn.1, by omega⟩
    · exact items_of r hn.2 (by omega) v hv
theorem item_cases {h : Heap} {n : Nat} {v : Value} (x : Item h n v) : (∃ b, v = .bool b) ∨ (∃ i t, v = .int i t) ∨ ∃ m a o vs q, n = m + 1 ∧ v = .ref a ∧ h.get? a = some o ∧ o.cls = .type "tuple" ∧ o.data = .seq vs q ∧ ∀ u ∈ vs.toList, Item h m u := by
  obtain ⟨k, hk, hn, hd⟩ := x
  cases hk with
  | none => cases hn
  | bool e => exact .inl ⟨_, rfl⟩
  | int i t => exact .inr (.inl ⟨i, t, rfl⟩)
  | text z t => cases hn
  | @tup a o vs q ks h1 h2 h3 h4 =>
    unfold NestedKey.depth at hd
    unfold numb at hn
    cases n with
    | zero => omega
    | succ m => exact .inr (.inr ⟨m, a, o, vs, q, rfl, rfl, h1, h2, h3, items_of h4 hn (by omega)⟩)
section
variable {P : Program} {w : World} {A : Around} {E : Value → Shared → Prop} {s : Shared}
/-- its hash is told by its value -/
theorem hashBy_item : ∀ (n : Nat) (v : Value) {Q : Bool → Shared → Prop}, Item s.heap n v → Q true s → wpAny (model P w) A (hashByValue n v) Q E s := by
  intro n
  induction n with
  | zero =>
    intro v Q hx q
    rcases item_cases hx with ⟨b, e⟩ | ⟨i, t, e⟩ | ⟨m, _, _, _, _, e, _⟩
    · rw [e]; exact wpAny_pure q
    · rw [e]; exact wpAny_pure q
    · cases e
  | succ n ih =>
    intro v Q hx q
    rcases item_cases hx with ⟨b, e⟩ | ⟨i, t, e⟩ | ⟨m, a, o, vs, k, em, ev, ho, hc, hd, hall⟩
    · rw [e]; exact wpAny_pure q
    · rw [e]; exact wpAny_pure q
    · obtain rfl : n = m := by omega
      rw [ev]
      have ty : s.TypeIs (.ref a) "tuple" := ⟨o, ho, hc⟩
      unfold hashByValue
      refine wpAny_bind (wpAny_specialOf ty F.slot_tuple_hash.lookup ?_)
      show wpAny _ _ (do let r ← seqItems? (.ref a); _) _ _ s
      refine wpAny_bind (wpAny_seqItems ho hd (wpAny_bind ?_))
      show wpAny _ _ (forIn vs _ _) _ _ s
      rw [← Array.forIn_toList]
      refine wpAny_forIn_list _ (fun left r z => r.1 = none ∧ z = s ∧ ∀ u ∈ left, Item s.heap n u) _ ?_ ?_ _ _ ⟨rfl, rfl, hall⟩
      · rintro u left r z ⟨hr, ez, hu⟩
        subst ez
        refine wpAny_bind (ih u (hu u List.mem_cons_self) ?_)
        try dsimp only
        rw [if_neg (by decide)]
        exact wpAny_pure ⟨rfl, rfl, fun y hy => hu y (List.mem_cons_of_mem _ hy)⟩
      · rintro ⟨r1, r2⟩ z ⟨hr, ez, _⟩
        subst ez
        have hr' : r1 = none := hr
        subst hr'
        exact wpAny_pure q
/-- it is of no class statement -/
theorem ofClass_item : ∀ (n : Nat) (v : Value) {Q : Bool → Shared → Prop}, Item s.heap n v → Q false s → wpAny (model P w) A (ofAClassStatement n v) Q E s := by
  intro n
  induction n with
  | zero =>
    intro v Q hx q
    rcases item_cases hx with ⟨b, e⟩ | ⟨i, t, e⟩ | ⟨m, _, _, _, _, e, _⟩
    · rw [e]; exact wpAny_pure q
    · rw [e]; exact wpAny_pure q
    · cases e
  | succ n ih =>
    intro v Q hx q
    rcases item_cases hx with ⟨b, e⟩ | ⟨i, t, e⟩ | ⟨m, a, o, vs, k, em, ev, ho, hc, hd, hall⟩
    · rw [e]; exact wpAny_pure q
    · rw [e]; exact wpAny_pure q
    · obtain rfl : n = m := by omega
      rw [ev]
      have ty : s.TypeIs (.ref a) "tuple" := ⟨o, ho, hc⟩
      unfold ofAClassStatement
      refine wpAny_bind (wpAny_typeOf ty ?_)
      try dsimp only
      have e2 : (("tuple" : String) == "tuple") = true := by decide
      rw [if_pos e2]
      refine wpAny_bind (wpAny_pure ?_)
      try dsimp only
      rw [if_neg (by decide)]
      try refine wpAny_bind (wpAny_pure ?_)
      show wpAny _ _ (do let r ← seqItems? (.ref a); _) _ _ s
      refine wpAny_bind (wpAny_seqItems ho hd ?_)
      try dsimp only
      refine wpAny_bind ?_
      show wpAny _ _ (forIn vs _ _) _ _ s
      rw [← Array.forIn_toList]
      refine wpAny_forIn_list _ (fun left r z => r.1 = none ∧ z = s ∧ ∀ u ∈ left, Item s.heap n u) _ ?_ ?_ _ _ ⟨rfl, rfl, hall⟩
      · rintro u left r z ⟨hr, ez, hu⟩
        subst ez
        refine wpAny_bind (ih u (hu u List.mem_cons_self) ?_)
        try dsimp only
        rw [if_neg (by decide)]
        exact wpAny_pure ⟨rfl, rfl, fun y hy => hu y (List.mem_cons_of_mem _ hy)⟩
      · rintro ⟨r1, r2⟩ z ⟨hr, ez, _⟩
        subst ez
        have hr' : r1 = none := hr
        subst hr'
        exact wpAny_pure q
end
/-- at b stands the key k, a tuple of numbers -/
def IsN (P : Program) (w : World) (h : Heap) (k : NestedKey) (b : Addr) : Prop := (nestedKind P w).is h k b ∧ numb k = true
abbrev nhash (P : Program) (w : World) (k : NestedKey) : Int := (nestedKind P w).hash k
section
variable {P : Program} {w : World} {A : Around} {E : Value → Shared → Prop} {s : Shared}
theorem IsN.item {h : Heap} {k : NestedKey} {b : Addr} (x : IsN P w h k b) : Item h 8 (.ref b) := ⟨k, x.1.1, x.2, x.1.2⟩
theorem IsN.at {h h' : Heap} {k : NestedKey} {b : Addr} (x : IsN P w h k b) (hk : ∀ c o vs n, h.get? c = some o → o.data = .seq vs n → h'.get? c = some o) : IsN P w h' k b := ⟨nestedKind_stays.stays hk x.1, x.2⟩
/-- no search among such keys shows anything -/
theorem quiet_search {k : NestedKey} {b : Addr} {Q : Bool → Shared → Prop} (hb : IsN P w s.heap k b) {ys : List Value} (hy : ∀ y ∈ ys, ∃ k' c, y = Value.ref c ∧ IsN P w s.heap k' c) (q : Q false s) :
    wpAny (model P w) A (searchCouldBeSeen (.ref b) ys) Q E s := by
  unfold searchCouldBeSeen
  refine wpAny_bind (wpAny_forIn_list _ (fun left r z => r.1 = none ∧ z = s ∧ ∀ y ∈ left, ∃ k' c, y = Value.ref c ∧ IsN P w s.heap k' c) _ ?_ ?_ _ _ ⟨rfl, rfl, hy⟩)
  · rintro u left r z ⟨hr, ez, hu⟩
    subst ez
    obtain ⟨k', c, eu, hc⟩ := hu u List.mem_cons_self
    subst eu
    have more := fun y hy => hu y (List.mem_cons_of_mem _ hy)
    try dsimp only
    by_cases same : (b == c || (carriedByValue (.ref b) && carriedByValue (.ref c))) = true
    · exact wp_if_pos same (wpAny_pure ⟨rfl, rfl, more⟩)
    · refine wp_if_neg same (wpAny_bind ((nestedKind P w).quiet hb.1 ?_))
      try dsimp only
      rw [if_neg (by decide)]
      refine wpAny_bind ((nestedKind P w).quiet hc.1 ?_)
      try dsimp only
      rw [if_neg (by decide)]
      refine wpAny_bind (ofClass_item 8 _ hb.item ?_)
      try dsimp only
      rw [if_neg (by decide)]
      refine wpAny_bind (ofClass_item 8 _ hc.item ?_)
      try dsimp only
      rw [if_neg (by decide)]
      exact wpAny_pure ⟨rfl, rfl, more⟩
  · rintro ⟨r1, r2⟩ z ⟨hr, ez, _⟩
    subst ez
    have hr' : r1 = none := hr
    subst hr'
    exact wpAny_pure q
end
end LW
/-! The set of such keys: searching, adding. -/
namespace LW
open PySem PySem.Spec PyProof.Rows L2 SX
abbrev Row := Addr × NestedKey
/-- a row as the set's table holds it -/
def rowV (P : Program) (w : World) (p : Row) : Int × Value := (nhash P w p.2, .ref p.1)
/-- the set at a holds the keys L, in the table's order -/
structure Sn (P : Program) (w : World) (h : Heap) (a : Addr) (L : List Row) (es : Array (Int × Value)) (ep : Nat) (t : SetTable) : Prop where
  ob : ∃ o, h.get? a = some o ∧ o.ExactSet ∧ o.data = .set es ep t
  rows : es.toList = L.map (rowV P w)
  tab : TabOk t (L.map fun p => nhash P w p.2)
  nd : (L.map (·.2)).Nodup
  keys : ∀ p ∈ L, IsN P w h p.2 p.1
  pl : t.plain = true
  ld : w.params.followText "set-order" = true ∨ t.led = true
  room : L.length * 5 < t.mask * 3
  few : L.length < 64
theorem rows_size {P : Program} {w : World} {L : List Row} {es : Array (Int × Value)} (h : es.toList = L.map (rowV P w)) : es.size = L.length := by
  have e := congrArg List.length h
  rwa [Array.length_toList, List.length_map] at e
theorem rows_at {P : Program} {w : World} {L : List Row} {es : Array (Int × Value)} (h : es.toList = L.map (rowV P w)) {i : Nat} {p : Row} (hi : L[i]? = some p) : es[i]? = some (rowV P w p) := by
  rw [← Array.getElem?_toList, h, List.getElem?_map, hi] <;> rfl
section
variable {P : Program} {w : World} {A : Around} {E : Value → Shared → Prop} {s : Shared} {a : Addr} {L : List Row} {es : Array (Int × Value)} {ep : Nat} {t : SetTable}
theorem fit_of (hs : es.size = L.length) (tb : TabOk t (L.map fun p => nhash P w p.2)) (hm : L.length ≤ t.mask) : t.fits es.size = true := by
  have e1 := tb.sz
  rw [List.length_map] at e1
  have e2 := tb.dm
  unfold SetTable.fits SetTable.fill
  simp only [e2, Bool.and_eq_true, beq_iff_eq, decide_eq_true_eq]
  exact ⟨by omega, by simp; omega⟩
theorem Sn.fit (R : Sn P w s.heap a L es ep t) : t.fits es.size = true := fit_of (rows_size R.rows) R.tab (by have := R.room; omega)
theorem Sn.odd (R : Sn P w s.heap a L es ep t) : ¬ t.gaveWay = true := by
  unfold SetTable.gaveWay
  have e := mask_odd R.tab.mok
  rw [e]
  decide
/-- the probe at the c-th step of a hash's way -/
def stp (m : Nat) (h : Int) (c : Nat) : SetTable.Probe := nth m (runAt m (SetTable.bits h % (m + 1)) (SetTable.bits h)) c
theorem stp_way (m : Nat) (h : Int) (c : Nat) : (stp m h c).j = way m h c := rfl
theorem stp_add (m : Nat) (h : Int) (c q : Nat) : nth m (stp m h c) q = stp m h (c + q) := (nth_add m c _ q).symm
theorem nth_dummy (m : Nat) : ∀ (n : Nat) (p : SetTable.Probe), p.dummy = none → (nth m p n).dummy = none
  | 0, p, h => h
  | n + 1, p, h => by
    have e : (adv m p).dummy = none := by
      unfold adv
      split <;> exact h
    exact nth_dummy m n _ e
theorem stp_dummy (m : Nat) (h : Int) (c : Nat) : (stp m h c).dummy = none := nth_dummy m c _ rfl
/-- the search, from the c-th step on, while all that has the key lies ahead -/
theorem sn_go (R : Sn P w s.heap a L es ep t) {x : Addr} {k : NestedKey} (hx : IsN P w s.heap k x) (hu : A.units + 8 < cLine) {N : Nat} (hNf : N < 10 * SetTable.turns t.mask)
    (hN : way t.mask (nhash P w k) N ∉ t.place.toList) (hNb : ∀ c, c < N → way t.mask (nhash P w k) c ∈ t.place.toList) {Q : SetFound → Shared → Prop}
    (yes : k ∈ L.map (·.2) → Q (.there none) s) (no : k ∉ L.map (·.2) → Q (.free (way t.mask (nhash P w k) N) false) s) :
    ∀ (f c : Nat) (at? : Option SetTable.Probe), at?.getD (t.probeStart (nhash P w k)) = stp t.mask (nhash P w k) c → c ≤ N → N - c < f →
      (∀ (i : Nat) p, L[i]? = some p → p.2 = k → ∃ c', c ≤ c' ∧ c' < N ∧ t.place.toList[i]? = some (way t.mask (nhash P w k) c')) → wpAny (model P w) A (setSearchFrom a (.ref x) (nhash P w k) true f at?) Q E s := by
  intro f
  induction f with
  | zero => intro c at? _ _ z; omega
  | succ f ih =>
    intro c at? hat hc hf ahead
    obtain ⟨o, oa, oe, od⟩ := R.ob
    have fit := R.fit
    rw [setSearchFrom_succ]
    refine wpAny_bind (wpAny_setState_of oa od fit ?_)
    dsimp only
    refine wp_if_neg R.odd ?_
    try refine wpAny_bind (wpAny_pure ?_)
    have jj : ∀ q, (nth t.mask (stp t.mask (nhash P w k) c) q).j = way t.mask (nhash P w k) (c + q) := fun q => by rw [stp_add, stp_way]
    have told := go_spec t R.tab.ris R.tab.dm (fun i => (es[i]?.map (·.1)).getD 0) (nhash P w k) (10 * SetTable.turns t.mask) (N - c) (stp t.mask (nhash P w k) c) (stp_dummy _ _ _) (by omega)
      (fun q hq => by rw [jj]; exact hNb _ (by omega)) (by rw [jj, show c + (N - c) = N by omega]; exact hN)
    have hash_at : ∀ (i : Nat) p, L[i]? = some p → (es[i]?.map (·.1)).getD 0 = nhash P w p.2 := fun i p hp => by
      rw [rows_at R.rows hp]
      rfl
    rcases told with ⟨q, i, hq, hi, hh, before, probed⟩ | ⟨before, probed⟩
    · have pr : t.probe (fun i => (es[i]?.map (·.1)).getD 0) (nhash P w k) (at?.getD (t.probeStart (nhash P w k))) = some (.candidate (way t.mask (nhash P w k) (c + q)) i (stp t.mask (nhash P w k) (c + (q + 1)))) := by
        rw [hat, ← stp_add, ← jj]
        exact probed
      rw [pr]
      dsimp only
      rw [jj] at hi
      have il : i < L.length := by
        have l1 := (List.getElem?_eq_some_iff.mp hi).1
        rw [Array.length_toList, R.tab.sz, List.length_map] at l1
        exact l1
      obtain ⟨p, hp⟩ : ∃ p, L[i]? = some p := ⟨_, List.getElem?_eq_getElem il⟩
      have pm := List.mem_of_getElem? hp
      have live := slot_live R.tab.ris hi
      have ent := rows_at R.rows hp
      have goal : wpAny (model P w) A (searchRest a (.ref x) (nhash P w k) true f es t (way t.mask (nhash P w k) (c + q)) i (stp t.mask (nhash P w k) (c + (q + 1)))) Q E s := by
        unfold searchRest
        rw [ent]
        unfold rowV
        dsimp only
        refine wpAny_bind (wpAny_holding ((nestedKind P w).eqBool hu (R.keys p pm).1 hx.1 (wpAny_bind (wpAny_setState_of oa od fit ?_))))
        dsimp only
        by_cases same : p.2 = k
        · exact wp_if_pos (by simp [same]) (wpAny_pure (yes (List.mem_map.mpr ⟨p, pm, same⟩)))
        · refine wp_if_neg (by simp [same]) ?_
          try refine wpAny_bind (wpAny_pure ?_)
          rw [sameMem]
          dsimp only
          simp only [if_true, live, ent]
          unfold rowV
          dsimp only
          refine wpAny_bind (wpAny_isSame_ref_self (wpAny_bind (wpAny_pure ?_)))
          simp only [if_true]
          refine wp_if_neg (by simp [same]) (ih _ _ rfl (by omega) (by omega) fun i2 p2 h2 k2 => ?_)
          obtain ⟨c', b1, b2, b3⟩ := ahead i2 p2 h2 k2
          refine ⟨c', ?_, b2, b3⟩
          have far : ¬ c' < c + q := fun z => before (c' - c) i2 (by omega) (by rw [jj, show c + (c' - c) = c' by omega]; exact b3) (by rw [hash_at i2 p2 h2, k2])
          have other : c' ≠ c + q := fun z => by
            rw [z] at b3
            have l2 := slot_live R.tab.ris b3
            rw [live] at l2
            cases l2
            rw [hp] at h2
            exact same (by rw [Option.some.inj h2]; exact k2)
          omega
      by_cases hl : t.led = true
      · refine wp_if_neg (by simp [hl]) ?_
        try refine wpAny_bind (wpAny_pure ?_)
        exact goal
      · refine wp_if_pos (by simp [hl]) (wpAny_bind (quiet_search hx (fun y hy => ?_) ?_))
        · obtain ⟨e, he, ee⟩ := List.mem_map.mp hy
          have me : e ∈ es.toList := by
            have : e ∈ es ∧ e.1 = nhash P w k := by simpa using he
            simpa using this.1
          rw [R.rows] at me
          obtain ⟨p2, m2, e2⟩ := List.mem_map.mp me
          exact ⟨p2.2, p2.1, by rw [← ee, ← e2]; rfl, R.keys p2 m2⟩
        · refine wp_if_neg (by decide) ?_
          try refine wpAny_bind (wpAny_pure ?_)
          exact goal
    · have pr : t.probe (fun i => (es[i]?.map (·.1)).getD 0) (nhash P w k) (at?.getD (t.probeStart (nhash P w k))) = some (.empty (way t.mask (nhash P w k) N) none) := by
        have e2 := jj (N - c)
        rw [show c + (N - c) = N by omega] at e2
        rw [hat, ← e2]
        exact probed
      rw [pr]
      dsimp only
      refine wpAny_pure (no fun hm => ?_)
      obtain ⟨p, pm, pk⟩ := List.mem_map.mp hm
      obtain ⟨i, hi⟩ := List.mem_iff_getElem?.mp pm
      obtain ⟨c', b1, b2, b3⟩ := ahead i p hi pk
      exact before (c' - c) i (by omega) (by rw [jj, show c + (c' - c) = c' by omega]; exact b3) (by rw [hash_at i p hi, pk])
theorem sn_search (R : Sn P w s.heap a L es ep t) {x : Addr} {k : NestedKey} (hx : IsN P w s.heap k x) (hu : A.units + 8 < cLine) {Q : SetFound → Shared → Prop} (yes : k ∈ L.map (·.2) → Q (.there none) s)
    (no : ∀ N, k ∉ L.map (·.2) → way t.mask (nhash P w k) N ∉ t.place.toList → (∀ c, c < N → way t.mask (nhash P w k) c ∈ t.place.toList) → Q (.free (way t.mask (nhash P w k) N) false) s) :
    wpAny (model P w) A (setSearch a (.ref x) (nhash P w k) true) Q E s := by
  have rm := R.room
  obtain ⟨N, n1, n2, n3⟩ := R.tab.first (by rw [List.length_map]; omega) (nhash P w k)
  have few : N < 100000 := by
    have : SetTable.turns t.mask ≤ 142 := by
      unfold SetTable.turns
      rcases R.tab.mok with e | e | e <;> omega
    omega
  unfold setSearch
  refine sn_go R hx hu n1 n2 n3 yes (fun z => no N z n2 n3) 100000 0 none rfl (Nat.zero_le _) (by omega) fun i p hp hk => ?_
  have hi : (L.map fun p => nhash P w p.2)[i]? = some (nhash P w k) := by rw [List.getElem?_map, hp, ← hk] <;> rfl
  have il : i < t.place.toList.length := by
    rw [Array.length_toList, R.tab.sz, List.length_map]
    exact (List.getElem?_eq_some_iff.mp hp).1
  obtain ⟨c, c1, c2⟩ := R.tab.before n2 hi (List.getElem?_eq_getElem il)
  exact ⟨c, Nat.zero_le _, c1, by rw [List.getElem?_eq_getElem il, c2]⟩
end
end LW
/-! The set of such keys: a new key, the table laid anew, set(xs), its length. -/
namespace LW
open PySem PySem.Spec PyProof.Rows L2 SX
section
variable {P : Program} {w : World} {A : Around} {E : Value → Shared → Prop} {s : Shared} {a : Addr} {L : List Row} {es : Array (Int × Value)} {ep : Nat} {t : SetTable}
/-- only the set is written: a key stays -/
theorem IsN.but {h h' : Heap} {k : NestedKey} {b : Addr} {o : Obj} (x : IsN P w h k b) (oa : h.get? a = some o) (od : o.data = .set es ep t) (sb : Heap.SameBut a h h') : IsN P w h' k b :=
  x.at fun c oc vs n hc hd => (sb.2 c fun z => by rw [z, oa] at hc; cases hc; rw [od] at hd; cases hd).trans hc
/-- the rows in another order -/
theorem rows_order {order : Array Nat} (hr : es.toList = L.map (rowV P w)) (hp : order.toList.Perm (List.range L.length)) :
    ∃ M : List Row, (order.filterMap (es[·]?)).toList = M.map (rowV P w) ∧ M.Perm L ∧ (M.map fun p => nhash P w p.2) = order.toList.map fun i => (es.map (·.1)).getD i 0 := by
  have part : ∀ l : List Nat, (∀ i ∈ l, i < L.length) → (l.filterMap fun i => es[i]?) = (l.filterMap fun i => L[i]?).map (rowV P w) ∧ ((l.filterMap fun i => L[i]?).map fun p => nhash P w p.2) = l.map fun i => (es.map (·.1)).getD i 0 := by
    intro l
    induction l with
    | nil => intro _; exact ⟨rfl, rfl⟩
    | cons i l ih =>
      intro hl
      obtain ⟨p, pi⟩ : ∃ p, L[i]? = some p := ⟨_, List.getElem?_eq_getElem (hl i List.mem_cons_self)⟩
      obtain ⟨r1, r2⟩ := ih fun j hj => hl j (List.mem_cons_of_mem _ hj)
      have ei := rows_at hr pi
      have eh : (es.map (·.1)).getD i 0 = nhash P w p.2 := by
        have : (es.map (·.1))[i]? = some (nhash P w p.2) := by rw [Array.getElem?_map, ei] <;> rfl
        simp [Array.getD_eq_getD_getElem?, this]
      rw [List.filterMap_cons_some ei, List.filterMap_cons_some pi, List.map_cons, List.map_cons, List.map_cons, r1, r2, eh]
      exact ⟨rfl, rfl⟩
  obtain ⟨q1, q2⟩ := part order.toList fun i hi => List.mem_range.mp (hp.mem_iff.mp hi)
  refine ⟨_, by rw [Array.toList_filterMap]; exact q1, ?_, q2⟩
  have all_ : ∀ n, n ≤ L.length → ((List.range n).filterMap fun i => L[i]?) = L.take n := by
    intro n
    induction n with
    | zero => intro _; rfl
    | succ n ih =>
      intro hn
      have e : L[n]? = some L[n] := List.getElem?_eq_getElem hn
      rw [List.range_succ, List.filterMap_append, ih (by omega), List.take_add_one, e, List.filterMap_cons_some e]
      rfl
  have := hp.filterMap fun i => L[i]?
  rw [all_ L.length (Nat.le_refl _), List.take_length] at this
  exact this
/-- the table laid anew, larger -/
theorem sn_relay {o : Obj} (oa : s.heap.get? a = some o) (oe : o.ExactSet) (od : o.data = .set es ep t) (hr : es.toList = L.map (rowV P w)) (tb : TabOk t (L.map fun p => nhash P w p.2)) (le : L.length ≤ t.mask)
    (nd : (L.map (·.2)).Nodup) (keys : ∀ p ∈ L, IsN P w s.heap p.2 p.1) (pl : t.plain = true) (ld : w.params.followText "set-order" = true ∨ t.led = true) (few : L.length < 64) {want M : Nat}
    (hw : SetTable.sizeAbove want - 1 = M) (hM : MaskOk M) (h128 : SetTable.sizeAbove want ≤ 128) (rm : L.length * 5 < M * 3) {Q : Unit → Shared → Prop}
    (q : ∀ h' L' es' ep' t', Heap.SameBut a s.heap h' → Sn P w h' a L' es' ep' t' → L'.Perm L → Q () { s with heap := h' }) : wpAny (model P w) A (setRelay a want) Q E s := by
  have sz := rows_size hr
  obtain ⟨t', order, laid, perm, T, em, el, epl, edm⟩ := relaid_ok t (hs := es.map (·.1)) (wanted := want) hw hM (by rw [Array.size_map, sz]; omega)
  rw [Array.size_map, sz] at perm
  obtain ⟨M', r1, r2, r3⟩ := rows_order hr perm
  rw [← r3] at T
  have sz2 := rows_size r1
  rw [setRelay_eq]
  refine wpAny_bind (wpAny_setState_of oa od (fit_of sz tb le) ?_)
  dsimp only
  refine wp_if_neg (by rw [sizeLine_eq]; omega) ?_
  try refine wpAny_bind (wpAny_pure ?_)
  rw [laid]
  dsimp only
  refine wpAny_bind (wp_if_neg (by rw [sz2, r2.length_eq, sz]; simp) ?_)
  try refine wpAny_bind (wpAny_pure ?_)
  refine wpAny_pure ?_
  dsimp only
  refine wpAny_storeSet_of oa od ?_ (by rw [sz2, r2.length_eq, sizeLine_eq]; omega)
  have sb : Heap.SameBut a s.heap (s.heap.update a (Obj.putSet (order.filterMap (es[·]?)) t')) := Heap.SameBut.update ..
  exact q _ M' _ (ep + 1) t' sb ⟨⟨_, store_at oa od, ⟨oe.1, oe.2.1, oe.2.2⟩, rfl⟩, r1, T, (r2.map (·.2)).nodup_iff.mpr nd, fun p hp => (keys p (r2.mem_iff.mp hp)).but oa od sb, by rw [epl]; exact pl, by rw [el]; exact ld,
    by rw [r2.length_eq, em]; exact rm, by rw [r2.length_eq]; exact few⟩ r2
/-- a key is added -/
theorem sn_add (R : Sn P w s.heap a L es ep t) {x : Addr} {k : NestedKey} (hx : IsN P w s.heap k x) (hu : A.units + 8 < cLine) (more : L.length + 1 < 64) {Q : Bool → Shared → Prop}
    (q : ∀ b h' L' es' ep' t', Heap.SameBut a s.heap h' → Sn P w h' a L' es' ep' t' → (k ∈ L.map (·.2) → L' = L) → (k ∉ L.map (·.2) → L'.Perm ((x, k) :: L)) → Q b { s with heap := h' }) :
    wpAny (model P w) A (setAddHashed a (.ref x) (nhash P w k)) Q E s := by
  obtain ⟨o, oa, oe, od⟩ := R.ob
  have sz := rows_size R.rows
  have rm := R.room
  have fit := R.fit
  unfold setAddHashed
  rw [show (100000 : Nat) = 99999 + 1 from rfl, setAddHashedIn_succ]
  refine wpAny_holding (wpAny_bind (wpAny_setState_of oa od fit ?_))
  dsimp only
  refine wp_if_neg (by simp [byScan, Value.scannable]) ?_
  try refine wpAny_bind (wpAny_pure ?_)
  refine wpAny_bind (sn_search R hx hu (fun hm => ?_) fun N hm hN hb => ?_)
  · exact wpAny_pure (q false s.heap L es ep t (Heap.SameBut.refl a s.heap) R (fun _ => rfl) fun z => absurd hm z)
  · dsimp only
    refine wpAny_bind (wpAny_setState_of oa od fit ?_)
    dsimp only
    obtain ⟨p1, p2, p3, p4, p5, p6, p7, p8, p9⟩ := R.tab.put hN hb
    generalize hput : t.put (way t.mask (nhash P w k) N) = pt at p1 p3 p4 p5 p6 p7 p8 p9 ⊢
    obtain ⟨t1, pos⟩ := pt
    dsimp only at p1 p3 p4 p5 p6 p7 p8 p9 ⊢
    have pl1 : t1.plain = true := by rw [p6]; exact R.pl
    first
      | (refine wpAny_bind (wp_if_pos pl1 (hashBy_item 8 _ hx.item ?_)))
      | refine wp_if_pos pl1 (wpAny_bind (hashBy_item 8 _ hx.item ?_))
    simp only [if_true]
    rw [← p1] at p2 p3
    have ins : (SetTable.insertAt es pos (nhash P w k, Value.ref x)).toList = (L.take pos ++ (x, k) :: L.drop pos).map (rowV P w) := by
      rw [SetTable.toList_insertAt, R.rows, List.map_append, List.map_cons, List.map_take, List.map_drop]
      rfl
    have pm : (L.take pos ++ (x, k) :: L.drop pos).Perm ((x, k) :: L) := put_perm L pos (x, k)
    have tb : TabOk t1 ((L.take pos ++ (x, k) :: L.drop pos).map fun p => nhash P w p.2) := by
      rw [List.map_append, List.map_cons, List.map_take, List.map_drop]
      exact p3
    generalize L.take pos ++ (x, k) :: L.drop pos = L1 at ins pm tb
    generalize SetTable.insertAt es pos (nhash P w k, Value.ref x) = es1 at ins ⊢
    have len1 : L1.length = L.length + 1 := pm.length_eq
    have sz1 := rows_size ins
    have nd1 : (L1.map (·.2)).Nodup := (pm.map (·.2)).nodup_iff.mpr (List.nodup_cons.mpr ⟨hm, R.nd⟩)
    refine wpAny_bind (wpAny_storeSet_of oa od ?_ (by rw [sz1, len1, sizeLine_eq]; omega))
    have sb : Heap.SameBut a s.heap (s.heap.update a (Obj.putSet es1 t1)) := Heap.SameBut.update ..
    have oa1 := store_at (es' := es1) (t' := t1) oa od
    generalize s.heap.update a (Obj.putSet es1 t1) = h1 at sb oa1 ⊢
    have keys1 : ∀ p ∈ L1, IsN P w h1 p.2 p.1 := fun p hp => by
      rcases List.mem_cons.mp (pm.mem_iff.mp hp) with e | hp
      · subst e
        exact hx.but oa od sb
      · exact (R.keys p hp).but oa od sb
    have ld1 : w.params.followText "set-order" = true ∨ t1.led = true := by rw [p5]; exact R.ld
    have full : t1.tooFull = decide ((L.length + 1) * 5 ≥ t.mask * 3) := by
      unfold SetTable.tooFull
      rw [p9, List.length_map, p4]
    by_cases hf : (L.length + 1) * 5 ≥ t.mask * 3
    · have hf1 : t1.tooFull = true := by rw [full]; exact decide_eq_true hf
      have two : (t.mask = 7 ∧ L.length = 4) ∨ (t.mask = 31 ∧ L.length = 18) := by
        rcases R.tab.mok with e | e | e <;> rw [e] at hf rm
        · exact .inl ⟨e, by omega⟩
        · exact .inr ⟨e, by omega⟩
        · omega
      have go : ∀ M, SetTable.sizeAbove (SetTable.grown (es.size + 1)) - 1 = M → MaskOk M → SetTable.sizeAbove (SetTable.grown (es.size + 1)) ≤ 128 → L1.length * 5 < M * 3 →
          wpAny (model P w) A (setRelay a (SetTable.grown (es.size + 1))) (fun _ z => wpAny (model P w) A (pure true) Q E z) E { s with heap := h1 } := fun M g1 g2 g3 g4 =>
        sn_relay (s := { s with heap := h1 }) oa1 ⟨oe.1, oe.2.1, oe.2.2⟩ rfl ins tb (by rw [len1, p4]; rcases two with ⟨e, e2⟩ | ⟨e, e2⟩ <;> omega) nd1 keys1 pl1 ld1 (by omega) g1 g2 g3 g4
          fun h2 L2 es2 ep2 t2 sb2 R2 pm2 => wpAny_pure (q true h2 L2 es2 ep2 t2 (sb.trans sb2) R2 (fun z => absurd z hm) fun _ => pm2.trans pm)
      have done_ : wpAny (model P w) A (setRelay a (SetTable.grown (es.size + 1))) (fun _ z => wpAny (model P w) A (pure true) Q E z) E { s with heap := h1 } := by
        rcases two with ⟨_, e2⟩ | ⟨_, e2⟩
        · exact go 31 (by rw [sz, e2, size_20]) (.inr (.inl rfl)) (by rw [sz, e2, size_20]; decide) (by omega)
        · exact go 127 (by rw [sz, e2, size_76]) (.inr (.inr rfl)) (by rw [sz, e2, size_76]; decide) (by omega)
      first
        | exact wpAny_bind (wp_if_pos (by simp [hf1]) done_)
        | exact wp_if_pos (by simp [hf1]) (wpAny_bind done_)
    · have hf1 : ¬ t1.tooFull = true := by rw [full]; simpa using hf
      have R1 : Sn P w h1 a L1 es1 (ep + 1) t1 := ⟨⟨_, oa1, ⟨oe.1, oe.2.1, oe.2.2⟩, rfl⟩, ins, tb, nd1, keys1, pl1, ld1, by rw [p4]; omega, by omega⟩
      have done_ : Q true { s with heap := h1 } := q true h1 L1 es1 (ep + 1) t1 sb R1 (fun z => absurd z hm) fun _ => pm
      first
        | exact wp_if_neg (by simp [hf1]) (wpAny_pure done_)
        | exact wpAny_bind (wp_if_neg (by simp [hf1]) (wpAny_pure (wpAny_pure done_)))
        | exact wp_if_neg (by simp [hf1]) (wpAny_bind (wpAny_pure (wpAny_pure done_)))
end
end LW
/-! set(xs) of such keys. -/
namespace LW
open PySem PySem.Spec PyProof.Rows L2 SX
/-- what the set holds of the first i items -/
def Had (ks : List Row) (i : Nat) (L : List Row) : Prop := (∀ p ∈ L, p ∈ ks.take i) ∧ (∀ p ∈ ks.take i, p.2 ∈ L.map (·.2)) ∧ L.length ≤ i
theorem had_step {ks L M : List Row} {i : Nat} {x : Row} (g : Had ks i L) (h : ks[i]? = some x) (h1 : x.2 ∈ L.map (·.2) → M = L) (h2 : x.2 ∉ L.map (·.2) → M.Perm (x :: L)) : Had ks (i + 1) M := by
  obtain ⟨g1, g2, g3⟩ := g
  have e : ks.take (i + 1) = ks.take i ++ [x] := by rw [List.take_add_one, h]; rfl
  have back : ∀ p ∈ ks.take (i + 1), p ∈ ks.take i ∨ p = x := fun p hp => by
    rw [e] at hp
    exact (List.mem_append.mp hp).imp id fun z => List.mem_singleton.mp z
  by_cases c : x.2 ∈ L.map (·.2)
  · rw [h1 c]
    refine ⟨fun p hp => by rw [e]; exact List.mem_append_left _ (g1 p hp), fun p hp => ?_, by omega⟩
    rcases back p hp with z | z
    · exact g2 p z
    · rw [z]; exact c
  · have pm := h2 c
    refine ⟨fun p hp => ?_, fun p hp => ?_, by rw [pm.length_eq, List.length_cons]; omega⟩
    · rw [e]
      rcases List.mem_cons.mp (pm.mem_iff.mp hp) with z | z
      · rw [z]; simp
      · exact List.mem_append_left _ (g1 p z)
    · rw [(pm.map (·.2)).mem_iff, List.map_cons]
      rcases back p hp with z | z
      · exact List.mem_cons_of_mem _ (g2 p z)
      · rw [z]; exact List.mem_cons_self
section
variable {P : Program} {w : World} {A : Around} {E : Value → Shared → Prop} {s : Shared}
theorem Sn.moved {h h' : Heap} {a : Addr} {L : List Row} {es : Array (Int × Value)} {ep : Nat} {t : SetTable} (R : Sn P w h a L es ep t) (ha : ∀ o, h.get? a = some o → h'.get? a = some o) (hk : ∀ p ∈ L, IsN P w h' p.2 p.1) : Sn P w h' a L es ep t := by
  obtain ⟨o, oa, r⟩ := R.ob
  exact ⟨⟨o, ha o oa, r⟩, R.rows, R.tab, R.nd, hk, R.pl, R.ld, R.room, R.few⟩
abbrev freshSet (w : World) : Obj := { cls := .type "set", dict := none, data := .set #[] 0 (.fresh 0 0 (!w.params.followText "set-order")) }
theorem sn_fresh {h : Heap} {a : Addr} (oa : h.get? a = some (freshSet w)) : Sn P w h a [] #[] 0 (.fresh 0 0 (!w.params.followText "set-order")) := by
  refine ⟨⟨_, oa, ⟨rfl, rfl, rfl⟩, rfl⟩, rfl, ⟨List.Pairwise.nil, rfl, rfl, .inl rfl, fun x hx => (by cases hx), fun i h j hi => (by simp at hi)⟩, List.nodup_nil, fun p hp => (by cases hp), rfl, ?_, by show 0 * 5 < 7 * 3; decide, by decide⟩
  cases e : w.params.followText "set-order"
  · exact .inr rfl
  · exact .inl rfl
theorem room_up {k : NestedKey} {b : Addr} {h h' : Heap} (x : IsN P w h k b) (up : ∀ c o, h.get? c = some o → h'.get? c = some o) : IsN P w h' k b := x.at fun c o _ _ e _ => up c o e
/-- the loop that adds what an iterator tells -/
theorem sn_loop {I : Addr} {fp wr : List Addr} {G : Array GenState → Array GenState → Prop} {n : Nat} {Pv : Nat → Value → Prop} {St : Nat → Shared → Prop} {R : Result → Shared → Prop} (W : WalksS P w A.in1 I fp wr G n Pv St) (S : Addr) (offS : S ∉ fp)
    (ks : List Row) (hn : n = ks.length) (few : ks.length < 64) (val : ∀ i v, Pv i v → ∃ p, ks[i]? = some p ∧ v = .ref p.1) (hp0 : Heap) (keys : ∀ p ∈ ks, IsN P w hp0 p.2 p.1) (freeS : hp0.get? S = none) (freeW : ∀ b ∈ wr, hp0.get? b = none)
    (hu : A.in1.units + 8 < cLine) : ∀ (k i : Nat) (s : Shared), n - i = k → i ≤ n → St i s → (∀ b o, hp0.get? b = some o → s.heap.get? b = some o) → (∃ L es ep t, Sn P w s.heap S L es ep t ∧ Had ks i L) →
      (∀ s' L es ep t, Moved (S :: wr) G s s' → Sn P w s'.heap S L es ep t → Had ks n L → (∀ b o, hp0.get? b = some o → s'.heap.get? b = some o) → R (.ok (.ret .none)) s') →
      codeAny (model P w) A (.builtin "set.update.loop" ⟨[.ref S, .ref I], []⟩) R s := by
  have offW : S ∉ wr := fun z => offS (W.sub _ z)
  have wider : ∀ b ∈ wr, b ∈ S :: wr := fun b z => List.mem_cons_of_mem _ z
  have kept : ∀ {s s' : Shared}, Moved wr G s s' → (∀ b o, hp0.get? b = some o → s.heap.get? b = some o) → ∀ b o, hp0.get? b = some o → s'.heap.get? b = some o := fun mv up b o e => mv.heap b o (fun z => by rw [freeW b z] at e; cases e) (up b o e)
  intro k
  induction k with
  | zero =>
    intro i s hk hi st up ⟨L, es, ep, t, sn, had⟩ fin
    obtain rfl : i = n := by omega
    refine codeAny_builtin F.entry_set_update_loop ?_
    rw [Around.under_plainId F.plain_set_update_loop _]
    show wpAny _ A.in1 (do let r ← pyNext (.ref I); _) _ _ s
    refine wpAny_bind (W.done s _ _ st fun s' mv => ?_)
    have up' := kept mv up
    show wpAny _ A.in1 (ret Value.none) _ _ s'
    exact wpAny_pure (fin s' L es ep t (mv.mono wider) (sn.moved (fun o e => mv.heap S o offW e) fun p hp => room_up (keys p (List.mem_of_mem_take (had.1 p hp))) up') had up')
  | succ k ih =>
    intro i s hk hi st up ⟨L, es, ep, t, sn, had⟩ fin
    have lt : i < n := by omega
    refine codeAny_builtin F.entry_set_update_loop ?_
    rw [Around.under_plainId F.plain_set_update_loop _]
    show wpAny _ A.in1 (do let r ← pyNext (.ref I); _) _ _ s
    refine wpAny_bind (W.item i s _ _ lt st fun v s' pv st' mv => ?_)
    obtain ⟨p, hp, ev⟩ := val i v pv
    subst ev
    have up' := kept mv up
    have sn' : Sn P w s'.heap S L es ep t := sn.moved (fun o e => mv.heap S o offW e) fun y hy => room_up (keys y (List.mem_of_mem_take (had.1 y hy))) up'
    have hx := room_up (keys p (List.mem_of_getElem? hp)) up'
    show wpAny _ A.in1 (do let r ← holding [Value.ref p.1] (setAdd S (.ref p.1)); _) _ _ s'
    refine wpAny_bind (wpAny_holding ?_)
    unfold setAdd
    refine wpAny_holding (wpAny_bind ((nestedKind P w).pyHash hu hx.1 ?_))
    refine sn_add (s := { s' with toks := s'.toks + (nestedKind P w).draws p.2 }) sn' hx hu (by have := had.2.2; omega) fun b h' L' es' ep' t' sb sn2 c1 c2 => ?_
    have up2 : ∀ c o, hp0.get? c = some o → h'.get? c = some o := fun c o e => (sb.2 c fun z => by rw [z, freeS] at e; cases e).trans (up' c o e)
    have stay : ∀ c, c ∈ fp → c ≠ S := fun c hc z => offS (z ▸ hc)
    refine wpAny_pure ⟨plainId_quiet F.plain_set_update_loop _, ih (i + 1) _ (by omega) lt (W.frame _ s' _ _ st' (Nat.le_add_right _ _) fun c hc o e => (sb.2 c (stay c hc)).trans e) up2 ⟨L', es', ep', t', sn2, had_step had hp c1 c2⟩ fun s'' L2 es2 ep2 t2 mv2 sn3 had3 up3 => ?_⟩
    exact fin s'' L2 es2 ep2 t2 (Moved.trans W.gtrans ((mv.mono wider).then_heap (Nat.le_add_right _ _) fun c o hc e => (sb.2 c fun z => hc (z ▸ List.mem_cons_self)).trans e) mv2) sn3 had3 up3
end
local macro_rules | `(tactic| walk_at "st") => `(tactic| repeat (any_goals (first | assumption | wp_step)))
section
variable {P : Program} {w : World} {A : Around} {E : Value → Shared → Prop} {s : Shared}
/-- set(xs) of a list of such keys -/
theorem call_setN {l : Addr} {items : Array Value} (ks : List Row) {Q : Value → Shared → Prop} (hh : A.handled = none) (hl : s.heap.IsList l items) (hit : items.toList = ks.map fun p => Value.ref p.1) (keys : ∀ p ∈ ks, IsN P w s.heap p.2 p.1) (few : ks.length < 64) (hu : A.units + 16 < cLine)
    (q : ∀ (h' : Heap) (tk : Nat) L es ep t, Sn P w h' s.heap.objs.size L es ep t → Had ks ks.length L → (∀ b o, s.heap.get? b = some o → h'.get? b = some o) → Q (.ref s.heap.objs.size) { s with heap := h', toks := tk }) :
    wpAny (model P w) A (call (.type "set") [.ref l]) Q E s := by
  have sz : items.size = ks.length := by rw [← Array.length_toList, hit, List.length_map]
  obtain ⟨c, tl, hmro⟩ := F.called_set.mro
  have f1 := F.called_set.made
  have f2 := F.called_set.sub
  have f3 := F.called_set.notType
  have f4 := F.called_set.canCreate
  have f5 := F.typeCall_set_1 (.ref l)
  refine wpAny_call (codeAny_of_tree ?_)
  show wpAny _ _ (callAny (.type "set") ⟨[.ref l], []⟩) _ _ _
  refine wpAny_pure ⟨Code.quiet_builtin _ (by decide +kernel), codeAny_builtin F.entry_type_call ?_⟩
  rw [Around.under_plain (weight_type_call_type "set" [.ref l] []) rfl]
  walk_at "st"
  refine codeAny_mono (code_set_led1 (.ref l) (E := E) (Q₁ := fun v z => v = .ref s.heap.objs.size ∧ z = { s with heap := s.heap.push (freshSet w) }) ⟨rfl, rfl⟩) fun r s₁ hr => ?_
  match r, hr with
  | .error e, hr => exact hr
  | .ok .next, hr => exact hr.elim
  | .ok .brk, hr => exact hr.elim
  | .ok .cont, hr => exact hr.elim
  | .ok (.ret v), hr =>
    obtain ⟨ev, es1⟩ := hr
    subst ev
    subst es1
    have oS : (s.heap.push (freshSet w)).get? s.heap.objs.size = some (freshSet w) := Heap.get?_push_size _ rfl
    have ty : Shared.TypeIs { s with heap := s.heap.push (freshSet w) } (.ref s.heap.objs.size) "set" := ⟨_, oS, rfl⟩
    have i1 := F.called_set.init.lookup
    have i2 := F.called_set.init.bind (.ref s.heap.objs.size)
    walk_at "st"
    refine codeAny_mono (codeAny_call_builtin (R := wants (fun r z => r = .none ∧ ∃ h' tk L es ep t, z = { s with heap := h', toks := tk } ∧ Sn P w h' s.heap.objs.size L es ep t ∧ Had ks ks.length L ∧ (∀ b o, s.heap.get? b = some o → h'.get? b = some o)) E)
      F.called_set.init.plain F.entry_set_init (check_set_init_1 ty ?_)) fun r2 s2 h2 => ?_
    · obtain ⟨ol, lo, hc, nl, hd⟩ := hl
      obtain ⟨oc, odict, odata, osl⟩ := ol
      simp only at hc hd
      subst hc
      subst hd
      have lo1 : (s.heap.push (freshSet w)).get? l = some { cls := .type "list", dict := odict, data := .seq items nl, slots := osl } := Heap.get?_push_of_some _ lo
      have t1 := F.sub_list_set
      have t2 := F.sub_list_frozenset
      have t3 : (Value.type "list" == Value.type "dict") = false := by decide
      have isl : (s.heap.push (freshSet w)).IsList l items := ⟨_, lo1, rfl, nl, rfl⟩
      unfold Builtin.«set.__init__» noKeywords Builtin.Frozenset.updateFrom
      generalize hPI : pyIter = PI
      wp_walk
      subst hPI
      refine wpAny_pyIter_list isl (wpAny_bind (wpAny_runValue ?_))
      have lS : l < s.heap.objs.size := Heap.lt_size lo
      have zs : (s.heap.push (freshSet w)).objs.size = s.heap.objs.size + 1 := Heap.size_push ..
      have out_ : ∀ b, s.heap.objs.size ≤ b → s.heap.get? b = none := fun b hb => by
        cases e : s.heap.get? b with
        | none => rfl
        | some o => exact absurd (Nat.lt_of_lt_of_le (Heap.lt_size e) hb) (Nat.lt_irrefl b)
      refine sn_loop ((Walks.list (by simp [hh]) _ l (by rw [zs]; exact Nat.ne_of_lt (Nat.lt_succ_of_lt lS)) items).toS) s.heap.objs.size (by rw [zs]; simp only [List.mem_cons, List.not_mem_nil, or_false]; exact fun z => z.elim (Nat.ne_of_lt (Nat.lt_succ_self _)) (Nat.ne_of_gt lS)) ks sz few (fun i v hv => ?_) s.heap keys (out_ _ (Nat.le_refl _)) (fun b hb => out_ b ?_) (by show A.units + 3 + 8 < cLine; omega) (items.size - 0) 0 _ (by omega) (Nat.zero_le _)
        ⟨⟨_, Heap.get?_push_size _ rfl, rfl, rfl⟩, (isl.push _)⟩ (fun b o e => Heap.get?_push_of_some _ (Heap.get?_push_of_some _ e)) ⟨[], #[], 0, _, sn_fresh (Heap.get?_push_of_some _ oS), fun p hp => (by cases hp), fun p hp => (by simp at hp), Nat.le_refl _⟩ fun s' L es ep t mv sn had up => ?_
      · have e : items.toList[i]? = some v := by rw [Array.getElem?_toList]; exact hv
        rw [hit, List.getElem?_map] at e
        cases e2 : ks[i]? with
        | none => rw [e2] at e; cases e
        | some p =>
          rw [e2] at e
          exact ⟨p, rfl, (Option.some.inj e).symm⟩
      · rw [List.mem_singleton.mp hb, zs]
        omega
      · obtain ⟨h', g2, d2, tk, os2⟩ := s'
        have x1 : g2 = s.gens := mv.gens
        have x2 : d2 = s.drawn := mv.drawn
        have x3 : os2 = s.os := mv.os
        subst x1
        subst x2
        subst x3
        show wpAny _ _ _ _ _ _
        refine wpAny_pure ?_
        show wpAny _ _ (ret Value.none) _ _ _
        rw [sz] at had
        exact wpAny_pure ⟨rfl, h', tk, L, es, ep, t, rfl, sn, had, up⟩
    · match r2, h2 with
      | .error e, h2 => exact h2
      | .ok .next, h2 => exact h2.elim
      | .ok .brk, h2 => exact h2.elim
      | .ok .cont, h2 => exact h2.elim
      | .ok (.ret r3), h2 =>
        obtain ⟨e3, h', tk, L, es, ep, t, e4, sn, had, up⟩ := h2
        subst e3
        subst e4
        walk_at "st"
        exact q _ _ _ _ _ _ sn had up
end
end LW
/-! Rules: extend by a tuple; dict of pairs and set of nested tuples, told by their lengths; repr of data with empty dicts. -/
namespace LW
open PySem PySem.Spec PyProof.Rows L2 SX
/-! ### xs.extend(t) -/
def rExtT (K : PySem.W.Frag) : V → List V → Hp → VK → Prop := fun x vs H Q => ∃ (l b : Addr) (xs zs : List V), x = .ref l ∧ vs = [.ref b] ∧ H l = some (.lst xs) ∧ SqT K H b zs ∧ xs.length + zs.length ≤ 100000 ∧ Q .non (upd H l (.lst (xs ++ zs)))
/-! ### keys from data -/
mutual
def nk : PyData → NestedKey
  | .int i => .num i
  | .tuple ds => .tup (nks ds)
  | .none => .none
  | .bool _ => .none
  | .str _ => .none
  | .list _ => .none
  | .dict _ => .none
def nks : List PyData → List NestedKey
  | [] => []
  | d :: ds => nk d :: nks ds
end
mutual
/-- numbers and tuples of such alone -/
def numD : PyData → Bool
  | .int _ => true
  | .tuple ds => numDs ds
  | .none => false
  | .bool _ => false
  | .str _ => false
  | .list _ => false
  | .dict _ => false
def numDs : List PyData → Bool
  | [] => true
  | d :: ds => numD d && numDs ds
end
mutual
theorem numb_nk : ∀ d : PyData, numD d = true → numb (nk d) = true
  | .int _, _ => rfl
  | .tuple ds, h => by
    unfold nk numb
    exact numbs_nk ds (by unfold numD at h; exact h)
  | .none, h => by cases h
  | .bool _, h => by cases h
  | .str _, h => by cases h
  | .list _, h => by cases h
  | .dict _, h => by cases h
theorem numbs_nk : ∀ ds : List PyData, numDs ds = true → numbs (nks ds) = true
  | [], _ => rfl
  | d :: ds, h => by
    unfold numDs at h
    rw [Bool.and_eq_true] at h
    unfold nks numbs
    rw [numb_nk d h.1, numbs_nk ds h.2]
    rfl
end
/-- the data of a node: a tuple of numbers, not too deep -/
def nodeD (d : PyData) : Bool := (match d with | .tuple _ => true | _ => false) && (numD d && decide ((nk d).depth ≤ 8))
/-- what stands at a has n things in it -/
def LenIs (h : Heap) (a : Addr) (n : Nat) : Prop := ((a == sysModules) = false ∧ ∃ es ep, h.DictRaw a es ep ∧ es.size = n) ∨ ∃ (o : Obj) (es : Array (Int × Value)) (ep : Nat) (t : SetTable), h.get? a = some o ∧ o.ExactSet ∧ o.data = .set es ep t ∧ t.fits es.size = true ∧ es.size = n
def LnO (a : Addr) (n : Nat) : HO := .ext fun h => LenIs h a n
theorem LenIs.there {h : Heap} {a : Addr} {n : Nat} (x : LenIs h a n) : ∃ o, h.get? a = some o := by
  rcases x with ⟨_, es, ep, ⟨o, ho, _⟩, _⟩ | ⟨o, es, ep, t, ho, _⟩
  · exact ⟨o, ho⟩
  · exact ⟨o, ho⟩
theorem lnO_ok {P : Program} {w : World} {H : Hp} {h : Heap} {a : Addr} {n : Nat} (x : LenIs h a n) : ObjOk P w H h a (LnO a n) :=
  ⟨x, x.there, fun h1 h2 y k => by
    rcases y with ⟨e, es, ep, ⟨o, ho, r⟩, z⟩ | ⟨o, es, ep, t, ho, r⟩
    · exact .inl ⟨e, es, ep, ⟨o, k o ho, r⟩, z⟩
    · exact .inr ⟨o, es, ep, t, k o ho, r⟩⟩
/-- how many unlike keys there are, by the pairs of a dict -/
theorem merged_len {κ : Type} [DecidableEq κ] : ∀ (kvs acc : List (κ × Value)), (acc.map (·.1)).Nodup → (merged acc kvs).length ≤ acc.length + kvs.length ∧ ((merged acc kvs).length = acc.length + kvs.length ↔ (acc.map (·.1) ++ kvs.map (·.1)).Nodup)
  | [], acc, h => by
    refine ⟨Nat.le_refl _, fun _ => ?_, fun _ => rfl⟩
    rw [List.map_nil, List.append_nil]
    exact h
  | (k, v) :: kvs, acc, h => by
    show (merged (stored acc k v) kvs).length ≤ _ ∧ _
    by_cases hk : k ∈ acc.map (·.1)
    · have any_ : (acc.any fun kv => decide (kv.1 = k)) = true := by
        obtain ⟨kv, h1, h2⟩ := List.mem_map.mp hk
        exact List.any_eq_true.mpr ⟨kv, h1, by simpa using h2⟩
      have e : stored acc k v = acc.map fun kv => if kv.1 = k then (kv.1, v) else kv := by unfold stored; rw [if_pos any_]
      have ek : (stored acc k v).map (·.1) = acc.map (·.1) := by
        rw [e, List.map_map]
        refine List.map_congr_left fun kv _ => ?_
        show (if kv.1 = k then (kv.1, v) else kv).1 = kv.1
        split <;> rfl
      have el : (stored acc k v).length = acc.length := by rw [e, List.length_map]
      obtain ⟨i1, i2⟩ := merged_len kvs (stored acc k v) (by rw [ek]; exact h)
      refine ⟨by rw [List.length_cons]; omega, fun z => ?_, fun z => ?_⟩
      · rw [List.length_cons] at z
        change (merged (stored acc k v) kvs).length = _ at z
        omega
      · exfalso
        rw [List.map_cons, List.nodup_append] at z
        exact z.2.2 k hk k List.mem_cons_self rfl
    · have any_ : ¬ (acc.any fun kv => decide (kv.1 = k)) = true := fun z => by
        obtain ⟨kv, h1, h2⟩ := List.any_eq_true.mp z
        exact hk (List.mem_map.mpr ⟨kv, h1, by simpa using h2⟩)
      have e : stored acc k v = acc ++ [(k, v)] := by unfold stored; rw [if_neg any_]
      have nd : ((stored acc k v).map (·.1)).Nodup := by
        rw [e, List.map_append, List.nodup_append]
        exact ⟨h, by simp, fun a ha b hb => by rw [List.mem_singleton.mp hb]; exact fun z => hk (by rw [show a = k from z] at ha; exact ha)⟩
      obtain ⟨i1, i2⟩ := merged_len kvs (stored acc k v) nd
      have el : (stored acc k v).length = acc.length + 1 := by rw [e, List.length_append]; rfl
      have es : (stored acc k v).map (·.1) ++ kvs.map (·.1) = acc.map (·.1) ++ ((k, v) :: kvs).map (·.1) := by
        rw [e, List.map_append, List.append_assoc]
        rfl
      rw [es, el] at i2
      rw [el] at i1
      refine ⟨by rw [List.length_cons]; omega, ?_⟩
      rw [List.length_cons, ← i2]
      show (merged (stored acc k v) kvs).length = _ ↔ _
      omega
theorem sub_len {κ : Type} [DecidableEq κ] : ∀ (l m : List κ), l.Nodup → (∀ x ∈ l, x ∈ m) → l.length ≤ m.length
  | [], _, _, _ => Nat.zero_le _
  | x :: l, m, nd, h => by
    obtain ⟨n1, n2⟩ := List.nodup_cons.mp nd
    have hx := h x List.mem_cons_self
    have ih := sub_len l (m.erase x) n2 fun y hy => (List.mem_erase_of_ne (fun z => n1 (by rw [← z]; exact hy))).mpr (h y (List.mem_cons_of_mem _ hy))
    have e := List.length_erase_of_mem hx
    have p := List.length_pos_of_mem hx
    rw [List.length_cons]
    omega
theorem shorter {κ : Type} [DecidableEq κ] : ∀ m : List κ, ¬ m.Nodup → ∃ m' : List κ, (∀ x ∈ m, x ∈ m') ∧ m'.length < m.length
  | [], h => absurd List.nodup_nil h
  | y :: r, h => by
    by_cases hy : y ∈ r
    · refine ⟨r, fun x hx => ?_, by rw [List.length_cons]; omega⟩
      rcases List.mem_cons.mp hx with z | z
      · rw [z]; exact hy
      · exact z
    · have hr : ¬ r.Nodup := fun z => h (List.nodup_cons.mpr ⟨hy, z⟩)
      obtain ⟨m', h1, h2⟩ := shorter r hr
      refine ⟨y :: m', fun x hx => ?_, by rw [List.length_cons, List.length_cons]; omega⟩
      rcases List.mem_cons.mp hx with z | z
      · rw [z]; exact List.mem_cons_self
      · exact List.mem_cons_of_mem _ (h1 x z)
/-- .. by what a set got -/
theorem had_len {ks L : List Row} (g : Had ks ks.length L) (nd : (L.map (·.2)).Nodup) : L.length = ks.length ↔ (ks.map (·.2)).Nodup := by
  obtain ⟨g1, g2, g3⟩ := g
  rw [List.take_length] at g1 g2
  have sub : ∀ k ∈ ks.map (·.2), k ∈ L.map (·.2) := fun k hk => by
    obtain ⟨p, hp, rfl⟩ := List.mem_map.mp hk
    exact g2 p hp
  have sub2 : ∀ k ∈ L.map (·.2), k ∈ ks.map (·.2) := fun k hk => by
    obtain ⟨p, hp, rfl⟩ := List.mem_map.mp hk
    exact List.mem_map.mpr ⟨p, g1 p hp, rfl⟩
  constructor
  · intro e
    refine Classical.byContradiction fun z => ?_
    obtain ⟨m', h1, h2⟩ := shorter _ z
    have := sub_len _ m' nd fun x hx => h1 x (sub2 x hx)
    rw [List.length_map] at this h2
    omega
  · intro h
    have := sub_len _ _ h sub
    rw [List.length_map, List.length_map] at this
    omega
def rDictN (K : PySem.W.Frag) : List V → Hp → VK → Prop := fun xs H Q => ∃ (l : Addr) (ts vs : List V) (ds : List PyData), xs = [.ref l] ∧ SqL K H l ts ∧ Paired (fun t v => ∃ p, t = V.ref p ∧ SqT K H p [v, .bl true]) ts vs ∧ DpAll K H vs ds ∧ (∀ d ∈ ds, nodeD d = true) ∧ ds.length ≤ 100000 ∧
  ∀ a H' n, H a = none → Ex H H' → H' a = some (LnO a n) → n ≤ ds.length → (n = ds.length ↔ (ds.map nk).Nodup) → Q (.ref a) H'
def rSetN (K : PySem.W.Frag) : List V → Hp → VK → Prop := fun xs H Q => ∃ (l : Addr) (vs : List V) (ds : List PyData), xs = [.ref l] ∧ SqL K H l vs ∧ DpAll K H vs ds ∧ (∀ d ∈ ds, nodeD d = true) ∧ ds.length < 64 ∧
  ∀ a H' n, H a = none → Ex H H' → H' a = some (LnO a n) → n ≤ ds.length → (n = ds.length ↔ (ds.map nk).Nodup) → Q (.ref a) H'
def rLenN : List V → Hp → VK → Prop := fun xs H Q => ∃ (a : Addr) (n : Nat), xs = [.ref a] ∧ H a = some (LnO a n) ∧ n ≤ 100000 ∧ Q (.int n) H
end LW
/-! The rules of Pre18, shown. -/
namespace LW
open PySem PySem.Spec PyProof.Rows L2 SX
theorem meets_extT (l b : Addr) (xs ys : Array Value) (n : Nat) :
    Meets (Builtin.«list.extend» ⟨[.ref l, .ref b], []⟩) (fun _ R s => s.heap.get? l = some { cls := .type "list", data := .seq xs n } ∧ (∃ o m, s.heap.get? b = some o ∧ o.cls = .type "tuple" ∧ o.data = .seq ys m) ∧ xs.size + ys.size ≤ sizeLine ∧
      R (.ok (.ret .none)) { s with heap := s.heap.update l (Obj.mapSeq (· ++ ys)) }) :=
  .of_wp fun prog w A R s h => by
    obtain ⟨hl, ⟨o, m, ho, hc, hd⟩, hz, q⟩ := h
    unfold Builtin.«list.extend»
    refine wpAny_bind (wpAny_pure ?_)
    show wpAny _ _ (Builtin.List.listExtendWith (.ref l) (.ref b) .none) _ _ s
    unfold Builtin.List.listExtendWith
    refine wpAny_bind (wpAny_typeOf (T := "tuple") ⟨o, ho, hc⟩ ?_)
    have e1 : (Value.type "tuple" == Value.type "tuple") = true := by rfl
    rw [if_pos (by rw [e1]; simp)]
    refine wpAny_bind (listItems_at ho hd (wpAny_bind (listItems_at hl rfl ?_)))
    have e2 : (!xs.isEmpty && Builtin.List.listTooLong (xs.size + ys.size)) = false := by rw [notLongL hz, Bool.and_false]
    rw [e2, if_neg (by decide)]
    try refine wpAny_bind (wpAny_pure ?_)
    refine wpAny_bind (listUpdate_at hl rfl ?_ (by omega) (by rw [Array.size_append]; omega))
    exact wpAny_bind (wpAny_pure (wpAny_pure ⟨_, rfl, q⟩))
section
variable {X : Cx} {pins : List (Addr × Obj)} {σ : L2.St} {H : Hp} {s : Shared}
theorem m_extT : MtM X "list.extend" (rExtT X.K) := by
  intro pins s σ H x vs v us Q I rx rv h
  obtain ⟨l, b, xs, zs, rfl, rfl, hH, hB, hz, q⟩ := h
  cases rx
  obtain ⟨u, eu, ru⟩ := rv.one
  subst eu
  cases ru
  obtain ⟨z, its, n, r, hl, e⟩ := I.lstM hH
  obtain ⟨its2, r2, ⟨o, ho, hc, n2, hd⟩, _⟩ := I.tuple hB
  have lx := r.length
  have lz := r2.length
  have hs := Evl.sz_of hz
  refine call_meets F.slot_list_extend ⟨_, e, rfl⟩ F.entry_list_extend (F.args_list_extend_2 _ _) (meets_extT l b its.toArray its2.toArray n) ⟨e, ⟨o, n2, ho, hc, hd⟩, by rw [List.size_toArray, List.size_toArray]; omega, ?_⟩
  exact ⟨.non, _, I.lset (its' := its ++ its2) hH e (by simp) (r.append r2) (by rw [List.length_append]; omega), rfl, q⟩
theorem m_extTK {K : PySem.W.Frag} (h : X.K = K := by rfl) : MtM X "list.extend" (rExtT K) := h ▸ m_extT
mutual
theorem nested_of (I : Inv X pins σ H s) : ∀ (d : PyData) (v : V) (u : Value), Dp X.K H v d → numD d = true → RelV v u → NestedIs s.heap (nk d) u
  | .int i, _, _, h, _, r => by
    cases h
    obtain ⟨t, rfl⟩ := r
    exact .int i t
  | .tuple ds, _, _, h, n, r => by
    cases h with
    | tup a b =>
      cases r
      obtain ⟨its, rv, ⟨o, ho, hc, k, hd⟩, _⟩ := I.tuple a
      unfold nk
      exact .tup ho hc hd (by simpa using nesteds_of I ds _ _ b (by unfold numD at n; exact n) rv)
  | .none, _, _, _, n, _ => by cases n
  | .bool _, _, _, _, n, _ => by cases n
  | .str _, _, _, _, n, _ => by cases n
  | .list _, _, _, _, n, _ => by cases n
  | .dict _, _, _, _, n, _ => by cases n
theorem nesteds_of (I : Inv X pins σ H s) : ∀ (ds : List PyData) (vs : List V) (us : List Value), DpAll X.K H vs ds → numDs ds = true → Vals vs us → NestedAll s.heap (nks ds) us
  | [], _, _, h, _, r => by
    cases h
    cases r
    exact .nil
  | d :: ds, _, _, h, n, r => by
    cases h with
    | cons a b =>
      cases r with
      | cons r1 r2 =>
        unfold numDs at n
        rw [Bool.and_eq_true] at n
        unfold nks
        exact .cons (nested_of I d _ _ a n.1 r1) (nesteds_of I ds _ _ b n.2 r2)
end
theorem isN_of (I : Inv X pins σ H s) {d : PyData} {v : V} {u : Value} (h : Dp X.K H v d) (hn : nodeD d = true) (r : RelV v u) : ∃ p, v = .ref p ∧ u = .ref p ∧ IsN X.prog X.w s.heap (nk d) p := by
  unfold nodeD at hn
  rw [Bool.and_eq_true, Bool.and_eq_true, decide_eq_true_eq] at hn
  obtain ⟨h1, h2, h3⟩ := hn
  have ni := nested_of I d v u h h2 r
  cases h with
  | tup a b =>
    cases r
    exact ⟨_, rfl, rfl, ⟨ni, h3⟩, numb_nk _ h2⟩
  | _ => cases h1
/-- the rows of a list of nodes -/
theorem rows_of (I : Inv X pins σ H s) : ∀ {vs : List V} {ds : List PyData} {us : List Value}, DpAll X.K H vs ds → (∀ d ∈ ds, nodeD d = true) → Vals vs us → ∃ ks : List Row, us = ks.map (fun p => Value.ref p.1) ∧ ks.map (·.2) = ds.map nk ∧ ∀ p ∈ ks, IsN X.prog X.w s.heap p.2 p.1
  | _, _, _, .nil, _, .nil => ⟨[], rfl, rfl, fun p hp => by cases hp⟩
  | _, _, _, .cons a b, hn, .cons r1 r2 => by
    obtain ⟨p, e1, e2, x⟩ := isN_of I a (hn _ List.mem_cons_self) r1
    obtain ⟨ks, k1, k2, k3⟩ := rows_of I b (fun d hd => hn d (List.mem_cons_of_mem _ hd)) r2
    refine ⟨(p, nk _) :: ks, by rw [e2, k1]; rfl, by rw [List.map_cons, List.map_cons, k2], fun y hy => ?_⟩
    rcases List.mem_cons.mp hy with z | z
    · rw [z]; exact x
    · exact k3 y z
theorem c_setN (hc : X.calm = true) (hu : X.A.units + 64 < cLine) : CallR X (.type "set") (rSetN X.K) := by
  intro pins s σ H xs us Q I r h
  obtain ⟨l, vs, ds, rfl, hl, hd, hn, few, q⟩ := h
  rw [Vals.ref1 r]
  obtain ⟨its, rv, pl, hz⟩ := I.list hl
  obtain ⟨ks, k1, k2, k3⟩ := rows_of I hd hn rv
  have hlen : ks.length = ds.length := by
    have := congrArg List.length k2
    rwa [List.length_map, List.length_map] at this
  have nH : H s.heap.objs.size = none := I.hok.fresh (Nat.le_refl _)
  refine call_setN ks (I.ok.hd hc) pl.isList (by simpa using k1) k3 (by omega) (by omega) fun h' tk L es ep t sn had up => ?_
  have hsz := rows_size sn.rows
  have x : LenIs h' s.heap.objs.size L.length := by
    obtain ⟨o, oa, oe, od⟩ := sn.ob
    exact .inr ⟨o, es, ep, t, oa, oe, od, sn.fit (s := { s with heap := h' }), hsz⟩
  have hl2 := had_len had sn.nd
  refine ⟨.ref s.heap.objs.size, upd H s.heap.objs.size (LnO s.heap.objs.size L.length), I.laid (t' := tk) up (Nat.le_refl _) (lnO_ok x), rfl, q _ _ L.length nH (ex_new nH) upd_same (by have := had.2.2; omega) ?_⟩
  rw [← hlen, ← k2]
  exact hl2
theorem pairs_at (I : Inv X pins σ H s) : ∀ {ts vs : List V} {us : List Value}, Paired (fun t v => ∃ p, t = V.ref p ∧ SqT X.K H p [v, .bl true]) ts vs → Vals ts us → ∃ (Ps : List Addr) (ws : List Value), us = Ps.map Value.ref ∧ Vals vs ws ∧ Ps.length = ws.length ∧
    ∀ (j : Nat) (u : Value), ws[j]? = some u → ∃ p, Ps[j]? = some p ∧ IsTup s.heap p #[u, .bool true]
  | _, _, _, .nil, .nil => ⟨[], [], rfl, .nil, rfl, fun j u e => by simp at e⟩
  | _, _, _, .cons ⟨p, e, hp⟩ b, .cons r1 r2 => by
    subst e
    obtain ⟨Ps, ws, k1, k2, k3, k4⟩ := pairs_at I b r2
    cases r1
    obtain ⟨its, rv, ht, _⟩ := I.tuple hp
    obtain ⟨u, y, ei, ru, ry⟩ := vals2 rv
    cases ry
    subst ei
    refine ⟨p :: Ps, u :: ws, by rw [k1]; rfl, .cons ru k2, by simp [k3], fun j u' e' => ?_⟩
    cases j with
    | zero =>
      obtain rfl : u = u' := by simpa using e'
      exact ⟨p, rfl, ht⟩
    | succ j =>
      obtain ⟨p', q1, q2⟩ := k4 j u' (by simpa using e')
      exact ⟨p', by simpa using q1, q2⟩
theorem c_dictN (hc : X.calm = true) (hu : X.A.units + 64 < cLine) : CallR X (.type "dict") (rDictN X.K) := by
  intro pins s σ H xs us Q I r h
  obtain ⟨l, ts, vs, ds, rfl, hl, hp, hd, hn, hz0, q⟩ := h
  rw [Vals.ref1 r]
  obtain ⟨its, rv, pl, hz⟩ := I.list hl
  obtain ⟨Ps, ws, k1, k2, k3, k4⟩ := pairs_at I hp rv
  obtain ⟨ks, r1, r2, r3⟩ := rows_of I hd hn k2
  obtain ⟨o, n, ho, hcl, hdi, hda⟩ := pl
  have lws : ws.length = ks.length := by rw [r1, List.length_map]
  have hlen : ks.length = ds.length := by
    have := congrArg List.length r2
    rwa [List.length_map, List.length_map] at this
  let prs : List (Value × Value) := ws.map fun u => (u, Value.bool true)
  have lprs : prs.length = ks.length := by show (ws.map _).length = _; rw [List.length_map, lws]
  have nH : H s.heap.objs.size = none := I.hok.fresh (Nat.le_refl _)
  have big : (s.heap.objs.size == sysModules) = false := beq_eq_false_iff_ne.mpr (Nat.ne_of_gt I.big)
  have items : PairItems s.heap its.toArray (fun j => Ps.getD j 0) prs := by
    refine ⟨by rw [List.size_toArray, k1, List.length_map, k3, lws, lprs], fun j k v e => ?_⟩
    rw [List.getElem?_map] at e
    cases e1 : ws[j]? with
    | none => rw [e1] at e; cases e
    | some u =>
      rw [e1] at e
      cases e
      obtain ⟨p, p1, o2, p2, p3, n2, p4⟩ := k4 j k e1
      have ed : Ps.getD j 0 = p := by simp [p1]
      show its.toArray[j]? = some (Value.ref (Ps.getD j 0)) ∧ PairAt s.heap (Ps.getD j 0) k (Value.bool true)
      rw [ed]
      refine ⟨by rw [k1]; simp [p1], .inl ⟨o2, p2, p3, n2, p4⟩⟩
  refine dict_keyed (knd := nestedKind X.prog X.w) (kvs := ks.map fun p => (p.2, Value.bool true)) nestedKind_stays (wr := []) (PairArg.list l its.toArray (fun j => Ps.getD j 0) prs) (I.ok.hd hc) (by show X.A.units + 2 + 8 < cLine; omega) ⟨⟨o, n, ho, hcl, hdi, hda⟩, items⟩
    ⟨ks.map fun p => (p.2, p.1, Value.bool true), by unfold pairsH; rw [List.map_map]; rfl, ⟨by rw [List.length_map, lprs], fun i key v e => ?_⟩, fun x hx => ?_⟩ (fun h' up k b hk => nestedKind_stays.stays (fun c oc _ _ e _ => up c oc (by simp) e) hk) (by rw [lprs, hlen]; exact Evl.sz_of hz0) fun h' tk dk up => ?_
  · have e' : prs[i]? = some (key, v) := e
    rw [List.getElem?_map] at e'
    cases e1 : ws[i]? with
    | none => rw [e1] at e'; cases e'
    | some u =>
      rw [e1] at e'
      cases e'
      rw [r1, List.getElem?_map] at e1
      cases e2 : ks[i]? with
      | none => rw [e2] at e1; cases e1
      | some p =>
        rw [e2] at e1
        exact ⟨p.2, p.1, by rw [List.getElem?_map, e2]; rfl, (Option.some.inj e1).symm⟩
  · obtain ⟨p, hp', rfl⟩ := List.mem_map.mp hx
    exact (r3 p hp').1
  · obtain ⟨es, ep, raw, sz, _⟩ := dk.walk
    have ml := merged_len (ks.map fun p => (p.2, Value.bool true)) ([] : List (NestedKey × Value)) List.nodup_nil
    rw [List.length_nil, Nat.zero_add, List.length_map, List.map_nil, List.nil_append, List.map_map] at ml
    have x : LenIs h' s.heap.objs.size (merged [] (ks.map fun p => (p.2, Value.bool true))).length := .inl ⟨big, es, ep, raw, sz⟩
    refine ⟨.ref s.heap.objs.size, upd H s.heap.objs.size (LnO s.heap.objs.size _), I.laid (t' := tk) (fun b ob e => up b ob (by simp) e) (Nat.le_refl _) (lnO_ok x), rfl, q _ _ _ nH (ex_new nH) upd_same (by have := ml.1; omega) ?_⟩
    rw [← hlen, ← r2]
    exact ml.2
theorem c_lenN : CallR X (.builtin "len") rLenN := by
  intro pins s σ H xs us Q I r h
  obtain ⟨a, n, rfl, ha, hz, q⟩ := h
  rw [Vals.ref1 r]
  have hz' := Evl.sz_of hz
  rw [sizeLine_eq] at hz'
  obtain ⟨x, _⟩ := I.hok a _ ha
  have x : LenIs s.heap a n := x
  rcases x with ⟨hs, es, ep, raw, sz⟩ | ⟨o, es, ep, t, oa, oe, od, fit, sz⟩
  · refine Calls.call_function_entry kind_len plain_len entry_len (args_len1 _) ?_
    unfold Builtin.«len»
    refine wpAny_bind (m := oneArg "len" _) (wpAny_pure ?_)
    refine wpAny_bind (m := callSpecial? (.ref a) (Str.ofString "__len__")) (wpAny_callSpecial?_slot (name := Str.ofString "__len__") raw.typeIs F.slot_dict_len (call_len_raw hs raw ?_))
    rw [sz]
    refine wpAny_bind (wpAny_holding (wpAny_pure ?_))
    refine wpAny_bind (wpAny_letGo ?_)
    show wpAny _ _ (if ((n : Nat) : Int) < 0 then _ else _) _ _ _
    rw [if_neg (by omega)]
    show wpAny _ _ (if ((n : Nat) : Int) ≥ 2 ^ 63 then _ else _) _ _ _
    rw [if_neg (by omega)]
    exact wpAny_bind (wpAny_mkInt (wpAny_pure ⟨_, rfl, .int n, H, I.tok _, ⟨_, rfl⟩, q⟩))
  · refine call_len_set oa oe od fit (by rw [sz]; omega) ⟨.int n, H, I.tok _, ⟨_, by rw [sz]⟩, q⟩
end
end LW
/-! repr of tuples with empty dicts within; how long a repr is at most. -/
namespace LW
open PySem PySem.Spec PyProof.Rows L2 SX
mutual
inductive DpT (K : PySem.W.Frag) (H : Hp) : V → PyData → Prop
  | non : DpT K H .non .none
  | bl (b : Bool) : DpT K H (.bl b) (.bool b)
  | int (i : Int) : DpT K H (.int i) (.int i)
  | str (x : Str) : DpT K H (.str x) (.str x)
  | tup {a : Addr} {xs : List V} {ds : List PyData} : SqT K H a xs → DpTs K H xs ds → DpT K H (.ref a) (.tuple ds)
  | emp {a : Addr} : H a = some (.dK []) → DpT K H (.ref a) (.dict [])
inductive DpTs (K : PySem.W.Frag) (H : Hp) : List V → List PyData → Prop
  | nil : DpTs K H [] []
  | cons {v : V} {vs : List V} {d : PyData} {ds : List PyData} : DpT K H v d → DpTs K H vs ds → DpTs K H (v :: vs) (d :: ds)
end
section
variable {X : Cx} {pins : List (Addr × Obj)} {σ : L2.St} {H : Hp} {s : Shared}
mutual
theorem DpT.reads (I : Inv X pins σ H s) : ∀ (d : PyData) (v : V) (u : Value), DpT X.K H v d → RelV v u → ∃ as, Reads s.heap u d as ∧ sysModules ∉ as
  | .none, _, _, h, r => by
    cases h
    cases r
    exact ⟨_, .none, by simp⟩
  | .bool b, _, _, h, r => by
    cases h
    cases r
    exact ⟨_, .bool b, by simp⟩
  | .int i, _, _, h, r => by
    cases h
    obtain ⟨t, rfl⟩ := r
    exact ⟨_, .int i t, by simp⟩
  | .str x, _, _, h, r => by
    cases h
    obtain ⟨t, rfl⟩ := r
    exact ⟨_, .str x t, by simp⟩
  | .list ds, _, _, h, _ => by cases h
  | .tuple ds, _, _, h, r => by
    cases h with
    | tup a b =>
      cases r
      obtain ⟨its, rv, ⟨o, ho, hc, n, hd⟩, _⟩ := I.tuple a
      obtain ⟨as, k1, k2⟩ := DpTs.reads I ds _ _ b rv
      exact ⟨as, .tuple ho hc hd (by simpa using k1), k2⟩
  | .dict kvs, _, _, h, r => by
    cases h with
    | @emp a e =>
      cases r
      obtain ⟨_, lo, vs, rel, oe, es, ep, hoe, hex, hde, _, hpairs, _⟩ := dk_rd I.hok (.inl e)
      have hvs : vs = [] := by
        cases rel
        rfl
      subst hvs
      have hes : es.toList = [] := by
        generalize es.toList = l at hpairs
        cases hpairs
        rfl
      refine ⟨_, .dict hoe hex.1 hde (as := []) (bs := []) (by rw [hes]; exact .nil) (by rw [hes]; exact .nil), fun hm => ?_⟩
      have e1 : sysModules = a := by simpa using hm
      rw [e1] at lo
      simp at lo
theorem DpTs.reads (I : Inv X pins σ H s) : ∀ (ds : List PyData) (vs : List V) (us : List Value), DpTs X.K H vs ds → Vals vs us → ∃ as, ReadsAll s.heap us ds as ∧ sysModules ∉ as
  | [], _, _, h, r => by
    cases h
    cases r
    exact ⟨_, .nil, by simp⟩
  | d :: ds, _, _, h, r => by
    cases h with
    | cons a b =>
      cases r with
      | cons r1 r2 =>
        obtain ⟨as, k1, k2⟩ := DpT.reads I d _ _ a r1
        obtain ⟨bs, k3, k4⟩ := DpTs.reads I ds _ _ b r2
        exact ⟨_, .cons k1 k3, fun z => (List.mem_append.mp z).elim k2 k4⟩
end
end
def rReprT (K : PySem.W.Frag) : List V → Hp → VK → Prop := fun xs H Q => ∃ (a : Addr) (d : PyData), xs = [.ref a] ∧ DpT K H (.ref a) d ∧ d.showable = true ∧ d.depth ≤ 32 ∧ d.shown.length ≤ sizeLine ∧ Q (.str d.shown) H
def rReprU (K : PySem.W.Frag) : List V → Hp → VK → Prop := fun xs H Q => rRepr K xs H Q ∨ rReprT K xs H Q
theorem c_reprU {X : Cx} {k : Nat} (hg : X.A.guards = some []) (hr : Room k X.A) : CallR X (.builtin "repr") (rReprU X.K) := by
  intro pins s σ H xs us Q I r h
  rcases h with h | ⟨a, d, rfl, hd, hs, hdep, hsz, q⟩
  · exact c_repr hg hr pins s σ H xs us Q I r h
  · obtain ⟨u, rfl, ru⟩ := vals1 r
    obtain rfl : u = Value.ref a := ru
    obtain ⟨as, rd, hm⟩ := DpT.reads I d _ _ hd rfl
    refine repr_of_reads' rd hs (fun _ => hm) hg (by have := hr.units; show X.A.units + (d.depth + 1) < cLine; omega) (fun _ _ e => e) (fun h' u tk k => ⟨.str _, H, I.kept k, ⟨u, rfl⟩, q⟩) hsz
/-! ### how long a repr is -/
mutual
def wt : PyData → Nat
  | .none => 4
  | .bool _ => 5
  | .int i => ((toString i : String) : Str).length
  | .str x => (reprText x).length
  | .list xs => wts xs + 2
  | .tuple xs => wts xs + 3
  | .dict [] => 2
  | .dict _ => 0
def wts : List PyData → Nat
  | [] => 0
  | x :: xs => wt x + 2 + wts xs
end
mutual
/-- no dict but the empty one -/
def thin : PyData → Bool
  | .none => true
  | .bool _ => true
  | .int _ => true
  | .str _ => true
  | .list xs => thins xs
  | .tuple xs => thins xs
  | .dict [] => true
  | .dict (_ :: _) => false
def thins : List PyData → Bool
  | [] => true
  | x :: xs => thin x && thins xs
end
theorem textFrom_le : ∀ (ts : List Str) (k : Nat) (acc : Str), (textFrom k acc ts).length ≤ acc.length + piled ts
  | [], k, acc => by
    show acc.length ≤ _
    omega
  | t :: r, k, acc => by
    have ih := textFrom_le r (k + 1) (acc ++ (if k > 0 then ", " else "" : String) ++ t)
    have e : (acc ++ (if k > 0 then ", " else "" : String) ++ t : Str).length = acc.length + (if k > 0 then 2 else 0) + t.length := by
      rw [strLen_append, strLen_append]
      split <;> rfl
    rw [e] at ih
    rw [piled_cons]
    show (textFrom (k + 1) _ r).length ≤ _
    have : (if k > 0 then 2 else 0 : Nat) ≤ 2 := by split <;> omega
    omega
mutual
theorem shown_le : ∀ d : PyData, thin d = true → d.shown.length ≤ wt d
  | .none, _ => by decide
  | .bool b, _ => by cases b <;> decide
  | .int i, _ => Nat.le_refl _
  | .str x, _ => Nat.le_refl _
  | .list xs, h => by
    have ih := shownAll_le xs (by unfold thin at h; exact h)
    have e := textFrom_le (PyData.shownAll xs) 0 "["
    have e2 : ("[" : Str).length = 1 := rfl
    have e3 : ("]" : Str).length = 1 := rfl
    show (textFrom 0 "[" (PyData.shownAll xs) ++ "]" : Str).length ≤ wts xs + 2
    rw [strLen_append]
    rw [e2] at e
    rw [e3]
    omega
  | .tuple xs, h => by
    have ih := shownAll_le xs (by unfold thin at h; exact h)
    have e2 : ("(" : Str).length = 1 := rfl
    have e3 : ((if (PyData.shownAll xs).length == 1 then ",)" else ")" : String) : Str).length ≤ 2 := by split <;> decide
    have e4 : (Str.join ", " (PyData.shownAll xs)).length ≤ piled (PyData.shownAll xs) := by
      by_cases z : PyData.shownAll xs = []
      · rw [z]; decide
      · have := join_length_add _ z
        omega
    show (("(" : Str) ++ Str.join ", " (PyData.shownAll xs) ++ (if (PyData.shownAll xs).length == 1 then ",)" else ")" : String) : Str).length ≤ wts xs + 3
    rw [strLen_append, strLen_append, e2]
    omega
  | .dict [], _ => by decide
  | .dict (p :: ps), h => by cases h
theorem shownAll_le : ∀ xs : List PyData, thins xs = true → piled (PyData.shownAll xs) ≤ wts xs
  | [], _ => by decide
  | x :: xs, h => by
    unfold thins at h
    rw [Bool.and_eq_true] at h
    have h1 := shown_le x h.1
    have h2 := shownAll_le xs h.2
    show piled (PyData.shown x :: PyData.shownAll xs) ≤ wt x + 2 + wts xs
    rw [piled_cons]
    omega
end
/-- data that is shown: thin, numbers small, not deep -/
def fine (d : PyData) : Bool := thin d && d.showable && decide (d.depth ≤ 32) && decide (wt d ≤ 100000)
theorem v_reprU {K : PySem.W.Frag} {H : Hp} {a : Addr} {d : PyData} {Q : VK} (h : (Dp K H (.ref a) d ∧ d.hasDict = false) ∨ DpT K H (.ref a) d) (g : fine d = true) (q : Q (.str d.shown) H) : rReprU K [.ref a] H Q := by
  unfold fine at g
  simp only [Bool.and_eq_true, decide_eq_true_eq] at g
  obtain ⟨⟨⟨g1, g2⟩, g3⟩, g4⟩ := g
  have g5 := shown_le d g1
  rcases h with ⟨h, hn⟩ | h
  · exact .inl ⟨a, d, rfl, h, g2, hn, g3, Evl.sz_of (by omega), q⟩
  · exact .inr ⟨a, d, rfl, h, g2, g3, Evl.sz_of (by omega), q⟩
end LW
local macro_rules | `(tactic| walk_at "s1") => `(tactic| with_reducible first
  | refine LW.w_seq ?_ | refine LW.w_set ?_ | refine LW.w_ret ?_ | refine LW.w_if ?_ | refine LW.w_next ?_ | refine LW.w_drop ?_ | refine LW.w_par ?_ | refine LW.w_retN ?_ | refine LW.w_brk ?_ | refine LW.w_cont ?_ | refine LW.w_asg ?_
  | refine LW.w_c ?_ | refine LW.w_op ?_ | refine LW.w_cons ?_ | refine LW.w_nil ?_ | refine LW.w_test ?_ | refine LW.w_B ?_ | refine LW.w_and ?_ | refine LW.w_or ?_ | refine LW.w_not ?_ | refine LW.w_yes ?_ | refine LW.w_tru ?_
  | refine LW.w_andV ?_ | refine LW.w_orV ?_ | refine LW.w_notV ?_ | refine LW.w_ifE ?_ | refine LW.w_cl ?_ | refine LW.w_cb ?_ | refine LW.w_tup ?_ | refine LW.w_lst ?_ | refine LW.w_sl ?_ | refine LW.w_noPart ?_ | refine LW.w_part ?_
  | refine LW.w_mk ?_ | refine LW.w_mt ?_ | refine LW.w_sfld ?_ | refine LW.w_din ?_ | refine LW.w_dget ?_ | refine LW.w_dput ?_ | refine LW.w_dget2 ?_ | refine LW.w_fl ?_
  | refine LW.w_m1 ?_ | refine LW.w_bm ?_ | refine LW.w_chain ?_ | refine LW.w_un ?_
  | refine LW.v_I0 ?_ | refine LW.v_U ?_ | refine LW.v_eqI ?_ | refine LW.v_neI ?_ | refine LW.v_eqS ?_ | refine LW.v_neS ?_ | refine LW.v_eqB ?_ | refine LW.v_neB ?_ | refine LW.v_isN ?_ | refine LW.v_notN ?_ | refine LW.v_inS ?_ | refine LW.v_notInS ?_ | refine LW.v_int ?_ | refine LW.v_min2 ?_ | refine LW.v_max2 ?_
  | refine LW.iteT' ?_ | refine LW.iteF' ?_)
local macro_rules | `(tactic| walk_at "s2") => `(tactic| first
  | ((with_reducible refine' LW.w_var ?hv ?_); (case hv => rfl))
  | ((with_reducible refine' LW.w_aug ?hv ?_); (case hv => rfl))
  | (with_reducible refine LW.v_bl ?_) | (with_reducible refine LW.v_in ?_) | (with_reducible refine LW.v_st ?_) | (with_reducible refine LW.v_two ?_))
local macro_rules | `(tactic| walk_at "s") => `(tactic| first | walk_at "s1" | walk_at "s2" | walk_at "s3")
local macro_rules | `(tactic| walk_at "go") => `(tactic| ((try dsimp only [L2.cxOf]); (repeat (walk_at "s"; try dsimp only))))
local macro_rules | `(tactic| walk_at "up") => `(tactic| first
  | assumption
  | (refine LW.up_o (by assumption) ?_; walk_at "up")
  | (refine LW.up_l (by assumption) ?_; walk_at "up")
  | (refine LW.up_t (by assumption) ?_; walk_at "up")
  | (refine LW.up_d (by assumption) _ _ ?_; walk_at "up"))
local macro_rules | `(tactic| walk_at "s3") => `(tactic| with_reducible first
  | refine LW.w_for ?_ | refine LW.w_lc ?_ | refine LW.w_rng1 ?_ | refine LW.w_rng2 ?_ | refine LW.w_rng3 ?_ | refine LW.w_istr ?_ | refine LW.w_ilist ?_ | refine LW.w_itup ?_ | refine LW.w_izip ?_ | refine LW.w_gname ?_ | refine LW.w_gcons ?_ | refine LW.w_gnil ?_ | refine LW.w_gsub ?_ | refine LW.w_ienum ?_ | refine LW.w_dn ?_)
local macro_rules | `(tactic| walk_at "open") => `(tactic| (refine ⟨_, rfl, fun D nD => ?_⟩))
namespace K37
open PySem PySem.Spec PyProof.Rows L2
/-! ### the text by places -/
def topS (i : Nat) : Stmt := PySem.Challenge.pw_leastroutes_k37_graphs_made.main.body.getD i (.Pass ⟨0, 0, 0, 0⟩)
abbrev s_is_integer : Stmt := topS 3
abbrev s_is_within : Stmt := topS 4
abbrev s_is_row : Stmt := topS 5
abbrev s_is_bits : Stmt := topS 6
abbrev s_is_hop : Stmt := topS 7
abbrev s_is_pair : Stmt := topS 8
abbrev s_need_width : Stmt := topS 15
abbrev s_is_reference : Stmt := topS 20
abbrev s_are_nodes : Stmt := topS 21
abbrev s_need_graph : Stmt := topS 22
abbrev s_led_by : Stmt := topS 23
abbrev s_most_looks : Stmt := topS 24
abbrev s_is_least_graph : Stmt := topS 25
abbrev s__law_taken : Stmt := topS 27
abbrev s__law_pick : Stmt := topS 28
abbrev s__law_alike : Stmt := topS 29
abbrev s__law_binary : Stmt := topS 30
abbrev s__law_every : Stmt := topS 31
abbrev s__law_walk : Stmt := topS 32
abbrev s__law_refused : Stmt := topS 33
abbrev s__law_reference : Stmt := topS 34
abbrev s__law_node : Stmt := topS 35
abbrev s__law_is_lean : Stmt := topS 36
abbrev s__law_bad_nodes : Stmt := topS 37
abbrev s_law : Stmt := topS 38
abbrev s_RouteError_init : Stmt := inClass (topS 10) 0
abbrev s_Graph_init : Stmt := inClass (topS 19) 0
theorem sc_is_integer : FnScope ["thing"] ["thing"] (defScope s_is_integer) := ⟨rfl, rfl, rfl, by decide +kernel, rfl, by decide +kernel, by decide +kernel⟩
theorem sc_is_within : FnScope ["thing", "least", "most"] ["thing", "least", "most"] (defScope s_is_within) := ⟨rfl, rfl, rfl, by decide +kernel, rfl, by decide +kernel, by decide +kernel⟩
theorem sc_is_row : FnScope ["thing"] ["thing"] (defScope s_is_row) := ⟨rfl, rfl, rfl, by decide +kernel, rfl, by decide +kernel, by decide +kernel⟩
theorem sc_is_bits : FnScope ["thing", "most", "sign"] ["thing", "most"] (defScope s_is_bits) := ⟨rfl, rfl, rfl, by decide +kernel, rfl, by decide +kernel, by decide +kernel⟩
theorem sc_is_hop : FnScope ["thing"] ["thing"] (defScope s_is_hop) := ⟨rfl, rfl, rfl, by decide +kernel, rfl, by decide +kernel, by decide +kernel⟩
theorem sc_is_pair : FnScope ["thing"] ["thing"] (defScope s_is_pair) := ⟨rfl, rfl, rfl, by decide +kernel, rfl, by decide +kernel, by decide +kernel⟩
theorem sc_need_width : FnScope ["width"] ["width"] (defScope s_need_width) := ⟨rfl, rfl, rfl, by decide +kernel, rfl, by decide +kernel, by decide +kernel⟩
theorem sc_is_reference : FnScope ["thing", "many"] ["thing", "many"] (defScope s_is_reference) := ⟨rfl, rfl, rfl, by decide +kernel, rfl, by decide +kernel, by decide +kernel⟩
theorem sc_are_nodes : FnScope ["width", "nodes", "number", "node", "reference"] ["width", "nodes"] (defScope s_are_nodes) := ⟨rfl, rfl, rfl, by decide +kernel, rfl, by decide +kernel, by decide +kernel⟩
theorem sc_need_graph : FnScope ["graph"] ["graph"] (defScope s_need_graph) := ⟨rfl, rfl, rfl, by decide +kernel, rfl, by decide +kernel, by decide +kernel⟩
theorem sc_led_by : FnScope ["graph", "address", "kind", "number", "looks", "place", "one", "two"] ["graph", "address"] (defScope s_led_by) := ⟨rfl, rfl, rfl, by decide +kernel, rfl, by decide +kernel, by decide +kernel⟩
theorem sc_most_looks : FnScope ["graph", "depths", "place", "one", "two", "kind", "number"] ["graph"] (defScope s_most_looks) := ⟨rfl, rfl, rfl, by decide +kernel, rfl, by decide +kernel, by decide +kernel⟩
theorem sc_is_least_graph : FnScope ["graph", "node", "place", "one", "two", "met", "waiting", "reference"] ["graph"] (defScope s_is_least_graph) := ⟨rfl, rfl, rfl, by decide +kernel, rfl, by decide +kernel, by decide +kernel⟩
theorem sc__law_taken : FnScope ["row", "many", "found", "cell"] ["row", "many"] (defScope s__law_taken) := ⟨rfl, rfl, rfl, by decide +kernel, rfl, by decide +kernel, by decide +kernel⟩
theorem sc__law_pick : FnScope ["row", "some"] ["row", "some"] (defScope s__law_pick) := ⟨rfl, rfl, rfl, by decide +kernel, rfl, by decide +kernel, by decide +kernel⟩
theorem sc__law_alike : FnScope ["found", "due", "k", "key"] ["found", "due"] (defScope s__law_alike) := ⟨rfl, rfl, rfl, by decide +kernel, rfl, by decide +kernel, by decide +kernel⟩
theorem sc__law_binary : FnScope ["number", "many", "k"] ["number", "many"] (defScope s__law_binary) := ⟨rfl, rfl, rfl, by decide +kernel, rfl, by decide +kernel, by decide +kernel⟩
theorem sc__law_every : FnScope ["width", "k"] ["width"] (defScope s__law_every) := ⟨rfl, rfl, rfl, by decide +kernel, rfl, by decide +kernel, by decide +kernel⟩
theorem sc__law_walk : FnScope ["nodes", "start", "address", "kind", "number", "looks", "place", "one", "two"] ["nodes", "start", "address"] (defScope s__law_walk) := ⟨rfl, rfl, rfl, by decide +kernel, rfl, by decide +kernel, by decide +kernel⟩
theorem sc__law_refused : FnScope ["ask", "e"] ["ask"] (defScope s__law_refused) := ⟨rfl, rfl, rfl, by decide +kernel, rfl, by decide +kernel, by decide +kernel⟩
theorem sc__law_reference : FnScope ["row", "place", "nodes", "some", "k"] ["row", "place", "nodes"] (defScope s__law_reference) := ⟨rfl, rfl, rfl, by decide +kernel, rfl, by decide +kernel, by decide +kernel⟩
theorem sc__law_node : FnScope ["row", "width", "nodes", "place"] ["row", "width", "nodes"] (defScope s__law_node) := ⟨rfl, rfl, rfl, by decide +kernel, rfl, by decide +kernel, by decide +kernel⟩
theorem sc__law_is_lean : FnScope ["nodes", "start", "node", "met", "left", "kind", "number"] ["nodes", "start"] (defScope s__law_is_lean) := ⟨rfl, rfl, rfl, by decide +kernel, rfl, by decide +kernel, by decide +kernel⟩
theorem sc__law_bad_nodes : FnScope ["row", "width", "nodes", "many", "found"] ["row", "width", "nodes"] (defScope s__law_bad_nodes) := ⟨rfl, rfl, rfl, by decide +kernel, rfl, by decide +kernel, by decide +kernel⟩
theorem sc_law : FnScope ["script", "row", "width", "nodes", "k", "start", "handed", "graph", "most", "address", "due", "thing", "odd", "bad"] ["script"] (defScope s_law) := ⟨rfl, rfl, rfl, by decide +kernel, rfl, by decide +kernel, by decide +kernel⟩
theorem sc_RouteError_init : FnScope ["self", "value"] ["self", "value"] (defScope s_RouteError_init) := ⟨rfl, rfl, rfl, by decide +kernel, rfl, by decide +kernel, by decide +kernel⟩
theorem sc_Graph_init : FnScope ["self", "width", "nodes", "start"] ["self", "width", "nodes", "start"] (defScope s_Graph_init) := ⟨rfl, rfl, rfl, by decide +kernel, rfl, by decide +kernel, by decide +kernel⟩
/-! ### the head's facts -/
def d_is_integer : He.DefD := ⟨("is_integer", none), "is_integer", "is_integer", defArgs s_is_integer, defBody s_is_integer, defScope s_is_integer, [], []⟩
def d_is_within : He.DefD := ⟨("is_within", none), "is_within", "is_within", defArgs s_is_within, defBody s_is_within, defScope s_is_within, [], []⟩
def d_is_row : He.DefD := ⟨("is_row", none), "is_row", "is_row", defArgs s_is_row, defBody s_is_row, defScope s_is_row, [], []⟩
def d_is_bits : He.DefD := ⟨("is_bits", none), "is_bits", "is_bits", defArgs s_is_bits, defBody s_is_bits, defScope s_is_bits, [], []⟩
def d_is_hop : He.DefD := ⟨("is_hop", none), "is_hop", "is_hop", defArgs s_is_hop, defBody s_is_hop, defScope s_is_hop, [], []⟩
def d_is_pair : He.DefD := ⟨("is_pair", none), "is_pair", "is_pair", defArgs s_is_pair, defBody s_is_pair, defScope s_is_pair, [], []⟩
def d_need_width : He.DefD := ⟨("need_width", none), "need_width", "need_width", defArgs s_need_width, defBody s_need_width, defScope s_need_width, [], []⟩
def d_is_reference : He.DefD := ⟨("is_reference", none), "is_reference", "is_reference", defArgs s_is_reference, defBody s_is_reference, defScope s_is_reference, [], []⟩
def d_are_nodes : He.DefD := ⟨("are_nodes", none), "are_nodes", "are_nodes", defArgs s_are_nodes, defBody s_are_nodes, defScope s_are_nodes, [], []⟩
def d_need_graph : He.DefD := ⟨("need_graph", none), "need_graph", "need_graph", defArgs s_need_graph, defBody s_need_graph, defScope s_need_graph, [], []⟩
def d_led_by : He.DefD := ⟨("led_by", none), "led_by", "led_by", defArgs s_led_by, defBody s_led_by, defScope s_led_by, [], []⟩
def d_most_looks : He.DefD := ⟨("most_looks", none), "most_looks", "most_looks", defArgs s_most_looks, defBody s_most_looks, defScope s_most_looks, [], []⟩
def d_is_least_graph : He.DefD := ⟨("is_least_graph", none), "is_least_graph", "is_least_graph", defArgs s_is_least_graph, defBody s_is_least_graph, defScope s_is_least_graph, [], []⟩
def d__law_taken : He.DefD := ⟨("_law_taken", none), "_law_taken", "_law_taken", defArgs s__law_taken, defBody s__law_taken, defScope s__law_taken, [], []⟩
def d__law_pick : He.DefD := ⟨("_law_pick", none), "_law_pick", "_law_pick", defArgs s__law_pick, defBody s__law_pick, defScope s__law_pick, [], []⟩
def d__law_alike : He.DefD := ⟨("_law_alike", none), "_law_alike", "_law_alike", defArgs s__law_alike, defBody s__law_alike, defScope s__law_alike, [], []⟩
def d__law_binary : He.DefD := ⟨("_law_binary", none), "_law_binary", "_law_binary", defArgs s__law_binary, defBody s__law_binary, defScope s__law_binary, [], []⟩
def d__law_every : He.DefD := ⟨("_law_every", none), "_law_every", "_law_every", defArgs s__law_every, defBody s__law_every, defScope s__law_every, [], []⟩
def d__law_walk : He.DefD := ⟨("_law_walk", none), "_law_walk", "_law_walk", defArgs s__law_walk, defBody s__law_walk, defScope s__law_walk, [], []⟩
def d__law_refused : He.DefD := ⟨("_law_refused", none), "_law_refused", "_law_refused", defArgs s__law_refused, defBody s__law_refused, defScope s__law_refused, [], []⟩
def d__law_reference : He.DefD := ⟨("_law_reference", none), "_law_reference", "_law_reference", defArgs s__law_reference, defBody s__law_reference, defScope s__law_reference, [], []⟩
def d__law_node : He.DefD := ⟨("_law_node", none), "_law_node", "_law_node", defArgs s__law_node, defBody s__law_node, defScope s__law_node, [], []⟩
def d__law_is_lean : He.DefD := ⟨("_law_is_lean", none), "_law_is_lean", "_law_is_lean", defArgs s__law_is_lean, defBody s__law_is_lean, defScope s__law_is_lean, [], []⟩
def d__law_bad_nodes : He.DefD := ⟨("_law_bad_nodes", none), "_law_bad_nodes", "_law_bad_nodes", defArgs s__law_bad_nodes, defBody s__law_bad_nodes, defScope s__law_bad_nodes, [], []⟩
def d_law : He.DefD := ⟨("law", none), "law", "law", defArgs s_law, defBody s_law, defScope s_law, [], []⟩
def d_RouteError_init : He.DefD := ⟨("RouteError", some "__init__"), "__init__", "RouteError.__init__", defArgs s_RouteError_init, defBody s_RouteError_init, defScope s_RouteError_init, [.non], []⟩
def d_Graph_init : He.DefD := ⟨("Graph", some "__init__"), "__init__", "Graph.__init__", defArgs s_Graph_init, defBody s_Graph_init, defScope s_Graph_init, [], []⟩
def fn : List He.DefD := [d_is_integer, d_is_within, d_is_row, d_is_bits, d_is_hop, d_is_pair, d_need_width, d_is_reference, d_are_nodes, d_need_graph, d_led_by, d_most_looks, d_is_least_graph, d__law_taken, d__law_pick, d__law_alike, d__law_binary, d__law_every, d__law_walk, d__law_refused, d__law_reference, d__law_node, d__law_is_lean, d__law_bad_nodes, d_law, d_RouteError_init, d_Graph_init]
def fa : List He.Fa := [.glo "is_integer", .glo "is_within", .glo "is_row", .glo "is_bits", .glo "is_hop", .glo "is_pair", .glo "RouteError", .glo "BadAddress", .glo "BadWidth", .glo "BadGraph", .glo "need_width", .glo "Graph", .glo "is_reference", .glo "are_nodes", .glo "need_graph", .glo "led_by", .glo "most_looks", .glo "is_least_graph", .glo "_law_taken", .glo "_law_pick", .glo "_law_alike", .glo "_law_binary", .glo "_law_every", .glo "_law_walk", .glo "_law_refused", .glo "_law_reference", .glo "_law_node", .glo "_law_is_lean", .glo "_law_bad_nodes", .glo "law", .free "ValueError", .free "all", .free "any", .free "bool", .free "dict", .free "enumerate", .free "int", .free "isinstance", .free "len", .free "list", .free "max", .free "min", .free "range", .free "repr", .free "set", .free "str", .free "tuple", .int "MOST_BITS" 64, .int "MOST_HOP" 999, .int "LEADS" 0, .int "GOES_ON" 1, .exm "BadAddress" "BadGraph" false, .exm "BadAddress" "BadAddress" true, .exm "BadAddress" "BadWidth" false, .exm "BadWidth" "BadGraph" false, .exm "BadWidth" "BadAddress" false, .exm "BadWidth" "BadWidth" true, .exm "BadGraph" "BadGraph" true, .exm "BadGraph" "BadAddress" false, .exm "BadGraph" "BadWidth" false, .cls "Graph", .noat "Graph" "nodes", .noat "Graph" "start", .noat "Graph" "width", .mkr "Graph"]
def tf : List He.Defn := [("law", none)]
def exB (K : PySem.W.Frag) : Bool := (LW.xcB K "RouteError" "BadAddress") && (LW.xcB K "RouteError" "BadWidth") && (LW.xcB K "RouteError" "BadGraph") && (LW.icB K "Graph")
abbrev R : PySem.W.OpenRow := PySem.W.OpenLaw.row PySem.Challenge.rw_leastroutes_k37_graphs_made
abbrev hk : PySem.W.Hook := He.hookX 5 fa fn [] tf exB
def ob (s : PySem.W.SharedT) : He.AlX := He.obsX 5 fa fn [] tf exB (HandSHeadRun.getT s)
theorem ob_eq (s : PySem.W.SharedT) : ob s = hk.obs s.abs := He.obsX_eq (HandSHeadRun.getT_eq s)
def loose : List PySem.Str := (["MOST_BITS", "MOST_HOP", "is_integer", "is_within", "is_row", "is_bits", "is_hop", "is_pair", "RouteError", "BadAddress", "BadWidth", "BadGraph"] : List PySem.Str) ++ (["need_width", "LEADS", "GOES_ON", "Graph", "is_reference", "are_nodes", "need_graph", "led_by", "most_looks", "is_least_graph", "_law_taken", "_law_pick"] : List PySem.Str) ++ (["_law_alike", "_law_binary", "_law_every", "_law_walk", "_law_refused", "_law_reference", "_law_node", "_law_is_lean", "_law_bad_nodes"] : List PySem.Str)
theorem run (w : World) : HandSHeadRun.RunEq R (PySem.W.view R.prog [38]) hk ob 8000 loose w := by
  intro os
  kernel_rfl
/-! ### what the top leaves -/
structure Txt (K : PySem.W.Frag) (mg : Str → Option Value) : Prop where
  g_is_integer : mg "is_integer" = some (.ref (He.ga K "is_integer"))
  g_is_within : mg "is_within" = some (.ref (He.ga K "is_within"))
  g_is_row : mg "is_row" = some (.ref (He.ga K "is_row"))
  g_is_bits : mg "is_bits" = some (.ref (He.ga K "is_bits"))
  g_is_hop : mg "is_hop" = some (.ref (He.ga K "is_hop"))
  g_is_pair : mg "is_pair" = some (.ref (He.ga K "is_pair"))
  g_RouteError : mg "RouteError" = some (.ref (He.ga K "RouteError"))
  g_BadAddress : mg "BadAddress" = some (.ref (He.ga K "BadAddress"))
  g_BadWidth : mg "BadWidth" = some (.ref (He.ga K "BadWidth"))
  g_BadGraph : mg "BadGraph" = some (.ref (He.ga K "BadGraph"))
  g_need_width : mg "need_width" = some (.ref (He.ga K "need_width"))
  g_Graph : mg "Graph" = some (.ref (He.ga K "Graph"))
  g_is_reference : mg "is_reference" = some (.ref (He.ga K "is_reference"))
  g_are_nodes : mg "are_nodes" = some (.ref (He.ga K "are_nodes"))
  g_need_graph : mg "need_graph" = some (.ref (He.ga K "need_graph"))
  g_led_by : mg "led_by" = some (.ref (He.ga K "led_by"))
  g_most_looks : mg "most_looks" = some (.ref (He.ga K "most_looks"))
  g_is_least_graph : mg "is_least_graph" = some (.ref (He.ga K "is_least_graph"))
  g__law_taken : mg "_law_taken" = some (.ref (He.ga K "_law_taken"))
  g__law_pick : mg "_law_pick" = some (.ref (He.ga K "_law_pick"))
  g__law_alike : mg "_law_alike" = some (.ref (He.ga K "_law_alike"))
  g__law_binary : mg "_law_binary" = some (.ref (He.ga K "_law_binary"))
  g__law_every : mg "_law_every" = some (.ref (He.ga K "_law_every"))
  g__law_walk : mg "_law_walk" = some (.ref (He.ga K "_law_walk"))
  g__law_refused : mg "_law_refused" = some (.ref (He.ga K "_law_refused"))
  g__law_reference : mg "_law_reference" = some (.ref (He.ga K "_law_reference"))
  g__law_node : mg "_law_node" = some (.ref (He.ga K "_law_node"))
  g__law_is_lean : mg "_law_is_lean" = some (.ref (He.ga K "_law_is_lean"))
  g__law_bad_nodes : mg "_law_bad_nodes" = some (.ref (He.ga K "_law_bad_nodes"))
  g_law : mg "law" = some (.ref (He.ga K "law"))
  b_ValueError : mg "ValueError" = none
  b_all : mg "all" = none
  b_any : mg "any" = none
  b_bool : mg "bool" = none
  b_dict : mg "dict" = none
  b_enumerate : mg "enumerate" = none
  b_int : mg "int" = none
  b_isinstance : mg "isinstance" = none
  b_len : mg "len" = none
  b_list : mg "list" = none
  b_max : mg "max" = none
  b_min : mg "min" = none
  b_range : mg "range" = none
  b_repr : mg "repr" = none
  b_set : mg "set" = none
  b_str : mg "str" = none
  b_tuple : mg "tuple" = none
  c_MOST_BITS : ∃ u, mg "MOST_BITS" = some u ∧ RelV (.int 64) u
  c_MOST_HOP : ∃ u, mg "MOST_HOP" = some u ∧ RelV (.int 999) u
  c_LEADS : ∃ u, mg "LEADS" = some u ∧ RelV (.int 0) u
  c_GOES_ON : ∃ u, mg "GOES_ON" = some u ∧ RelV (.int 1) u
  e_BadAddress : LW.XcF K mg "RouteError" "BadAddress"
  m_BadAddress_BadGraph : PySem.W.exmOne K (.ref (He.ga K "BadAddress")) (.ref (He.ga K "BadGraph")) = some false
  m_BadAddress_BadAddress : PySem.W.exmOne K (.ref (He.ga K "BadAddress")) (.ref (He.ga K "BadAddress")) = some true
  m_BadAddress_BadWidth : PySem.W.exmOne K (.ref (He.ga K "BadAddress")) (.ref (He.ga K "BadWidth")) = some false
  e_BadWidth : LW.XcF K mg "RouteError" "BadWidth"
  m_BadWidth_BadGraph : PySem.W.exmOne K (.ref (He.ga K "BadWidth")) (.ref (He.ga K "BadGraph")) = some false
  m_BadWidth_BadAddress : PySem.W.exmOne K (.ref (He.ga K "BadWidth")) (.ref (He.ga K "BadAddress")) = some false
  m_BadWidth_BadWidth : PySem.W.exmOne K (.ref (He.ga K "BadWidth")) (.ref (He.ga K "BadWidth")) = some true
  e_BadGraph : LW.XcF K mg "RouteError" "BadGraph"
  m_BadGraph_BadGraph : PySem.W.exmOne K (.ref (He.ga K "BadGraph")) (.ref (He.ga K "BadGraph")) = some true
  m_BadGraph_BadAddress : PySem.W.exmOne K (.ref (He.ga K "BadGraph")) (.ref (He.ga K "BadAddress")) = some false
  m_BadGraph_BadWidth : PySem.W.exmOne K (.ref (He.ga K "BadGraph")) (.ref (He.ga K "BadWidth")) = some false
  k_Graph : Cls K (He.ga K "Graph")
  ic_Graph : LW.IcF K "Graph"
  n_Graph_nodes : NoAttr K (He.ga K "Graph") "nodes"
  n_Graph_start : NoAttr K (He.ga K "Graph") "start"
  n_Graph_width : NoAttr K (He.ga K "Graph") "width"
  mk_Graph : Mk K (He.ga K "Graph") (He.ma K (He.ga K "Graph") "__init__")
  f_is_integer : ∃ fd, FunD K "is_integer" "is_integer" (defArgs s_is_integer) (defBody s_is_integer) (defScope s_is_integer) [] [] (He.fAd K ("is_integer", none)) fd
  f_is_within : ∃ fd, FunD K "is_within" "is_within" (defArgs s_is_within) (defBody s_is_within) (defScope s_is_within) [] [] (He.fAd K ("is_within", none)) fd
  f_is_row : ∃ fd, FunD K "is_row" "is_row" (defArgs s_is_row) (defBody s_is_row) (defScope s_is_row) [] [] (He.fAd K ("is_row", none)) fd
  f_is_bits : ∃ fd, FunD K "is_bits" "is_bits" (defArgs s_is_bits) (defBody s_is_bits) (defScope s_is_bits) [] [] (He.fAd K ("is_bits", none)) fd
  f_is_hop : ∃ fd, FunD K "is_hop" "is_hop" (defArgs s_is_hop) (defBody s_is_hop) (defScope s_is_hop) [] [] (He.fAd K ("is_hop", none)) fd
  f_is_pair : ∃ fd, FunD K "is_pair" "is_pair" (defArgs s_is_pair) (defBody s_is_pair) (defScope s_is_pair) [] [] (He.fAd K ("is_pair", none)) fd
  f_need_width : ∃ fd, FunD K "need_width" "need_width" (defArgs s_need_width) (defBody s_need_width) (defScope s_need_width) [] [] (He.fAd K ("need_width", none)) fd
  f_is_reference : ∃ fd, FunD K "is_reference" "is_reference" (defArgs s_is_reference) (defBody s_is_reference) (defScope s_is_reference) [] [] (He.fAd K ("is_reference", none)) fd
  f_are_nodes : ∃ fd, FunD K "are_nodes" "are_nodes" (defArgs s_are_nodes) (defBody s_are_nodes) (defScope s_are_nodes) [] [] (He.fAd K ("are_nodes", none)) fd
  f_need_graph : ∃ fd, FunD K "need_graph" "need_graph" (defArgs s_need_graph) (defBody s_need_graph) (defScope s_need_graph) [] [] (He.fAd K ("need_graph", none)) fd
  f_led_by : ∃ fd, FunD K "led_by" "led_by" (defArgs s_led_by) (defBody s_led_by) (defScope s_led_by) [] [] (He.fAd K ("led_by", none)) fd
  f_most_looks : ∃ fd, FunD K "most_looks" "most_looks" (defArgs s_most_looks) (defBody s_most_looks) (defScope s_most_looks) [] [] (He.fAd K ("most_looks", none)) fd
  f_is_least_graph : ∃ fd, FunD K "is_least_graph" "is_least_graph" (defArgs s_is_least_graph) (defBody s_is_least_graph) (defScope s_is_least_graph) [] [] (He.fAd K ("is_least_graph", none)) fd
  f__law_taken : ∃ fd, FunD K "_law_taken" "_law_taken" (defArgs s__law_taken) (defBody s__law_taken) (defScope s__law_taken) [] [] (He.fAd K ("_law_taken", none)) fd
  f__law_pick : ∃ fd, FunD K "_law_pick" "_law_pick" (defArgs s__law_pick) (defBody s__law_pick) (defScope s__law_pick) [] [] (He.fAd K ("_law_pick", none)) fd
  f__law_alike : ∃ fd, FunD K "_law_alike" "_law_alike" (defArgs s__law_alike) (defBody s__law_alike) (defScope s__law_alike) [] [] (He.fAd K ("_law_alike", none)) fd
  f__law_binary : ∃ fd, FunD K "_law_binary" "_law_binary" (defArgs s__law_binary) (defBody s__law_binary) (defScope s__law_binary) [] [] (He.fAd K ("_law_binary", none)) fd
  f__law_every : ∃ fd, FunD K "_law_every" "_law_every" (defArgs s__law_every) (defBody s__law_every) (defScope s__law_every) [] [] (He.fAd K ("_law_every", none)) fd
  f__law_walk : ∃ fd, FunD K "_law_walk" "_law_walk" (defArgs s__law_walk) (defBody s__law_walk) (defScope s__law_walk) [] [] (He.fAd K ("_law_walk", none)) fd
  f__law_refused : ∃ fd, FunD K "_law_refused" "_law_refused" (defArgs s__law_refused) (defBody s__law_refused) (defScope s__law_refused) [] [] (He.fAd K ("_law_refused", none)) fd
  f__law_reference : ∃ fd, FunD K "_law_reference" "_law_reference" (defArgs s__law_reference) (defBody s__law_reference) (defScope s__law_reference) [] [] (He.fAd K ("_law_reference", none)) fd
  f__law_node : ∃ fd, FunD K "_law_node" "_law_node" (defArgs s__law_node) (defBody s__law_node) (defScope s__law_node) [] [] (He.fAd K ("_law_node", none)) fd
  f__law_is_lean : ∃ fd, FunD K "_law_is_lean" "_law_is_lean" (defArgs s__law_is_lean) (defBody s__law_is_lean) (defScope s__law_is_lean) [] [] (He.fAd K ("_law_is_lean", none)) fd
  f__law_bad_nodes : ∃ fd, FunD K "_law_bad_nodes" "_law_bad_nodes" (defArgs s__law_bad_nodes) (defBody s__law_bad_nodes) (defScope s__law_bad_nodes) [] [] (He.fAd K ("_law_bad_nodes", none)) fd
  f_law : ∃ fd, FunD K "law" "law" (defArgs s_law) (defBody s_law) (defScope s_law) [] [] (He.fAd K ("law", none)) fd
  f_RouteError_init : ∃ fd, FunD K "__init__" "RouteError.__init__" (defArgs s_RouteError_init) (defBody s_RouteError_init) (defScope s_RouteError_init) [V.non] [] (He.fAd K ("RouteError", some "__init__")) fd
  f_Graph_init : ∃ fd, FunD K "__init__" "Graph.__init__" (defArgs s_Graph_init) (defBody s_Graph_init) (defScope s_Graph_init) [] [] (He.fAd K ("Graph", some "__init__")) fd
theorem txt_of {w : World} {h : Heap} {K : PySem.W.Frag} {mg : Str → Option Value} (X : K.In h) (G : h.Ns mainGlobals mg) (c : He.SaysX fa fn [] tf exB w h K) : Txt K mg := by
  have cm : exB K = true := c.more
  simp only [exB, Bool.and_eq_true] at cm
  obtain ⟨⟨⟨h0, h1⟩, h2⟩, h3⟩ := cm
  exact ⟨He.glo_ok X G (c.t.d.fact 0 (f := .glo "is_integer") rfl), He.glo_ok X G (c.t.d.fact 1 (f := .glo "is_within") rfl), He.glo_ok X G (c.t.d.fact 2 (f := .glo "is_row") rfl), He.glo_ok X G (c.t.d.fact 3 (f := .glo "is_bits") rfl), He.glo_ok X G (c.t.d.fact 4 (f := .glo "is_hop") rfl), He.glo_ok X G (c.t.d.fact 5 (f := .glo "is_pair") rfl), He.glo_ok X G (c.t.d.fact 6 (f := .glo "RouteError") rfl), He.glo_ok X G (c.t.d.fact 7 (f := .glo "BadAddress") rfl), He.glo_ok X G (c.t.d.fact 8 (f := .glo "BadWidth") rfl), He.glo_ok X G (c.t.d.fact 9 (f := .glo "BadGraph") rfl), He.glo_ok X G (c.t.d.fact 10 (f := .glo "need_width") rfl), He.glo_ok X G (c.t.d.fact 11 (f := .glo "Graph") rfl), He.glo_ok X G (c.t.d.fact 12 (f := .glo "is_reference") rfl), He.glo_ok X G (c.t.d.fact 13 (f := .glo "are_nodes") rfl), He.glo_ok X G (c.t.d.fact 14 (f := .glo "need_graph") rfl), He.glo_ok X G (c.t.d.fact 15 (f := .glo "led_by") rfl), He.glo_ok X G (c.t.d.fact 16 (f := .glo "most_looks") rfl), He.glo_ok X G (c.t.d.fact 17 (f := .glo "is_least_graph") rfl), He.glo_ok X G (c.t.d.fact 18 (f := .glo "_law_taken") rfl), He.glo_ok X G (c.t.d.fact 19 (f := .glo "_law_pick") rfl), He.glo_ok X G (c.t.d.fact 20 (f := .glo "_law_alike") rfl), He.glo_ok X G (c.t.d.fact 21 (f := .glo "_law_binary") rfl), He.glo_ok X G (c.t.d.fact 22 (f := .glo "_law_every") rfl), He.glo_ok X G (c.t.d.fact 23 (f := .glo "_law_walk") rfl), He.glo_ok X G (c.t.d.fact 24 (f := .glo "_law_refused") rfl), He.glo_ok X G (c.t.d.fact 25 (f := .glo "_law_reference") rfl), He.glo_ok X G (c.t.d.fact 26 (f := .glo "_law_node") rfl), He.glo_ok X G (c.t.d.fact 27 (f := .glo "_law_is_lean") rfl), He.glo_ok X G (c.t.d.fact 28 (f := .glo "_law_bad_nodes") rfl), He.glo_ok X G (c.t.d.fact 29 (f := .glo "law") rfl), He.free_ok X G (c.t.d.fact 30 (f := .free "ValueError") rfl), He.free_ok X G (c.t.d.fact 31 (f := .free "all") rfl), He.free_ok X G (c.t.d.fact 32 (f := .free "any") rfl), He.free_ok X G (c.t.d.fact 33 (f := .free "bool") rfl), He.free_ok X G (c.t.d.fact 34 (f := .free "dict") rfl), He.free_ok X G (c.t.d.fact 35 (f := .free "enumerate") rfl), He.free_ok X G (c.t.d.fact 36 (f := .free "int") rfl), He.free_ok X G (c.t.d.fact 37 (f := .free "isinstance") rfl), He.free_ok X G (c.t.d.fact 38 (f := .free "len") rfl), He.free_ok X G (c.t.d.fact 39 (f := .free "list") rfl), He.free_ok X G (c.t.d.fact 40 (f := .free "max") rfl), He.free_ok X G (c.t.d.fact 41 (f := .free "min") rfl), He.free_ok X G (c.t.d.fact 42 (f := .free "range") rfl), He.free_ok X G (c.t.d.fact 43 (f := .free "repr") rfl), He.free_ok X G (c.t.d.fact 44 (f := .free "set") rfl), He.free_ok X G (c.t.d.fact 45 (f := .free "str") rfl), He.free_ok X G (c.t.d.fact 46 (f := .free "tuple") rfl), LW.int_of (He.int_ok X G (c.t.d.fact 47 (f := .int "MOST_BITS" 64) rfl)), LW.int_of (He.int_ok X G (c.t.d.fact 48 (f := .int "MOST_HOP" 999) rfl)), LW.int_of (He.int_ok X G (c.t.d.fact 49 (f := .int "LEADS" 0) rfl)), LW.int_of (He.int_ok X G (c.t.d.fact 50 (f := .int "GOES_ON" 1) rfl)), ⟨He.glo_ok X G (c.t.d.fact 7 (f := .glo "BadAddress") rfl), LW.xcB_ok (h0)⟩, He.exm_ok (c.t.d.fact 51 (f := .exm "BadAddress" "BadGraph" false) rfl), He.exm_ok (c.t.d.fact 52 (f := .exm "BadAddress" "BadAddress" true) rfl), He.exm_ok (c.t.d.fact 53 (f := .exm "BadAddress" "BadWidth" false) rfl), ⟨He.glo_ok X G (c.t.d.fact 8 (f := .glo "BadWidth") rfl), LW.xcB_ok (h1)⟩, He.exm_ok (c.t.d.fact 54 (f := .exm "BadWidth" "BadGraph" false) rfl), He.exm_ok (c.t.d.fact 55 (f := .exm "BadWidth" "BadAddress" false) rfl), He.exm_ok (c.t.d.fact 56 (f := .exm "BadWidth" "BadWidth" true) rfl), ⟨He.glo_ok X G (c.t.d.fact 9 (f := .glo "BadGraph") rfl), LW.xcB_ok (h2)⟩, He.exm_ok (c.t.d.fact 57 (f := .exm "BadGraph" "BadGraph" true) rfl), He.exm_ok (c.t.d.fact 58 (f := .exm "BadGraph" "BadAddress" false) rfl), He.exm_ok (c.t.d.fact 59 (f := .exm "BadGraph" "BadWidth" false) rfl), He.cls_ok (c.t.d.fact 60 (f := .cls "Graph") rfl), LW.icB_ok h3, He.noat_ok (c.t.d.fact 61 (f := .noat "Graph" "nodes") rfl), He.noat_ok (c.t.d.fact 62 (f := .noat "Graph" "start") rfl), He.noat_ok (c.t.d.fact 63 (f := .noat "Graph" "width") rfl), He.mkr_ok (c.t.d.fact 64 (f := .mkr "Graph") rfl), c.t.d.def_ 0 (d := d_is_integer) rfl, c.t.d.def_ 1 (d := d_is_within) rfl, c.t.d.def_ 2 (d := d_is_row) rfl, c.t.d.def_ 3 (d := d_is_bits) rfl, c.t.d.def_ 4 (d := d_is_hop) rfl, c.t.d.def_ 5 (d := d_is_pair) rfl, c.t.d.def_ 6 (d := d_need_width) rfl, c.t.d.def_ 7 (d := d_is_reference) rfl, c.t.d.def_ 8 (d := d_are_nodes) rfl, c.t.d.def_ 9 (d := d_need_graph) rfl, c.t.d.def_ 10 (d := d_led_by) rfl, c.t.d.def_ 11 (d := d_most_looks) rfl, c.t.d.def_ 12 (d := d_is_least_graph) rfl, c.t.d.def_ 13 (d := d__law_taken) rfl, c.t.d.def_ 14 (d := d__law_pick) rfl, c.t.d.def_ 15 (d := d__law_alike) rfl, c.t.d.def_ 16 (d := d__law_binary) rfl, c.t.d.def_ 17 (d := d__law_every) rfl, c.t.d.def_ 18 (d := d__law_walk) rfl, c.t.d.def_ 19 (d := d__law_refused) rfl, c.t.d.def_ 20 (d := d__law_reference) rfl, c.t.d.def_ 21 (d := d__law_node) rfl, c.t.d.def_ 22 (d := d__law_is_lean) rfl, c.t.d.def_ 23 (d := d__law_bad_nodes) rfl, c.t.d.def_ 24 (d := d_law) rfl, c.t.d.def_ 25 (d := d_RouteError_init) rfl, c.t.d.def_ 26 (d := d_Graph_init) rfl⟩
end K37
/-! Plain mathematics of decision graphs: walking, depths, what is come to. -/
namespace M37
/-- (0, hop), or (1, number) -/
abbrev Rf := Int × Int
structure Nd where
  p : Int
  a : Rf
  b : Rf
abbrev Gr := List Nd
/-- a reference ahead of the i-th node, from a place -/
def okRf (G : Gr) (i : Nat) (p : Int) (r : Rf) : Prop := (r.1 = 0 ∧ -1 ≤ r.2 ∧ r.2 ≤ 999) ∨ (r.1 = 1 ∧ 0 ≤ r.2 ∧ r.2 < i ∧ ∃ nd, G[r.2.toNat]? = some nd ∧ p < nd.p)
def okNd (W : Int) (G : Gr) (i : Nat) (nd : Nd) : Prop := 0 ≤ nd.p ∧ nd.p < W ∧ okRf G i nd.p nd.a ∧ okRf G i nd.p nd.b
def okG (W : Int) (G : Gr) : Prop := ∀ (i : Nat) nd, G[i]? = some nd → okNd W G i nd
theorem okRf.more {G : Gr} {i j : Nat} {p : Int} {r : Rf} (h : okRf G i p r) (hij : i ≤ j) (nd : Nd) : okRf (G ++ [nd]) j p r := by
  rcases h with h | ⟨h1, h2, h3, x, h4, h5⟩
  · exact .inl h
  · refine .inr ⟨h1, h2, by omega, x, ?_, h5⟩
    rw [List.getElem?_append_left (List.getElem?_eq_some_iff.mp h4).1]
    exact h4
theorem okG.snoc {W : Int} {G : Gr} (h : okG W G) {nd : Nd} (hn : okNd W G G.length nd) : okG W (G ++ [nd]) := fun i x hx => by
  by_cases hi : i < G.length
  · rw [List.getElem?_append_left hi] at hx
    obtain ⟨h1, h2, h3, h4⟩ := h i x hx
    exact ⟨h1, h2, h3.more (Nat.le_refl _) nd, h4.more (Nat.le_refl _) nd⟩
  · have hl := (List.getElem?_eq_some_iff.mp hx).1
    rw [List.length_append] at hl
    have e : i = G.length := by simp at hl; omega
    subst e
    rw [List.getElem?_append_right (Nat.le_refl _), Nat.sub_self] at hx
    cases hx
    obtain ⟨h1, h2, h3, h4⟩ := hn
    exact ⟨h1, h2, h3.more (Nat.le_refl _) _, h4.more (Nat.le_refl _) _⟩
/-! ### walking -/
def rank (r : Rf) : Nat := if r.1 = 1 then r.2.toNat + 1 else 0
def wk (G : Gr) (l : List Nat) : Nat → Rf → Nat → Int × Nat
  | 0, r, k => (r.2, k)
  | f + 1, r, k => if r.1 = 1 then match G[r.2.toNat]? with
    | some nd => wk G l f (if l[nd.p.toNat]? = some 48 then nd.a else nd.b) (k + 1)
    | none => (r.2, k) else (r.2, k)
theorem wk_end {G : Gr} {l : List Nat} {f : Nat} {r : Rf} {k : Nat} (h : r.1 ≠ 1) : wk G l f r k = (r.2, k) := by
  cases f with
  | zero => rfl
  | succ f => exact if_neg h
theorem wk_step {G : Gr} {l : List Nat} {f : Nat} {r : Rf} {k : Nat} {nd : Nd} (h : r.1 = 1) (e : G[r.2.toNat]? = some nd) : wk G l (f + 1) r k = wk G l f (if l[nd.p.toNat]? = some 48 then nd.a else nd.b) (k + 1) := by
  rw [wk, if_pos h, e]
theorem rank_lt {W : Int} {G : Gr} (hG : okG W G) {r : Rf} {nd : Nd} (h1 : r.1 = 1) (h0 : 0 ≤ r.2) (e : G[r.2.toNat]? = some nd) {c : Rf} (hc : c = nd.a ∨ c = nd.b) : rank c < rank r := by
  have ok := hG _ _ e
  have : okRf G r.2.toNat nd.p c := by
    rcases hc with rfl | rfl
    · exact ok.2.2.1
    · exact ok.2.2.2
  unfold rank
  rw [if_pos h1]
  rcases this with h | ⟨h2, h3, h4, _⟩
  · rw [if_neg (by rw [h.1]; decide)]
    omega
  · rw [if_pos h2]
    omega
/-! ### depths -/
def dep (G : Gr) : Nat → Rf → Nat
  | 0, _ => 0
  | f + 1, r => if r.1 = 1 then match G[r.2.toNat]? with
    | some nd => 1 + max (dep G f nd.a) (dep G f nd.b)
    | none => 0 else 0
theorem dep_end {G : Gr} {f : Nat} {r : Rf} (h : r.1 ≠ 1) : dep G f r = 0 := by
  cases f with
  | zero => rfl
  | succ f => exact if_neg h
theorem dep_step {G : Gr} {f : Nat} {r : Rf} {nd : Nd} (h : r.1 = 1) (e : G[r.2.toNat]? = some nd) : dep G (f + 1) r = 1 + max (dep G f nd.a) (dep G f nd.b) := by
  rw [dep, if_pos h, e]
/-- a reference that may be followed -/
def live (G : Gr) (r : Rf) : Prop := r.1 = 1 → 0 ≤ r.2 ∧ ∃ nd, G[r.2.toNat]? = some nd
theorem okRf.live {G : Gr} {i : Nat} {p : Int} {r : Rf} (h : okRf G i p r) : live G r := fun h1 => by
  rcases h with h | ⟨_, h2, _, nd, h4, _⟩
  · rw [h.1] at h1
    cases h1
  · exact ⟨h2, nd, h4⟩
theorem dep_fuel {W : Int} {G : Gr} (hG : okG W G) : ∀ (f g : Nat) (r : Rf), live G r → rank r ≤ f → rank r ≤ g → dep G f r = dep G g r := by
  intro f
  induction f with
  | zero =>
    intro g r hl hf _
    have h1 : r.1 ≠ 1 := fun z => by unfold rank at hf; rw [if_pos z] at hf; omega
    rw [dep_end h1, dep_end h1]
  | succ f ih =>
    intro g r hl hf hg
    by_cases h1 : r.1 = 1
    · obtain ⟨h0, nd, e⟩ := hl h1
      cases g with
      | zero => unfold rank at hg; rw [if_pos h1] at hg; omega
      | succ g =>
        have ok := hG _ _ e
        have ra := rank_lt hG h1 h0 e (c := nd.a) (.inl rfl)
        have rb := rank_lt hG h1 h0 e (c := nd.b) (.inr rfl)
        rw [dep_step h1 e, dep_step h1 e, ih g nd.a ok.2.2.1.live (by omega) (by omega), ih g nd.b ok.2.2.2.live (by omega) (by omega)]
    · rw [dep_end h1, dep_end h1]
theorem wk_le (G : Gr) (l : List Nat) : ∀ (f : Nat) (r : Rf) (k : Nat), (wk G l f r k).2 ≤ k + dep G f r := by
  intro f
  induction f with
  | zero => intro r k; exact Nat.le_refl _
  | succ f ih =>
    intro r k
    by_cases h1 : r.1 = 1
    · cases e : G[r.2.toNat]? with
      | none =>
        rw [wk, if_pos h1, e]
        exact Nat.le_add_right _ _
      | some nd =>
        rw [wk_step h1 e, dep_step h1 e]
        have m1 := Nat.le_max_left (dep G f nd.a) (dep G f nd.b)
        have m2 := Nat.le_max_right (dep G f nd.a) (dep G f nd.b)
        by_cases hb : l[nd.p.toNat]? = some 48
        · rw [if_pos hb]
          have := ih nd.a (k + 1)
          omega
        · rw [if_neg hb]
          have := ih nd.b (k + 1)
          omega
    · rw [wk_end h1]
      exact Nat.le_add_right _ _
/-- bits -/
def bit (c : Nat) : Prop := c = 48 ∨ c = 49
theorem wk_ge {w : Nat} {G : Gr} (hG : okG (w : Int) G) : ∀ (f : Nat) (r : Rf) (q : Int), rank r ≤ f → (r.1 = 1 → 0 ≤ r.2 ∧ ∃ nd, G[r.2.toNat]? = some nd ∧ q < nd.p) → ∀ (l : List Nat) (k : Nat), l.length = w → (∀ c ∈ l, bit c) →
    ∃ l' : List Nat, l'.length = w ∧ (∀ c ∈ l', bit c) ∧ (∀ i : Nat, (i : Int) ≤ q → l'[i]? = l[i]?) ∧ (wk G l' f r k).2 = k + dep G f r := by
  intro f
  induction f with
  | zero =>
    intro r q hf _ l k hl hb
    exact ⟨l, hl, hb, fun _ _ => rfl, rfl⟩
  | succ f ih =>
    intro r q hf hr l k hl hb
    by_cases h1 : r.1 = 1
    · obtain ⟨h0, nd, e, hq⟩ := hr h1
      obtain ⟨p0, pw, oka, okb⟩ := hG _ _ e
      have pick : ∃ (c : Rf) (b : Nat), bit b ∧ (c = nd.a ∨ c = nd.b) ∧ c = (if (some b : Option Nat) = some 48 then nd.a else nd.b) ∧ dep G f c = max (dep G f nd.a) (dep G f nd.b) := by
        by_cases hd : dep G f nd.b ≤ dep G f nd.a
        · exact ⟨nd.a, 48, .inl rfl, .inl rfl, (if_pos rfl).symm, (Nat.max_eq_left hd).symm⟩
        · exact ⟨nd.b, 49, .inr rfl, .inr rfl, (if_neg (by decide)).symm, (Nat.max_eq_right (by omega)).symm⟩
      obtain ⟨c, b, hbit, hc, ec, ed⟩ := pick
      have okc : okRf G r.2.toNat nd.p c := by
        rcases hc with rfl | rfl
        · exact oka
        · exact okb
      have rc := rank_lt hG h1 h0 e hc
      have plt : nd.p.toNat < l.length := by omega
      obtain ⟨l', l1, l2, l3, l4⟩ := ih c nd.p (by omega) (fun z => by
        rcases okc with y | ⟨_, y2, _, x, y4, y5⟩
        · rw [y.1] at z
          cases z
        · exact ⟨y2, x, y4, y5⟩) (l.set nd.p.toNat b) (k + 1) (by rw [List.length_set]; exact hl) (fun x hx => by
        rcases List.mem_or_eq_of_mem_set hx with z | z
        · exact hb x z
        · rw [z]; exact hbit)
      refine ⟨l', l1, l2, fun i hi => ?_, ?_⟩
      · rw [l3 i (by omega), List.getElem?_set_ne (by omega)]
      · have e3 : l'[nd.p.toNat]? = some b := by
          rw [l3 _ (by omega), List.getElem?_set_self plt]
        rw [wk_step h1 e, dep_step h1 e, e3, ← ec, l4, ed]
        omega
    · refine ⟨l, hl, hb, fun _ _ => rfl, ?_⟩
      rw [wk_end h1, dep_end h1]
      rfl
/-! ### what is come to -/
def rch (G : Gr) : Nat → List Int → List Rf → List Int
  | 0, met, _ => met
  | f + 1, met, w => match w.getLast? with
    | none => met
    | some r => if r.1 = 1 ∧ r.2 ∉ met then match G[r.2.toNat]? with
        | some nd => rch G f (met ++ [r.2]) (w.dropLast ++ [nd.a, nd.b])
        | none => met
      else rch G f met w.dropLast
theorem rch_nil {G : Gr} {f : Nat} {met : List Int} : rch G f met [] = met := by
  cases f <;> rfl
theorem rch_new {G : Gr} {f : Nat} {met : List Int} {w : List Rf} {r : Rf} {nd : Nd} (hw : w.getLast? = some r) (h : r.1 = 1 ∧ r.2 ∉ met) (e : G[r.2.toNat]? = some nd) : rch G (f + 1) met w = rch G f (met ++ [r.2]) (w.dropLast ++ [nd.a, nd.b]) := by
  rw [rch, hw]
  show (if r.1 = 1 ∧ r.2 ∉ met then _ else _) = _
  rw [if_pos h, e]
theorem rch_old {G : Gr} {f : Nat} {met : List Int} {w : List Rf} {r : Rf} (hw : w.getLast? = some r) (h : ¬ (r.1 = 1 ∧ r.2 ∉ met)) : rch G (f + 1) met w = rch G f met w.dropLast := by
  rw [rch, hw]
  show (if r.1 = 1 ∧ r.2 ∉ met then _ else _) = _
  rw [if_neg h]
/-- the state of the search: what is met, what waits -/
structure Sr (G : Gr) (met : List Int) (w : List Rf) (f : Nat) : Prop where
  nd : met.Nodup
  inn : ∀ n ∈ met, 0 ≤ n ∧ n < (G.length : Int)
  wait : ∀ r ∈ w, live G r
  fuel : 3 * G.length + w.length ≤ f + 3 * met.length
theorem int_sub_len : ∀ (l m : List Int), l.Nodup → (∀ x ∈ l, x ∈ m) → l.length ≤ m.length
  | [], _, _, _ => Nat.zero_le _
  | x :: l, m, nd, h => by
    obtain ⟨n1, n2⟩ := List.nodup_cons.mp nd
    have hx := h x List.mem_cons_self
    have ih := int_sub_len l (m.erase x) n2 fun y hy => (List.mem_erase_of_ne (fun z => n1 (by rw [← z]; exact hy))).mpr (h y (List.mem_cons_of_mem _ hy))
    have e := List.length_erase_of_mem hx
    have p := List.length_pos_of_mem hx
    rw [List.length_cons]
    omega
theorem met_le {n : Nat} {met : List Int} (nd : met.Nodup) (h : ∀ x ∈ met, 0 ≤ x ∧ x < (n : Int)) : met.length ≤ n := by
  have := int_sub_len met ((List.range n).map fun i : Nat => (i : Int)) nd fun x hx => by
    obtain ⟨h1, h2⟩ := h x hx
    exact List.mem_map.mpr ⟨x.toNat, List.mem_range.mpr (by omega), by omega⟩
  rw [List.length_map, List.length_range] at this
  exact this
theorem Sr.pos {G : Gr} {met : List Int} {w : List Rf} {f : Nat} (S : Sr G met w f) (hw : w ≠ []) : ∃ f', f = f' + 1 := by
  have h1 := met_le S.nd S.inn
  have h2 := S.fuel
  have h3 := List.length_pos_iff.mpr hw
  exact ⟨f - 1, by omega⟩
theorem last_split {w : List Rf} {r : Rf} (h : w.getLast? = some r) : w = w.dropLast ++ [r] := by
  have hne : w ≠ [] := fun z => by rw [z] at h; cases h
  have := List.dropLast_concat_getLast hne
  rw [List.getLast?_eq_some_getLast hne] at h
  cases h
  exact this.symm
theorem Sr.old {G : Gr} {met : List Int} {w : List Rf} {f : Nat} {r : Rf} (S : Sr G met w (f + 1)) (hw : w.getLast? = some r) : Sr G met w.dropLast f := by
  have e := congrArg List.length (last_split hw)
  rw [List.length_append] at e
  have := S.fuel
  refine ⟨S.nd, S.inn, fun x hx => S.wait x (List.dropLast_subset w hx), ?_⟩
  simp only [List.length_cons, List.length_nil] at e
  omega
theorem Sr.new {W : Int} {G : Gr} (hG : okG W G) {met : List Int} {w : List Rf} {f : Nat} {r : Rf} {nd : Nd} (S : Sr G met w (f + 1)) (hw : w.getLast? = some r) (h1 : r.1 = 1) (h2 : r.2 ∉ met) (e : G[r.2.toNat]? = some nd) : Sr G (met ++ [r.2]) (w.dropLast ++ [nd.a, nd.b]) f := by
  have el := congrArg List.length (last_split hw)
  rw [List.length_append] at el
  have hr := S.wait r (by rw [last_split hw]; simp) h1
  have ok := hG _ _ e
  have hl := (List.getElem?_eq_some_iff.mp e).1
  have := S.fuel
  refine ⟨?_, fun n hn => ?_, fun x hx => ?_, ?_⟩
  · rw [List.nodup_append]
    exact ⟨S.nd, by simp, fun a ha b hb => by rw [List.mem_singleton.mp hb]; exact fun z => h2 (by rw [← z]; exact ha)⟩
  · rcases List.mem_append.mp hn with hn | hn
    · exact S.inn n hn
    · rw [List.mem_singleton.mp hn]
      have := hr.1
      exact ⟨this, by omega⟩
  · rcases List.mem_append.mp hx with hx | hx
    · exact S.wait x (List.dropLast_subset w hx)
    · rcases List.mem_cons.mp hx with z | hx
      · rw [z]; exact ok.2.2.1.live
      · rw [List.mem_singleton.mp hx]; exact ok.2.2.2.live
  · simp only [List.length_append, List.length_cons, List.length_nil] at el ⊢
    omega
end M37
/-! Graphs as values; what the checks promise. -/
namespace K37
open PySem PySem.Spec PyProof.Rows L2 LW SX M37
/-! ### values -/
def refV (H : Hp) (v : V) (r : Rf) : Prop := ∃ q, v = .ref q ∧ H q = some (.tup [.int r.1, .int r.2])
def ndV (H : Hp) (v : V) (nd : Nd) : Prop := ∃ q va vb, v = .ref q ∧ H q = some (.tup [.int nd.p, va, vb]) ∧ refV H va nd.a ∧ refV H vb nd.b
inductive Nds (H : Hp) : List V → Gr → Prop
  | nil : Nds H [] []
  | cons {v : V} {nd : Nd} {vs : List V} {G : Gr} : ndV H v nd → Nds H vs G → Nds H (v :: vs) (nd :: G)
inductive Rfs (H : Hp) : List V → List Rf → Prop
  | nil : Rfs H [] []
  | cons {v : V} {r : Rf} {vs : List V} {R : List Rf} : refV H v r → Rfs H vs R → Rfs H (v :: vs) (r :: R)
/-- all tuples stay -/
def Tup (H H' : Hp) : Prop := ∀ p xs, H p = some (.tup xs) → H' p = some (.tup xs)
theorem Tup.refl {H : Hp} : Tup H H := fun _ _ h => h
theorem Tup.trans {H H1 H2 : Hp} (a : Tup H H1) (b : Tup H1 H2) : Tup H H2 := fun p xs h => b p xs (a p xs h)
theorem tup_ex {H H' : Hp} (e : Ex H H') : Tup H H' := fun p xs h => e p _ h
theorem tup_put {H H' : Hp} {l : Addr} {ys : List V} (hl : H l = some (.lst ys)) (e : Exc l H H') : Tup H H' := fun p xs h => e p _ (fun z => by rw [z, hl] at h; cases h) h
theorem tup_row {K : PySem.W.Frag} {sc : Scr} {H H' : Hp} {r : Addr} (h : RowOk K sc H r) (e : Exc r H H') : Tup H H' := fun p xs hp => h.keep e hp (fun _ z => by cases z)
theorem refV.mono {H H' : Hp} {v : V} {r : Rf} (t : Tup H H') (h : refV H v r) : refV H' v r := by
  obtain ⟨q, e, a⟩ := h
  exact ⟨q, e, t _ _ a⟩
theorem ndV.mono {H H' : Hp} {v : V} {nd : Nd} (t : Tup H H') (h : ndV H v nd) : ndV H' v nd := by
  obtain ⟨q, va, vb, e, a, b, c⟩ := h
  exact ⟨q, va, vb, e, t _ _ a, b.mono t, c.mono t⟩
theorem Nds.mono {H H' : Hp} (t : Tup H H') : ∀ {vs : List V} {G : Gr}, Nds H vs G → Nds H' vs G
  | _, _, .nil => .nil
  | _, _, .cons a r => .cons (a.mono t) (r.mono t)
theorem Rfs.mono {H H' : Hp} (t : Tup H H') : ∀ {vs : List V} {G : List Rf}, Rfs H vs G → Rfs H' vs G
  | _, _, .nil => .nil
  | _, _, .cons a r => .cons (a.mono t) (r.mono t)
theorem Nds.len {H : Hp} : ∀ {vs : List V} {G : Gr}, Nds H vs G → vs.length = G.length
  | _, _, .nil => rfl
  | _, _, .cons _ r => congrArg (· + 1) r.len
theorem Nds.get {H : Hp} : ∀ {vs : List V} {G : Gr} {i : Nat} {v : V}, Nds H vs G → vs[i]? = some v → ∃ nd, G[i]? = some nd ∧ ndV H v nd
  | _, _, _, _, .nil, h => by simp at h
  | _, _, 0, _, .cons (nd := nd) a t, h => by
    have h' := Option.some.inj (by simpa using h)
    subst h'
    exact ⟨nd, rfl, a⟩
  | _, _, i + 1, _, .cons a t, h => by
    obtain ⟨r, h1, h2⟩ := t.get (i := i) (by simpa using h)
    exact ⟨r, by simpa using h1, h2⟩
theorem Nds.val {H : Hp} {vs : List V} {G : Gr} {i : Nat} {nd : Nd} (h : Nds H vs G) (e : G[i]? = some nd) : ∃ v, vs[i]? = some v ∧ ndV H v nd := by
  have hi : i < vs.length := by rw [h.len]; exact (List.getElem?_eq_some_iff.mp e).1
  obtain ⟨nd', h1, h2⟩ := h.get (List.getElem?_eq_getElem hi)
  rw [e] at h1
  cases h1
  exact ⟨_, List.getElem?_eq_getElem hi, h2⟩
theorem nds_snoc {H : Hp} : ∀ {vs : List V} {G : Gr} {v : V} {nd : Nd}, Nds H vs G → ndV H v nd → Nds H (vs ++ [v]) (G ++ [nd])
  | _, _, _, _, .nil, h => .cons h .nil
  | _, _, _, _, .cons a t, h => .cons a (nds_snoc t h)
theorem Rfs.len {H : Hp} : ∀ {vs : List V} {R : List Rf}, Rfs H vs R → vs.length = R.length
  | _, _, .nil => rfl
  | _, _, .cons _ r => congrArg (· + 1) r.len
theorem rfs_app {H : Hp} : ∀ {vs ws : List V} {R T : List Rf}, Rfs H vs R → Rfs H ws T → Rfs H (vs ++ ws) (R ++ T)
  | _, _, _, _, .nil, h => h
  | _, _, _, _, .cons a t, h => .cons a (rfs_app t h)
/-- the last of some, and what is ahead of it -/
theorem rfs_last {H : Hp} : ∀ {vs : List V} {R : List Rf}, Rfs H vs R → vs ≠ [] → ∃ v r, vs[vs.length - 1]? = some v ∧ R.getLast? = some r ∧ refV H v r ∧ Rfs H vs.dropLast R.dropLast
  | _, _, .nil, h => absurd rfl h
  | [v], [r], .cons a .nil, _ => ⟨v, r, rfl, rfl, a, .nil⟩
  | _ :: _ :: _, _ :: _ :: _, .cons a (.cons b t), _ => by
    obtain ⟨v, r, h1, h2, h3, h4⟩ := rfs_last (.cons b t) (by simp)
    refine ⟨v, r, by simpa using h1, by simpa using h2, h3, .cons a h4⟩
/-! ### data -/
def refD (r : Rf) : PyData := .tuple [.int r.1, .int r.2]
def ndD (nd : Nd) : PyData := .tuple [.int nd.p, refD nd.a, refD nd.b]
theorem refV.dp {K : PySem.W.Frag} {H : Hp} {v : V} {r : Rf} (h : refV H v r) : Dp K H v (refD r) := by
  obtain ⟨q, rfl, a⟩ := h
  exact .tup (st_of a) (.cons (.int _) (.cons (.int _) .nil))
theorem ndV.dp {K : PySem.W.Frag} {H : Hp} {v : V} {nd : Nd} (h : ndV H v nd) : Dp K H v (ndD nd) := by
  obtain ⟨q, va, vb, rfl, a, b, c⟩ := h
  exact .tup (st_of a) (.cons (.int _) (.cons b.dp (.cons c.dp .nil)))
theorem Nds.dp {K : PySem.W.Frag} {H : Hp} : ∀ {vs : List V} {G : Gr}, Nds H vs G → DpAll K H vs (G.map ndD)
  | _, _, .nil => .nil
  | _, _, .cons a t => .cons a.dp t.dp
theorem node_ndD (nd : Nd) : nodeD (ndD nd) = true := rfl
/-! ### the checks -/
def spIsRow (K : PySem.W.Frag) : Sp := fun vs H Q _ => ∃ (x : V) (n : String), vs = [x] ∧ Kn K H x n ∧ ∀ H', Ex H H' → Q (.bl (n == "list" || n == "tuple")) H'
def spIsHop (K : PySem.W.Frag) : Sp := fun vs H Q _ => ∃ (x : V) (n : String), vs = [x] ∧ Kn K H x n ∧ Q (.bl (within x (-1) 999)) H
def spIsPair (K : PySem.W.Frag) : Sp := fun vs H Q _ => ∃ (x : V), vs = [x] ∧ ((∃ n, Kn K H x n ∧ n ≠ "tuple" ∧ Q (.bl false) H) ∨ ∃ (a : Addr) (xs : List V), x = .ref a ∧ SqT K H a xs ∧ Q (.bl (decide (xs.length = 2))) H)
/-- a reference by its two things -/
def refB (k v : V) (many : Int) : Bool := match k with
  | .int i => (decide (i = 0) && within v (-1) 999) || (decide (i = 1) && within v 0 (many - 1))
  | _ => false
def spRef (K : PySem.W.Frag) : Sp := fun vs H Q _ => ∃ (x : V) (many : Int), vs = [x, .int many] ∧ ((∃ n, Kn K H x n ∧ n ≠ "tuple" ∧ Q (.bl false) H) ∨ (∃ (a : Addr) (xs : List V), x = .ref a ∧ SqT K H a xs ∧ xs.length ≠ 2 ∧ Q (.bl false) H) ∨
  ∃ (a : Addr) (k v : V) (n1 n2 : String), x = .ref a ∧ SqT K H a [k, v] ∧ Kn K H k n1 ∧ Kn K H v n2 ∧ Q (.bl (refB k v many)) H)
theorem refB_ok {G : Gr} {i : Nat} {p : Int} {r : Rf} (h : okRf G i p r) : refB (.int r.1) (.int r.2) (i : Int) = true := by
  unfold refB
  rcases h with ⟨h1, h2, h3⟩ | ⟨h1, h2, h3, _⟩
  · simp [h1, within, h2, h3]
  · have h4 : r.2 ≤ (i : Int) - 1 := by omega
    simp [h1, within, h2, h4]
/-- a thing that is no node behind the nodes G -/
inductive BadN (K : PySem.W.Frag) (H : Hp) (W : Int) (G : Gr) (b : V) : Prop
  | kind (n : String) : Kn K H b n → n ≠ "tuple" → BadN K H W G b
  | size (a : Addr) (xs : List V) : b = .ref a → H a = some (.tup xs) → xs.length ≠ 3 → xs.length ≤ 1000 → BadN K H W G b
  | place (a : Addr) (p x y : V) (n : String) : b = .ref a → H a = some (.tup [p, x, y]) → Kn K H p n → within p 0 (W - 1) = false → BadN K H W G b
  | ref (a c : Addr) (i k v : Int) (y : V) : b = .ref a → H a = some (.tup [.int i, .ref c, y]) → 0 ≤ i → i < W → H c = some (.tup [.int k, .int v]) → refB (.int k) (.int v) (G.length : Int) = false → BadN K H W G b
  | back (a c : Addr) (i m : Int) (y : V) (nd : Nd) : b = .ref a → H a = some (.tup [.int i, .ref c, y]) → 0 ≤ i → i < W → H c = some (.tup [.int 1, .int m]) → 0 ≤ m → m < (G.length : Int) → G[m.toNat]? = some nd → nd.p ≤ i → BadN K H W G b
def spAreNodes (K : PySem.W.Frag) : Sp := fun vs H Q _ => ∃ (W : Int) (l : Addr) (gs bs : List V) (G : Gr), vs = [.int W, .ref l] ∧ H l = some (.lst (gs ++ bs)) ∧ Nds H gs G ∧ okG W G ∧ (gs ++ bs).length ≤ 1000 ∧
  ((bs = [] ∧ ∀ H', Ex H H' → Q (.bl true) H') ∨ ∃ b rest, bs = b :: rest ∧ BadN K H W G b ∧ ∀ H', Ex H H' → Q (.bl false) H')
/-- a graph -/
structure GrAt (K : PySem.W.Frag) (H : Hp) (g : Addr) (W : Nat) (G : Gr) (st : Rf) : Prop where
  ins : ∃ dx fs t rs sv, H g = some (.ins (He.ga K "Graph") dx fs) ∧ fs.lookup ("width" : Str) = some (.int (W : Int)) ∧ fs.lookup ("nodes" : Str) = some (.ref t) ∧ fs.lookup ("start" : Str) = some sv ∧ H t = some (.tup rs) ∧ Nds H rs G ∧ refV H sv st
  ok : okG (W : Int) G
  st : live G st
  w : 1 ≤ W ∧ W ≤ 64
  few : G.length ≤ 900
theorem GrAt.ex {K : PySem.W.Frag} {H H' : Hp} {g : Addr} {W : Nat} {G : Gr} {st : Rf} (h : GrAt K H g W G st) (e : Ex H H') : GrAt K H' g W G st := by
  obtain ⟨dx, fs, t, rs, sv, h1, h2, h3, h4, h5, h6, h7⟩ := h.ins
  exact ⟨⟨dx, fs, t, rs, sv, e _ _ h1, h2, h3, h4, e _ _ h5, h6.mono (tup_ex e), h7.mono (tup_ex e)⟩, h.ok, h.st, h.w, h.few⟩
theorem GrAt.insT {K : PySem.W.Frag} {H : Hp} {g : Addr} {W : Nat} {G : Gr} {st : Rf} (h : GrAt K H g W G st) : InsT K H "Graph" (.ref g) := by
  obtain ⟨dx, fs, _, _, _, h1, _⟩ := h.ins
  exact ⟨g, dx, fs, rfl, h1⟩
end K37
namespace K37
open PySem PySem.Spec PyProof.Rows L2 LW SX M37
theorem ne_tup {n : String} (h : n ∈ tyNames) (ne : n ≠ "tuple") : isK n "tuple" = false := by
  rw [isK_tup n h]
  simpa using ne
theorem within_int {i lo hi : Int} : within (.int i) lo hi = (decide (lo ≤ i) && decide (i ≤ hi)) := rfl
section
variable {P : Program} {w : World} {K : PySem.W.Frag} {mg : Str → Option Value} {base : Heap}
theorem ok_is_row (T : Txt K mg) : Dk P w K mg base (L2.CX P w) 1 "is_row" (spIsRow K) := by
  obtain ⟨fd, F⟩ := T.f_is_row
  refine ⟨_, fd, ["thing"], F.ok sc_is_row (fun vs H Q E h => ?_) (fun cdv A outer s H vs Q E hr h => ⟨_, (pss_one (ps_ret (pe_callB LW.c_isiT (by rfl) T.b_isinstance (by decide +kernel) (pa_cons (pv 0) (pa_cons (LW.pe_tp (pa_cons (pe_bltn (v := .ty "list") (by rfl) T.b_list (by decide +kernel) rfl) (pa_cons (pe_bltn (v := .ty "tuple") (by rfl) T.b_tuple (by decide +kernel) rfl) pa_nil))) pa_nil))))), ?_⟩), T.g_is_row, F.kp, F.bindsN fun _ _ _ _ _ _ us hl => match us, hl with | [_], _ => rfl⟩
  · obtain ⟨x, n, rfl, _⟩ := h
    rfl
  · obtain ⟨x, n, rfl, hk, q⟩ := h
    walk_at "go"
    refine w_new (by simp) fun p H1 np e1 hp => ?_
    walk_at "go"
    refine v_isiT (T := "list") (U := "tuple") (up_k e1 hk) (by decide) (by decide) hp ?_
    have e : (isK n "list" || isK n "tuple") = (n == "list" || n == "tuple") := by rw [isK_list n hk.2, isK_tup n hk.2]
    rw [e]
    exact q H1 e1
theorem ok_is_hop (T : Txt K mg) (D_is_within : Dk P w K mg base (L2.CX P w) 2 "is_within" (spWithin K)) : Dk P w K mg base (L2.CX P w) 3 "is_hop" (spIsHop K) := by
  obtain ⟨fd, F⟩ := T.f_is_hop
  refine ⟨_, fd, ["thing"], F.ok sc_is_hop (fun vs H Q E h => ?_) (fun cdv A outer s H vs Q E hr h => ⟨_, (pss_one (ps_ret (LW.pe_d D_is_within hr (by omega) (by rfl) passL (pa_cons (pv 0) (pa_cons (pe_un un_neg pe_int) (pa_cons (C8.pe_gc (by rfl) T.c_MOST_HOP) pa_nil)))))), ?_⟩), T.g_is_hop, F.kp, F.bindsN fun _ _ _ _ _ _ us hl => match us, hl with | [_], _ => rfl⟩
  · obtain ⟨x, n, rfl, _⟩ := h
    rfl
  · obtain ⟨x, n, rfl, hk, q⟩ := h
    walk_at "go"
    exact ⟨x, n, -1, 999, rfl, hk, q⟩
theorem ok_is_pair (T : Txt K mg) : Dk P w K mg base (L2.CX P w) 1 "is_pair" (spIsPair K) := by
  obtain ⟨fd, F⟩ := T.f_is_pair
  refine ⟨_, fd, ["thing"], F.ok sc_is_pair (fun vs H Q E h => ?_) (fun cdv A outer s H vs Q E hr h => ⟨_, (pss_one (ps_ret (pe_and (pe_callB LW.c_isi (by rfl) T.b_isinstance (by decide +kernel) (pa_cons (pv 0) (pa_cons (pe_bltn (v := .ty "tuple") (by rfl) T.b_tuple (by decide +kernel) rfl) pa_nil))) (pe_one (pe_cmpR LW.o_eq (pe_callB LW.c_lenQ (by rfl) T.b_len (by decide +kernel) (pa_cons (pv 0) pa_nil)) pe_int (nomark _)))))), ?_⟩), T.g_is_pair, F.kp, F.bindsN fun _ _ _ _ _ _ us hl => match us, hl with | [_], _ => rfl⟩
  · obtain ⟨x, rfl, _⟩ := h
    rfl
  · obtain ⟨x, rfl, h⟩ := h
    walk_at "go"
    rcases h with ⟨n, hk, hn, q⟩ | ⟨a, xs, rfl, ht, q⟩
    · refine v_isi (T := "tuple") hk (by decide) ?_
      rw [ne_tup hk.2 hn]
      refine ⟨_, rfl, iteF' ?_⟩
      exact q
    · refine v_isi (T := "tuple") (kn_sqT ht) (by decide) ?_
      refine ⟨_, rfl, iteT' ?_⟩
      walk_at "go"
      refine v_lenT ht ?_
      walk_at "go"
      have e : decide ((xs.length : Int) = 2) = decide (xs.length = 2) := by
        by_cases h : xs.length = 2
        · rw [decide_eq_true h]; exact decide_eq_true (by omega)
        · rw [decide_eq_false h]; exact decide_eq_false (by omega)
      rw [e]
      exact q
theorem ok_need_width (T : Txt K mg) (D_is_within : Dk P w K mg base (L2.CX P w) 2 "is_within" (spWithin K)) (X_BadWidth : Xk P w K mg base "RouteError" "BadWidth") : Dk P w K mg base (L2.CX P w) 4 "need_width" (spNeedWidth K) := by
  obtain ⟨fd, F⟩ := T.f_need_width
  refine ⟨_, fd, ["width"], F.ok sc_need_width (fun vs H Q E h => ?_) (fun cdv A outer s H vs Q E hr h => ⟨_, (pss_one (ps_if (pt_not (pt_val (LW.pe_d D_is_within hr (by omega) (by rfl) passL (pa_cons (pv 0) (pa_cons pe_int (pa_cons (C8.pe_gc (by rfl) T.c_MOST_BITS) pa_nil))))))
    (pss_one (ps_raise rfl (takes_of rfl rfl rfl rfl) (LW.pmk_x X_BadWidth hr (by omega) (by rfl) (pa_cons (pv 0) pa_nil)))) pss_nil)), ?_⟩), T.g_need_width, F.kp, F.bindsN fun _ _ _ _ _ _ us hl => match us, hl with | [_], _ => rfl⟩
  · obtain ⟨x, n, rfl, _⟩ := h
    rfl
  · obtain ⟨x, n, rfl, hk, q1, q2⟩ := h
    walk_at "go"
    refine ⟨x, n, 1, 64, rfl, hk, ?_⟩
    walk_at "go"
    refine w_ite (fun hb => ?_) (fun hb => ?_)
    · have e : within x 1 64 = false := by simpa using hb
      show tX _ _ _ _ _
      refine w_cons ?_
      walk_at "go"
      refine ⟨x, rfl, fun d H2 nd e2 hd => ?_⟩
      exact q2 e d H2 nd e2 hd
    · walk_at "go"
      exact q1 (by simpa using hb)
theorem ok_is_reference (T : Txt K mg) (D_is_pair : Dk P w K mg base (L2.CX P w) 1 "is_pair" (spIsPair K)) (D_is_integer : Dk P w K mg base (L2.CX P w) 1 "is_integer" (spIsInteger K)) (D_is_hop : Dk P w K mg base (L2.CX P w) 3 "is_hop" (spIsHop K)) (D_is_within : Dk P w K mg base (L2.CX P w) 2 "is_within" (spWithin K)) :
    Dk P w K mg base (L2.CX P w) 4 "is_reference" (spRef K) := by
  obtain ⟨fd, F⟩ := T.f_is_reference
  refine ⟨_, fd, ["thing", "many"], F.ok sc_is_reference (fun vs H Q E h => ?_) (fun cdv A outer s H vs Q E hr h => ⟨_, (pss_cons (ps_if (PW.pt (pw_or (pt_not (pt_val (LW.pe_d D_is_pair hr (by omega) (by rfl) passL (pa_cons (pv 0) pa_nil)))) (pw_or1 (pt_not (pt_val (LW.pe_d D_is_integer hr (by omega) (by rfl) passL (pa_cons (pe_ix LW.ix_tup (pv 0) pe_int (fun _ _ => rfl)) pa_nil)))))))
    (pss_one (ps_ret pe_bl)) pss_nil)
    (pss_one (ps_ret (pe_or (pe_and (pe_cmpR LW.o_eq (pe_ix LW.ix_tup (pv 0) pe_int (fun _ _ => rfl)) (C8.pe_gc (by rfl) T.c_LEADS) (nomark _)) (pe_one (LW.pe_d D_is_hop hr (by omega) (by rfl) passL (pa_cons (pe_ix LW.ix_tup (pv 0) pe_int (fun _ _ => rfl)) pa_nil)))) (pe_one (pe_and (pe_cmpR LW.o_eq (pe_ix LW.ix_tup (pv 0) pe_int (fun _ _ => rfl)) (C8.pe_gc (by rfl) T.c_GOES_ON) (nomark _)) (pe_one (LW.pe_d D_is_within hr (by omega) (by rfl) passL (pa_cons (pe_ix LW.ix_tup (pv 0) pe_int (fun _ _ => rfl)) (pa_cons pe_int (pa_cons (pe_op LW.o_sub (pv 1) pe_int) pa_nil))))))))))), ?_⟩), T.g_is_reference, F.kp, F.bindsN fun _ _ _ _ _ _ us hl => match us, hl with | [_, _], _ => rfl⟩
  · obtain ⟨x, many, rfl, _⟩ := h
    rfl
  · obtain ⟨x, many, rfl, h⟩ := h
    walk_at "go"
    rcases h with ⟨n, hk, hn, q⟩ | ⟨a, xs, rfl, ht, hl, q⟩ | ⟨a, k, v, n1, n2, rfl, ht, hk, hv, q⟩
    · refine ⟨_, rfl, .inl ⟨n, hk, hn, ?_⟩⟩
      refine ⟨_, rfl, iteT' ?_⟩
      walk_at "go"
      exact q
    · refine ⟨_, rfl, .inr ⟨a, xs, rfl, ht, ?_⟩⟩
      rw [decide_eq_false hl]
      refine ⟨_, rfl, iteT' ?_⟩
      walk_at "go"
      exact q
    · refine ⟨_, rfl, .inr ⟨a, _, rfl, ht, ?_⟩⟩
      refine ⟨_, rfl, iteF' ?_⟩
      walk_at "go"
      refine v_ixT ht (show _ = some k by rfl) ?_
      walk_at "go"
      refine ⟨k, n1, rfl, hk, ?_⟩
      refine ⟨_, rfl, ?_⟩
      refine w_ite (fun hb => ?_) (fun hb => ?_)
      · walk_at "go"
        have e : refB k v many = false := by
          cases k with
          | int i => rw [kn_of_int hk] at hb; cases hb
          | _ => rfl
        rw [← e]
        exact q
      · have hb' : (n1 == "int") = true := by simpa using hb
        have e1 := beq_iff_eq.mp hb'
        subst e1
        obtain ⟨i, rfl⟩ := kn_int_inv hk
        walk_at "go"
        refine v_ixT ht (show _ = some (.int i) by rfl) ?_
        walk_at "go"
        have second : ∀ (c : Bool), refB (.int i) v many = (c || (decide (i = 1) && within v 0 (many - 1))) → c = false → (decide (i = 1) = true → within v 0 (many - 1) = refB (.int i) v many) ∧ (decide (i = 1) = false → false = refB (.int i) v many) := fun c e hc => by
          rw [e, hc, Bool.false_or]
          exact ⟨fun h => by rw [h, Bool.true_and], fun h => by rw [h, Bool.false_and]⟩
        have eqn : refB (.int i) v many = ((decide (i = 0) && within v (-1) 999) || (decide (i = 1) && within v 0 (many - 1))) := rfl
        have tail : ∀ (c : Bool), refB (.int i) v many = (c || (decide (i = 1) && within v 0 (many - 1))) → c = false → tAndV (tOp rEq (tOp (rIxT K) (tVar 0) (tC (.int 0))) (tC (.int 1))) (tCl (spWithin K) E0 (tCons (tOp (rIxT K) (tVar 0) (tC (.int 1))) (tCons (tC (.int 0)) (tCons (tOp (rI0 fun i j => V.int (i - j)) (tVar 1) (tC (.int 1))) tNil)))) [some (.ref a), some (.int many)] H Q := fun c e hc => by
          obtain ⟨s1, s2⟩ := second c e hc
          walk_at "go"
          refine v_ixT ht (show _ = some (.int i) by rfl) ?_
          walk_at "go"
          refine w_ite (fun h1 => ?_) (fun h1 => ?_)
          · walk_at "go"
            refine v_ixT ht (show _ = some v by rfl) ?_
            walk_at "go"
            refine ⟨v, n2, 0, many - 1, rfl, hv, ?_⟩
            rw [s1 h1]
            exact q
          · rw [s2 h1]
            exact q
        refine w_ite (fun h0 => ?_) (fun h0 => ?_)
        · walk_at "go"
          refine v_ixT ht (show _ = some v by rfl) ?_
          walk_at "go"
          refine ⟨v, n2, rfl, hv, ?_⟩
          walk_at "go"
          rw [h0, Bool.true_and] at eqn
          refine w_ite (fun hw => ?_) (fun hw => ?_)
          · have e : refB (.int i) v many = true := by rw [eqn, hw, Bool.true_or]
            rw [← e]
            exact q
          · exact tail _ eqn hw
        · rw [h0, Bool.false_and] at eqn
          exact ⟨_, rfl, iteF' (tail _ eqn rfl)⟩
end
end K37
namespace K37
open PySem PySem.Spec PyProof.Rows L2 LW SX M37
theorem no_whole : ¬ (HT.sIx 3 0 (some 1) = 0 ∧ HT.sIx 3 3 none = 3) := by decide
section
variable {P : Program} {w : World} {K : PySem.W.Frag} {mg : Str → Option Value} {base : Heap}
theorem ok_are_nodes (T : Txt K mg) (D_is_within : Dk P w K mg base (L2.CX P w) 2 "is_within" (spWithin K)) (D_is_reference : Dk P w K mg base (L2.CX P w) 4 "is_reference" (spRef K)) :
    Dk P w K mg base (L2.CX P w) 5 "are_nodes" (spAreNodes K) := by
  obtain ⟨fd, F⟩ := T.f_are_nodes
  refine ⟨_, fd, ["width", "nodes"], F.ok sc_are_nodes (fun vs H Q E h => ?_) (fun cdv A outer s H vs Q E hr h => ⟨_, (pss_cons (ps_for (passes_of rfl) rfl (pi_enum (by rfl) T.b_enumerate (pa_cons (pv 1) pa_nil)) (pg_tup rfl (pgs_cons (pg_name (i := 2) sc_are_nodes.nd rfl (Or.inl rfl)) (pgs_cons (pg_name (i := 3) sc_are_nodes.nd rfl (Or.inl rfl)) pgs_nil)))
    (pss_cons (ps_if (PW.pt (pw_or (pt_not (pt_val (pe_callB LW.c_isi (by rfl) T.b_isinstance (by decide +kernel) (pa_cons (pv 3) (pa_cons (pe_bltn (v := .ty "tuple") (by rfl) T.b_tuple (by decide +kernel) rfl) pa_nil))))) (pw_or (pt_cmpR LW.o_ne (pe_callB LW.c_lenQ (by rfl) T.b_len (by decide +kernel) (pa_cons (pv 3) pa_nil)) pe_int (nomark _)) (pw_or1 (pt_not (pt_val (LW.pe_d D_is_within hr (by omega) (by rfl) passL (pa_cons (pe_ix LW.ix_tup (pv 3) pe_int (fun _ _ => rfl)) (pa_cons pe_int (pa_cons (pe_op LW.o_sub (pv 0) pe_int) pa_nil))))))))))
    (pss_one (ps_ret pe_bl)) pss_nil)
    (pss_one (ps_for (passes_of rfl) rfl (pi_tup (pe_slice LW.sl_tup (pv 3) (po_some pe_int) po_none)) (pg_name (i := 4) sc_are_nodes.nd rfl (Or.inl rfl))
    (pss_cons (ps_if (pt_not (pt_val (LW.pe_d D_is_reference hr (by omega) (by rfl) passL (pa_cons (pv 4) (pa_cons (pv 2) pa_nil)))))
    (pss_one (ps_ret pe_bl)) pss_nil)
    (pss_one (ps_if (PW.pt (pw_and (pt_cmpR LW.o_eq (pe_ix LW.ix_tup (pv 4) pe_int (fun _ _ => rfl)) (C8.pe_gc (by rfl) T.c_GOES_ON) (nomark _)) (pw_and1 (pt_cmpR LW.o_le (pe_ix LW.ix_tup (pe_ix LW.ix_list (pv 1) (pe_ix LW.ix_tup (pv 4) pe_int (fun _ _ => rfl)) (fun _ _ => rfl)) pe_int (fun _ _ => rfl)) (pe_ix LW.ix_tup (pv 3) pe_int (fun _ _ => rfl)) (nomark _)))))
    (pss_one (ps_ret pe_bl)) pss_nil)))))))
    (pss_one (ps_ret pe_bl))), ?_⟩), T.g_are_nodes, F.kp, F.bindsN fun _ _ _ _ _ _ us hl => match us, hl with | [_, _], _ => rfl⟩
  · obtain ⟨W, l, gs, bs, G, rfl, _⟩ := h
    rfl
  · obtain ⟨W, l, gs, bs, G, rfl, hl, hG, ok, hz, h⟩ := h
    have hlen := hG.len
    walk_at "go"
    refine ⟨l, gs ++ bs, rfl, sl_of hl, ?_⟩
    refine for_x (walk_enum (xs := gs ++ bs)) (fun i σ H' => ∃ (v2 v3 v4 : Option V), σ = [some (.int W), some (.ref l), v2, v3, v4] ∧ Ex H H' ∧ i ≤ gs.length)
      ⟨none, none, none, rfl, ex_refl, Nat.zero_le _⟩ (fun i σ H' _ p => by obtain ⟨_, _, _, _, e, _⟩ := p; exact sl_of (e _ _ hl)) (fun i y σ H1 H2 hi p yy => ?_) (fun σ H1 p => ?_)
    · obtain ⟨v2, v3, v4, rfl, e1, hle⟩ := p
      obtain ⟨T', y1, b, rfl, nT, rfl, hy1, hy2⟩ := yy
      cases hy1
      have hy2 : (gs ++ bs)[i]? = some b := hy2
      refine g_new nT fun H2 e2 h2 => ?_
      have e12 := e1.trans e2
      refine w_gtup (st_of h2) rfl ?_
      by_cases hig : i < gs.length
      · rw [List.getElem?_append_left hig] at hy2
        obtain ⟨nd, hnd, hv⟩ := hG.get hy2
        obtain ⟨q, va, vb, rfl, hq, hva, hvb⟩ := hv.mono (tup_ex e12)
        obtain ⟨ok0, okW, oka, okb⟩ := ok i nd hnd
        walk_at "go"
        refine v_isi (T := "tuple") (kn_tup hq) (by decide) ?_
        refine ⟨_, rfl, iteF' ?_⟩
        walk_at "go"
        refine v_lenT (st_of hq) ?_
        walk_at "go"
        refine w_ndec (fun z => absurd rfl z) (fun _ => ?_)
        walk_at "go"
        refine v_ixT (st_of hq) (show _ = some (.int nd.p) by rfl) ?_
        walk_at "go"
        refine ⟨.int nd.p, "int", 0, W - 1, rfl, kn_int, ?_⟩
        have ew : within (.int nd.p) 0 (W - 1) = true := by
          rw [within_int, decide_eq_true ok0, decide_eq_true (show nd.p ≤ W - 1 by omega)]
          rfl
        rw [ew]
        refine ⟨_, rfl, iteF' ?_⟩
        walk_at "go"
        refine ⟨q, _, rfl, st_of hq, no_whole, fun p np => ?_⟩
        refine g_new np fun H3 e3 h3 => ?_
        have e13 := e12.trans e3
        refine ⟨p, rfl, ⟨_, st_of h3⟩, ?_⟩
        refine for_x (walk_tup (xs := [va, vb])) (fun j σ H' => ∃ v4 : Option V, σ = [some (.int W), some (.ref l), some (.int (i : Nat)), some (.ref q), v4] ∧ H' = H3)
          ⟨_, rfl, rfl⟩ (fun j σ H' _ p => by obtain ⟨_, _, e⟩ := p; rw [e]; exact st_of h3) (fun j x σ H4 H5 hj p y => ?_) (fun σ H4 p => ?_)
        · obtain ⟨v4', rfl, rfl⟩ := p
          obtain ⟨rfl, hx⟩ := y
          obtain ⟨r, okr, hr⟩ : ∃ r, okRf G i nd.p r ∧ refV H5 x r := by
            have : x = va ∨ x = vb := by
              have := List.mem_of_getElem? hx
              simpa using this
            rcases this with rfl | rfl
            · exact ⟨nd.a, oka, hva.mono (tup_ex e3)⟩
            · exact ⟨nd.b, okb, hvb.mono (tup_ex e3)⟩
          obtain ⟨c, rfl, hc⟩ := hr
          walk_at "go"
          refine ⟨.ref c, (i : Int), rfl, .inr (.inr ⟨c, _, _, "int", "int", rfl, st_of hc, kn_int, kn_int, ?_⟩)⟩
          rw [refB_ok okr]
          refine ⟨_, rfl, iteF' ?_⟩
          walk_at "go"
          refine v_ixT (st_of hc) (show _ = some (.int r.1) by rfl) ?_
          walk_at "go"
          refine w_dec (fun h1 => ?_) (fun _ => ?_)
          · walk_at "go"
            refine v_ixT (st_of hc) (show _ = some (.int r.2) by rfl) ?_
            walk_at "go"
            rcases okr with ⟨z, _⟩ | ⟨_, r0, ri, nd2, hnd2, hpp⟩
            · rw [h1] at z
              cases z
            · obtain ⟨v2', hv2, hv2'⟩ := hG.val hnd2
              obtain ⟨q2, va2, vb2, rfl, hq2, _, _⟩ := hv2'.mono (tup_ex e13)
              have er : r.2 = ((r.2.toNat : Nat) : Int) := by omega
              rw [er]
              refine v_ixL (sl_of (e13 _ _ hl)) (atI_nat (v := .ref q2) (by rw [List.getElem?_append_left (by omega)]; exact hv2)) ?_
              walk_at "go"
              refine v_ixT (st_of hq2) (show _ = some (.int nd2.p) by rfl) ?_
              walk_at "go"
              refine v_ixT (st_of (e3 _ _ hq)) (show _ = some (.int nd.p) by rfl) ?_
              walk_at "go"
              refine w_dec (fun z => absurd z (by omega)) (fun _ => ?_)
              walk_at "go"
              exact ⟨_, rfl, rfl⟩
          · walk_at "go"
            exact ⟨_, rfl, rfl⟩
        · obtain ⟨v4', rfl, rfl⟩ := p
          exact ⟨_, _, _, rfl, e13, hig⟩
      · have ei : i = gs.length := by omega
        subst ei
        rcases h with ⟨rfl, _⟩ | ⟨b0, rest, rfl, bad, q⟩
        · simp at hi
        · rw [List.getElem?_append_right (Nat.le_refl _), Nat.sub_self] at hy2
          cases hy2
          walk_at "go"
          have four : (∃ n, Kn K H b n ∧ n ≠ "tuple") ∨ (∃ a xs, b = .ref a ∧ H a = some (.tup xs) ∧ xs.length ≠ 3) ∨ (∃ a p x y n, b = .ref a ∧ H a = some (.tup [p, x, y]) ∧ Kn K H p n ∧ within p 0 (W - 1) = false) ∨
              (∃ a c p k v y, b = .ref a ∧ H a = some (.tup [.int p, .ref c, y]) ∧ 0 ≤ p ∧ p < W ∧ H c = some (.tup [.int k, .int v]) ∧
                (refB (.int k) (.int v) (gs.length : Int) = false ∨ (refB (.int k) (.int v) (gs.length : Int) = true ∧ k = 1 ∧ 0 ≤ v ∧ v < (gs.length : Int) ∧ ∃ nd, G[v.toNat]? = some nd ∧ nd.p ≤ p))) := by
            cases bad with
            | kind n hk hn => exact .inl ⟨n, hk, hn⟩
            | size a xs e ha hne _ => exact .inr (.inl ⟨a, xs, e, ha, hne⟩)
            | place a p x y n e ha hp hw => exact .inr (.inr (.inl ⟨a, p, x, y, n, e, ha, hp, hw⟩))
            | ref a c i k v y e ha h0 hW hc hr => exact .inr (.inr (.inr ⟨a, c, i, k, v, y, e, ha, h0, hW, hc, .inl (by rw [hlen]; exact hr)⟩))
            | back a c i m y nd e ha h0 hW hc m0 m1 hnd hle =>
              refine .inr (.inr (.inr ⟨a, c, i, 1, m, y, e, ha, h0, hW, hc, .inr ⟨?_, rfl, m0, by rw [hlen]; exact m1, nd, hnd, hle⟩⟩))
              show ((decide ((1 : Int) = 0) && within (.int m) (-1) 999) || (decide ((1 : Int) = 1) && within (.int m) 0 ((gs.length : Int) - 1))) = true
              have ew : within (.int m) 0 ((gs.length : Int) - 1) = true := by
                rw [within_int, decide_eq_true m0, decide_eq_true (show m ≤ (gs.length : Int) - 1 by omega)]
                rfl
              rw [ew]
              rfl
          rcases four with ⟨n, hk, hn⟩ | ⟨a, xs, rfl, ha, hne⟩ | ⟨a, p, x, y, n, rfl, ha, hp, hw⟩ | ⟨a, c, p, k, v, y, rfl, ha, hp0, hpW, hc, hbad⟩
          · refine v_isi (T := "tuple") (up_k e12 hk) (by decide) ?_
            rw [ne_tup hk.2 hn]
            refine ⟨_, rfl, iteT' ?_⟩
            walk_at "go"
            exact q H2 e12
          · have ha2 := e12 _ _ ha
            refine v_isi (T := "tuple") (kn_tup ha2) (by decide) ?_
            refine ⟨_, rfl, iteF' ?_⟩
            walk_at "go"
            refine v_lenT (st_of ha2) ?_
            walk_at "go"
            refine w_ndec (fun _ => ?_) (fun z => absurd z (by omega))
            walk_at "go"
            exact q H2 e12
          · have ha2 := e12 _ _ ha
            refine v_isi (T := "tuple") (kn_tup ha2) (by decide) ?_
            refine ⟨_, rfl, iteF' ?_⟩
            walk_at "go"
            refine v_lenT (st_of ha2) ?_
            walk_at "go"
            refine w_ndec (fun z => absurd rfl z) (fun _ => ?_)
            walk_at "go"
            refine v_ixT (st_of ha2) (show _ = some p by rfl) ?_
            walk_at "go"
            refine ⟨p, n, 0, W - 1, rfl, up_k e12 hp, ?_⟩
            rw [hw]
            refine ⟨_, rfl, iteT' ?_⟩
            walk_at "go"
            exact q H2 e12
          · have ha2 := e12 _ _ ha
            refine v_isi (T := "tuple") (kn_tup ha2) (by decide) ?_
            refine ⟨_, rfl, iteF' ?_⟩
            walk_at "go"
            refine v_lenT (st_of ha2) ?_
            walk_at "go"
            refine w_ndec (fun z => absurd rfl z) (fun _ => ?_)
            walk_at "go"
            refine v_ixT (st_of ha2) (show _ = some (.int p) by rfl) ?_
            walk_at "go"
            refine ⟨.int p, "int", 0, W - 1, rfl, kn_int, ?_⟩
            have ew : within (.int p) 0 (W - 1) = true := by
              rw [within_int, decide_eq_true hp0, decide_eq_true (show p ≤ W - 1 by omega)]
              rfl
            rw [ew]
            refine ⟨_, rfl, iteF' ?_⟩
            walk_at "go"
            refine ⟨a, _, rfl, st_of ha2, no_whole, fun p3 np => ?_⟩
            refine g_new np fun H3 e3 h3 => ?_
            have e13 := e12.trans e3
            refine ⟨p3, rfl, ⟨_, st_of h3⟩, ?_⟩
            refine for_x (walk_tup (xs := [.ref c, y])) (fun j σ H' => j = 0 ∧ ∃ v4 : Option V, σ = [some (.int W), some (.ref l), some (.int (gs.length : Nat)), some (.ref a), v4] ∧ H' = H3)
              ⟨rfl, _, rfl, rfl⟩ (fun j σ H' _ p => by obtain ⟨_, _, _, e⟩ := p; rw [e]; exact st_of h3) (fun j x σ H4 H5 hj p y => ?_) (fun σ H4 p => absurd p.1 (by simp))
            obtain ⟨rfl, v4', rfl, rfl⟩ := p
            obtain ⟨rfl, hx⟩ := y
            cases hx
            have hc5 := e13 _ _ hc
            walk_at "go"
            refine ⟨.ref c, (gs.length : Int), rfl, .inr (.inr ⟨c, _, _, "int", "int", rfl, st_of hc5, kn_int, kn_int, ?_⟩)⟩
            rcases hbad with hb | ⟨hb, hk1, hv0, hv1, nd2, hnd2, hpp⟩
            · rw [hb]
              refine ⟨_, rfl, iteT' ?_⟩
              walk_at "go"
              exact q H5 e13
            · subst hk1
              rw [hb]
              refine ⟨_, rfl, iteF' ?_⟩
              walk_at "go"
              refine v_ixT (st_of hc5) (show _ = some (.int 1) by rfl) ?_
              walk_at "go"
              refine w_dec (fun _ => ?_) (fun z => absurd rfl z)
              walk_at "go"
              refine v_ixT (st_of hc5) (show _ = some (.int v) by rfl) ?_
              walk_at "go"
              obtain ⟨v2', hv2, hv2'⟩ := hG.val hnd2
              obtain ⟨q2, va2, vb2, rfl, hq2, _, _⟩ := hv2'.mono (tup_ex e13)
              have er : v = ((v.toNat : Nat) : Int) := by omega
              rw [er]
              refine v_ixL (sl_of (e13 _ _ hl)) (atI_nat (v := .ref q2) (by rw [List.getElem?_append_left (by omega)]; exact hv2)) ?_
              walk_at "go"
              refine v_ixT (st_of hq2) (show _ = some (.int nd2.p) by rfl) ?_
              walk_at "go"
              refine v_ixT (st_of (e3 _ _ ha2)) (show _ = some (.int p) by rfl) ?_
              walk_at "go"
              refine w_dec (fun _ => ?_) (fun z => absurd hpp z)
              walk_at "go"
              exact q H5 e13
    · obtain ⟨v2, v3, v4, rfl, e1, hle⟩ := p
      rcases h with ⟨rfl, q⟩ | ⟨b0, rest, rfl, bad, q⟩
      · walk_at "go"
        exact q H1 e1
      · rw [List.length_append, List.length_cons] at hle
        omega
end
end K37
namespace K37
open PySem PySem.Spec PyProof.Rows L2 LW SX M37
/-- Graph(width, nodes, start): kept, or refused -/
def spGraphInit (K : PySem.W.Frag) : Sp := fun vs H Q E => ∃ (x : Addr) (wv nv sv : V) (n1 : String) (dx : Addr), vs = [.ref x, wv, nv, sv] ∧ H x = some (.ins (He.ga K "Graph") dx []) ∧ Kn K H wv n1 ∧
  ((within wv 1 64 = false ∧ Rz K "BadWidth" wv H E) ∨ ∃ W : Nat, wv = .int (W : Int) ∧ 1 ≤ W ∧ W ≤ 64 ∧
    ((∃ (l : Addr) (gs : List V) (G : Gr) (st : Rf), nv = .ref l ∧ H l = some (.lst gs) ∧ Nds H gs G ∧ okG (W : Int) G ∧ refV H sv st ∧ okRf G G.length (-1) st ∧ G.length ≤ 900 ∧ ∀ H', Exc x H H' → GrAt K H' x W G st → Q .non H') ∨
     (((∃ n2, Kn K H nv n2 ∧ n2 ≠ "list" ∧ n2 ≠ "tuple") ∨ (∃ (l : Addr) (gs : List V) (G : Gr) (b : V) (rest : List V), nv = .ref l ∧ H l = some (.lst (gs ++ b :: rest)) ∧ Nds H gs G ∧ okG (W : Int) G ∧ (gs ++ b :: rest).length ≤ 1000 ∧ BadN K H (W : Int) G b) ∨
        (∃ (l : Addr) (gs : List V) (G : Gr), nv = .ref l ∧ H l = some (.lst gs) ∧ Nds H gs G ∧ okG (W : Int) G ∧ G.length ≤ 900 ∧ ((∃ n, Kn K H sv n ∧ n ≠ "tuple") ∨ (∃ (a : Addr) (xs : List V), sv = .ref a ∧ SqT K H a xs ∧ xs.length ≠ 2) ∨
            ∃ (a : Addr) (k v : V) (m1 m2 : String), sv = .ref a ∧ SqT K H a [k, v] ∧ Kn K H k m1 ∧ Kn K H v m2 ∧ refB k v (G.length : Int) = false))) ∧
      ∀ t d H', H t = none → (∀ b o, b ≠ x → H b = some o → H' b = some o) → H' t = some (.tup [nv, sv]) → H d = none → H' d = some (.xd [("value", .ref t)]) → E (.ref (He.ga K "BadGraph")) (some d) H')))
def spNeedGraph (K : PySem.W.Frag) : Sp := fun vs H Q _ => ∃ x, vs = [x] ∧ InsT K H "Graph" x ∧ Q .non H
theorem BadN.ex {K : PySem.W.Frag} {H H' : Hp} {W : Int} {G : Gr} {b : V} (h : BadN K H W G b) (e : Ex H H') : BadN K H' W G b := by
  cases h with
  | kind n a c => exact .kind n (up_k e a) c
  | size a xs e1 ha h3 h4 => exact .size a xs e1 (e _ _ ha) h3 h4
  | place a p x y n e1 ha hp hw => exact .place a p x y n e1 (e _ _ ha) (up_k e hp) hw
  | ref a c i k v y e1 ha h0 hW hc hr => exact .ref a c i k v y e1 (e _ _ ha) h0 hW (e _ _ hc) hr
  | back a c i m y nd e1 ha h0 hW hc m0 m1 hnd hle => exact .back a c i m y nd e1 (e _ _ ha) h0 hW (e _ _ hc) m0 m1 hnd hle
section
variable {P : Program} {w : World} {K : PySem.W.Frag} {mg : Str → Option Value} {base : Heap}
theorem ok_Graph_init (T : Txt K mg) (D_need_width : Dk P w K mg base (L2.CX P w) 4 "need_width" (spNeedWidth K)) (D_is_row : Dk P w K mg base (L2.CX P w) 1 "is_row" (spIsRow K)) (D_are_nodes : Dk P w K mg base (L2.CX P w) 5 "are_nodes" (spAreNodes K)) (D_is_reference : Dk P w K mg base (L2.CX P w) 4 "is_reference" (spRef K))
    (X_BadGraph : Xk P w K mg base "RouteError" "BadGraph") : Mkk P w K mg base (L2.CX P w) 6 "Graph" (spGraphInit K) := by
  obtain ⟨fd, F⟩ := T.f_Graph_init
  refine ⟨T.g_Graph, _, fd, ["self", "width", "nodes", "start"], T.mk_Graph, F.ok sc_Graph_init (fun vs H Q E h => ?_) (fun cdv A outer s H vs Q E hr h => ⟨_, (pss_cons (ps_expr (LW.pe_d D_need_width hr (by omega) (by rfl) (passes_call (takes_of rfl rfl rfl rfl) (fun _ _ _ _ h => h)) (pa_cons (pv 1) pa_nil)))
    (pss_cons (ps_if (PW.pt (pw_or (pt_not (pt_val (LW.pe_d D_is_row hr (by omega) (by rfl) passL (pa_cons (pv 2) pa_nil)))) (pw_or (pt_not (pt_val (LW.pe_d D_are_nodes hr (by omega) (by rfl) passL (pa_cons (pv 1) (pa_cons (pv 2) pa_nil))))) (pw_or1 (pt_not (pt_val (LW.pe_d D_is_reference hr (by omega) (by rfl) passL (pa_cons (pv 3) (pa_cons (pe_callB LW.c_lenQ (by rfl) T.b_len (by decide +kernel) (pa_cons (pv 2) pa_nil)) pa_nil)))))))))
    (pss_one (ps_raise rfl (takes_of rfl rfl rfl rfl) (LW.pmk_x X_BadGraph hr (by omega) (by rfl) (pa_cons (LW.pe_tp (pa_cons (pv 2) (pa_cons (pv 3) pa_nil))) pa_nil)))) pss_nil)
    (pss_cons (ps_fld (pv 0) (pv 1) rfl)
    (pss_cons (ps_fld (pv 0) (pe_callTy LW.c_tuple (by rfl) T.b_tuple (by decide +kernel) (pa_cons (pv 2) pa_nil)) rfl)
    (pss_one (ps_fld (pv 0) (pv 3) rfl)))))), ?_⟩), F.bindsN fun _ _ _ _ _ _ us hl => match us, hl with | [_, _, _, _], _ => rfl⟩
  · obtain ⟨x, wv, nv, sv, n1, dx, rfl, _⟩ := h
    rfl
  · obtain ⟨x, wv, nv, sv, n1, dx, rfl, hx, hw, h⟩ := h
    walk_at "go"
    rcases h with ⟨hbad, rz⟩ | ⟨W, rfl, hW1, hW64, h⟩
    · exact ⟨wv, n1, rfl, hw, fun z => absurd z (by rw [hbad]; decide), fun _ => rz⟩
    · have ew : within (.int (W : Int)) 1 64 = true := by
        rw [within_int, decide_eq_true (show (1 : Int) ≤ (W : Int) by omega), decide_eq_true (show (W : Int) ≤ 64 by omega)]
        rfl
      refine ⟨_, n1, rfl, hw, fun _ => ?_, fun z => absurd z (by rw [ew]; decide)⟩
      walk_at "go"
      -- the error is raised from a heap that came by new objects alone
      have raise_ : (∀ t d H', H t = none → (∀ b o, b ≠ x → H b = some o → H' b = some o) → H' t = some (.tup [nv, sv]) → H d = none → H' d = some (.xd [("value", .ref t)]) → E (.ref (He.ga K "BadGraph")) (some d) H') →
          ∀ H2, Ex H H2 → tX (He.ga K "BadGraph") (tCons (tTupN (tCons (tVar 2) (tCons (tVar 3) tNil))) tNil) (L2.start ["self", "width", "nodes", "start"] [.ref x, .int (W : Int), nv, sv]) H2 E := fun rz H2 e2 => by
        refine w_cons ?_
        walk_at "go"
        refine w_new (by simp) fun t H3 nt e3 ht => ?_
        walk_at "go"
        refine ⟨.ref t, rfl, fun d H4 nd e4 hd => ?_⟩
        exact rz t d H4 (ex_back e2 nt) (fun b o _ hb => e4 _ _ (e3 _ _ (e2 _ _ hb))) (e4 _ _ ht) (ex_back (e2.trans e3) nd) hd
      have row_ : (("list" : String) == "list" || ("list" : String) == "tuple") = true := by decide
      rcases h with ⟨l, gs, G, st, rfl, hl, hG, ok, hsv, hst, hfew, q⟩ | ⟨⟨n2, hk, hn1, hn2⟩ | ⟨l, gs, G, b, rest, rfl, hl, hG, ok, hz, bad⟩ | ⟨l, gs, G, rfl, hl, hG, ok, hfew, bad⟩, rz⟩
      · refine ⟨.ref l, "list", rfl, kn_lst hl, fun H1 e1 => ?_⟩
        rw [row_]
        refine ⟨_, rfl, iteF' ?_⟩
        walk_at "go"
        have hlen := hG.len
        refine ⟨(W : Int), l, gs, [], G, rfl, by rw [List.append_nil]; exact e1 _ _ hl, hG.mono (tup_ex e1), ok, by rw [List.append_nil]; omega, .inl ⟨rfl, fun H2 e2 => ?_⟩⟩
        refine ⟨_, rfl, iteF' ?_⟩
        have e12 := e1.trans e2
        walk_at "go"
        refine v_lenL (sl_of (e12 _ _ hl)) ?_
        walk_at "go"
        obtain ⟨c, rfl, hc⟩ := id hsv
        have hc2 := e12 _ _ hc
        refine ⟨.ref c, (gs.length : Int), rfl, .inr (.inr ⟨c, _, _, "int", "int", rfl, st_of hc2, kn_int, kn_int, ?_⟩)⟩
        rw [hlen, refB_ok hst]
        refine ⟨_, rfl, iteF' ?_⟩
        walk_at "go"
        have hx2 := e12 _ _ hx
        refine ⟨x, _, dx, [], rfl, hx2, T.k_Graph, T.n_Graph_width, by decide, ?_⟩
        refine g_put fun H3 e3 h3 => ?_
        walk_at "go"
        have nlx : l ≠ x := fun z => by rw [z, hx] at hl; cases hl
        have ncx : c ≠ x := fun z => by rw [z, hx] at hc; cases hc
        have hl3 := e3 _ _ nlx (e12 _ _ hl)
        refine ⟨l, gs, rfl, .inl ⟨sl_of hl3, fun t nt => ?_⟩⟩
        refine g_new nt fun H4 e4 h4 => ?_
        walk_at "go"
        have hx4 := e4 _ _ h3
        refine ⟨x, _, dx, _, rfl, hx4, T.k_Graph, T.n_Graph_nodes, (show 1 < 1000 by decide), ?_⟩
        refine g_put fun H5 e5 h5 => ?_
        walk_at "go"
        refine ⟨x, _, dx, _, rfl, h5, T.k_Graph, T.n_Graph_start, (show 2 < 1000 by decide), ?_⟩
        refine g_put fun H6 e6 h6 => ?_
        walk_at "go"
        have ntx : t ≠ x := fun z => by rw [z, h3] at nt; cases nt
        have e16 : Exc x H H6 := fun b o n hb => e6 b o n (e5 b o n (e4 b o (e3 b o n (e12 b o hb))))
        have t6 : ∀ {p : Addr} {xs : List V}, H p = some (.tup xs) → H6 p = some (.tup xs) := fun hp => e16 _ _ (fun z => by rw [z, hx] at hp; cases hp) hp
        refine q H6 e16 ⟨⟨dx, _, t, gs, .ref c, h6, rfl, rfl, rfl, e6 _ _ ntx (e5 _ _ ntx h4), hG.mono fun p xs hp => t6 hp, ⟨c, rfl, t6 hc⟩⟩, ok, hst.live, ⟨hW1, hW64⟩, hfew⟩
      · refine ⟨nv, n2, rfl, hk, fun H1 e1 => ?_⟩
        have e2 : (n2 == "list" || n2 == "tuple") = false := by simp [hn1, hn2]
        rw [e2]
        refine ⟨_, rfl, iteT' ?_⟩
        exact raise_ rz H1 e1
      · refine ⟨.ref l, "list", rfl, kn_lst hl, fun H1 e1 => ?_⟩
        rw [row_]
        refine ⟨_, rfl, iteF' ?_⟩
        walk_at "go"
        refine ⟨(W : Int), l, gs, b :: rest, G, rfl, e1 _ _ hl, hG.mono (tup_ex e1), ok, hz, .inr ⟨b, rest, rfl, bad.ex e1, fun H2 e2 => ?_⟩⟩
        refine ⟨_, rfl, iteT' ?_⟩
        exact raise_ rz H2 (e1.trans e2)
      · refine ⟨.ref l, "list", rfl, kn_lst hl, fun H1 e1 => ?_⟩
        rw [row_]
        refine ⟨_, rfl, iteF' ?_⟩
        walk_at "go"
        have hlen := hG.len
        refine ⟨(W : Int), l, gs, [], G, rfl, by rw [List.append_nil]; exact e1 _ _ hl, hG.mono (tup_ex e1), ok, by rw [List.append_nil]; omega, .inl ⟨rfl, fun H2 e2 => ?_⟩⟩
        refine ⟨_, rfl, iteF' ?_⟩
        have e12 := e1.trans e2
        walk_at "go"
        refine v_lenL (sl_of (e12 _ _ hl)) ?_
        walk_at "go"
        rcases bad with ⟨n, hk, hn⟩ | ⟨a, xs, rfl, ha, hne⟩ | ⟨a, k, v, m1, m2, rfl, ha, hk, hv, hr⟩
        · refine ⟨sv, (gs.length : Int), rfl, .inl ⟨n, up_k e12 hk, hn, ?_⟩⟩
          exact ⟨_, rfl, iteT' (raise_ rz H2 e12)⟩
        · refine ⟨.ref a, (gs.length : Int), rfl, .inr (.inl ⟨a, xs, rfl, up_t e12 ha, hne, ?_⟩)⟩
          exact ⟨_, rfl, iteT' (raise_ rz H2 e12)⟩
        · refine ⟨.ref a, (gs.length : Int), rfl, .inr (.inr ⟨a, k, v, m1, m2, rfl, up_t e12 ha, up_k e12 hk, up_k e12 hv, ?_⟩)⟩
          rw [hlen, hr]
          exact ⟨_, rfl, iteT' (raise_ rz H2 e12)⟩
theorem ok_need_graph (T : Txt K mg) (X_BadGraph : Xk P w K mg base "RouteError" "BadGraph") : Dk P w K mg base (L2.CX P w) 3 "need_graph" (spNeedGraph K) := by
  obtain ⟨fd, F⟩ := T.f_need_graph
  refine ⟨_, fd, ["graph"], F.ok sc_need_graph (fun vs H Q E h => ?_) (fun cdv A outer s H vs Q E hr h => ⟨_, (pss_one (ps_if (pt_not (pt_val (pe_callB LW.c_isi (by rfl) T.b_isinstance (by decide +kernel) (pa_cons (pv 0) (pa_cons (C8.pe_gc (v := .ref (He.ga K "Graph")) (by rfl) ⟨_, T.g_Graph, rfl⟩) pa_nil)))))
    (pss_one (ps_raise rfl (takes_of rfl rfl rfl rfl) (LW.pmk_x X_BadGraph hr (by omega) (by rfl) (pa_cons (pv 0) pa_nil)))) pss_nil)), ?_⟩), T.g_need_graph, F.kp, F.bindsN fun _ _ _ _ _ _ us hl => match us, hl with | [_], _ => rfl⟩
  · obtain ⟨x, rfl, _⟩ := h
    rfl
  · obtain ⟨x, rfl, hi, q⟩ := h
    walk_at "go"
    refine v_isC_yes T.k_Graph T.ic_Graph hi ?_
    refine ⟨_, rfl, iteF' ?_⟩
    walk_at "go"
    exact q
end
end K37
namespace K37
open PySem PySem.Spec PyProof.Rows L2 LW SX M37
/-- the walk through a graph: a new tuple of where it ends, and of how many nodes are met -/
def spLedBy (K : PySem.W.Frag) : Sp := fun vs H Q _ => ∃ (g : Addr) (W : Nat) (G : Gr) (st : Rf) (l : List Nat), vs = [.ref g, .str (S l)] ∧ GrAt K H g W G st ∧ l.length = W ∧ l.all isBit = true ∧
  ∀ t H', H t = none → Ex H H' → H' t = some (.tup [.int (wk G l G.length st 0).1, .int ((wk G l G.length st 0).2 : Int)]) → Q (.ref t) H'
def spWalk (K : PySem.W.Frag) : Sp := fun vs H Q _ => ∃ (n : Addr) (gs : List V) (sv : V) (W : Nat) (G : Gr) (st : Rf) (l : List Nat), vs = [.ref n, sv, .str (S l)] ∧ H n = some (.lst gs) ∧ Nds H gs G ∧ okG (W : Int) G ∧ refV H sv st ∧ live G st ∧ G.length ≤ 900 ∧ W ≤ 64 ∧ l.length = W ∧ l.all isBit = true ∧
  ∀ t H', H t = none → Ex H H' → H' t = some (.tup [.int (wk G l G.length st 0).1, .int ((wk G l G.length st 0).2 : Int)]) → Q (.ref t) H'
theorem rank_live {G : Gr} {r : Rf} (h : live G r) : rank r ≤ G.length := by
  unfold rank
  by_cases h1 : r.1 = 1
  · rw [if_pos h1]
    obtain ⟨h0, nd, e⟩ := h h1
    have := (List.getElem?_eq_some_iff.mp e).1
    omega
  · rw [if_neg h1]
    exact Nat.zero_le _
/-- a loop that walks: what is left to walk ends as the whole -/
def Wk (G : Gr) (l : List Nat) (st : Rf) (m : Nat) (r : Rf) (k : Nat) : Prop := live G r ∧ rank r ≤ m ∧ wk G l m r k = wk G l G.length st 0
theorem Wk.start {G : Gr} {l : List Nat} {st : Rf} (h : live G st) : Wk G l st G.length st 0 := ⟨h, rank_live h, rfl⟩
theorem Wk.done {G : Gr} {l : List Nat} {st : Rf} {m : Nat} {r : Rf} {k : Nat} (h : Wk G l st m r k) (h1 : r.1 ≠ 1) : wk G l G.length st 0 = (r.2, k) := by
  rw [← h.2.2, wk_end h1]
theorem Wk.step {W : Int} {G : Gr} (hG : okG W G) {l : List Nat} {st : Rf} {m : Nat} {r : Rf} {k : Nat} (h : Wk G l st m r k) (h1 : r.1 = 1) {nd : Nd} (e : G[r.2.toNat]? = some nd) :
    ∃ m', m = m' + 1 ∧ Wk G l st m' (if l[nd.p.toNat]? = some 48 then nd.a else nd.b) (k + 1) := by
  obtain ⟨lv, rk, w⟩ := h
  cases m with
  | zero => unfold rank at rk; rw [if_pos h1] at rk; omega
  | succ m =>
    refine ⟨m, rfl, ?_⟩
    have ok := hG _ _ e
    rw [wk_step h1 e] at w
    have h0 := (lv h1).1
    refine ⟨?_, ?_, w⟩
    · split
      · exact ok.2.2.1.live
      · exact ok.2.2.2.live
    · have : rank (if l[nd.p.toNat]? = some 48 then nd.a else nd.b) < rank r := by
        split
        · exact rank_lt hG h1 h0 e (.inl rfl)
        · exact rank_lt hG h1 h0 e (.inr rfl)
      omega
theorem bit_cases {l : List Nat} (h : l.all isBit = true) {i : Nat} {c : Nat} (e : l[i]? = some c) : c = 48 ∨ c = 49 := by
  have := List.all_eq_true.mp h c (List.mem_of_getElem? e)
  simpa [isBit] using this
section
variable {P : Program} {w : World} {K : PySem.W.Frag} {mg : Str → Option Value} {base : Heap}
theorem ok__law_walk (T : Txt K mg) : Dk P w K mg base (L2.CX P w) 1 "_law_walk" (spWalk K) := by
  obtain ⟨fd, F⟩ := T.f__law_walk
  refine ⟨_, fd, ["nodes", "start", "address"], F.ok sc__law_walk (fun vs H Q E h => ?_) (fun cdv A outer s H vs Q E hr h => ⟨_, (pss_cons (ps_asg (pv 1) (pg_tup rfl (pgs_cons (pg_name (i := 3) sc__law_walk.nd rfl (Or.inl rfl)) (pgs_cons (pg_name (i := 4) sc__law_walk.nd rfl (Or.inl rfl)) pgs_nil))))
    (pss_cons (ps_set (i := 5) sc__law_walk.nd rfl (Or.inl rfl) pe_int)
    (pss_cons (ps_while (passes_of rfl) (pt_cmpR LW.o_eq (pv 3) pe_int (nomark _))
    (pss_cons (ps_asg (pe_ix LW.ix_list (pv 0) (pv 4) (fun _ _ => rfl)) (pg_tup rfl (pgs_cons (pg_name (i := 6) sc__law_walk.nd rfl (Or.inl rfl)) (pgs_cons (pg_name (i := 7) sc__law_walk.nd rfl (Or.inl rfl)) (pgs_cons (pg_name (i := 8) sc__law_walk.nd rfl (Or.inl rfl)) pgs_nil)))))
    (pss_cons (ps_asg (pe_ifExp (pt_cmpR LW.o_eq (pe_ix LW.ix_str (pv 2) (pv 6) (fun _ _ => rfl)) pe_str (nomark _)) (pv 7) (pv 8)) (pg_tup rfl (pgs_cons (pg_name (i := 3) sc__law_walk.nd rfl (Or.inl rfl)) (pgs_cons (pg_name (i := 4) sc__law_walk.nd rfl (Or.inl rfl)) pgs_nil))))
    (pss_one (ps_set (i := 5) sc__law_walk.nd rfl (Or.inl rfl) (pe_op LW.o_add (pv 5) pe_int))))))
    (pss_one (ps_ret (LW.pe_tp (pa_cons (pv 4) (pa_cons (pv 5) pa_nil)))))))), ?_⟩), T.g__law_walk, F.kp, F.bindsN fun _ _ _ _ _ _ us hl => match us, hl with | [_, _, _], _ => rfl⟩
  · obtain ⟨n, gs, sv, W, G, st, l, rfl, _⟩ := h
    rfl
  · obtain ⟨n, gs, sv, W, G, st, l, rfl, hn, hG, ok, hsv, hst, hfew, hW, hl, hb, q⟩ := h
    have hlen := hG.len
    obtain ⟨c0, rfl, hc0⟩ := id hsv
    walk_at "go"
    refine w_gtup (st_of hc0) rfl ?_
    walk_at "go"
    refine w_while (fun m σ H' => ∃ (r : Rf) (k : Nat) (v6 v7 v8 : Option V), σ = [some (.ref n), some (.ref c0), some (.str (S l)), some (.int r.1), some (.int r.2), some (.int (k : Int)), v6, v7, v8] ∧ H' = H ∧ Wk G l st m r k) G.length ⟨st, 0, none, none, none, rfl, rfl, Wk.start hst⟩ (fun m σ H1 p => ?_)
    obtain ⟨r, k, v6, v7, v8, rfl, rfl, hw⟩ := p
    walk_at "go"
    refine w_dec (fun h1 => ?_) (fun h1 => ?_)
    · obtain ⟨h0, nd, e⟩ := hw.1 h1
      obtain ⟨m', rfl, hw'⟩ := hw.step ok h1 e
      obtain ⟨v, hv, hv'⟩ := hG.val e
      obtain ⟨q0, va, vb, rfl, hq, hva, hvb⟩ := hv'
      have oknd := ok _ _ e
      refine v_N ?_
      walk_at "go"
      have er : r.2 = ((r.2.toNat : Nat) : Int) := by omega
      rw [er]
      refine v_ixL (sl_of hn) (atI_nat (v := .ref q0) hv) ?_
      refine w_gtup (st_of hq) rfl ?_
      walk_at "go"
      have ep : nd.p = ((nd.p.toNat : Nat) : Int) := by have := oknd.1; omega
      have plt : nd.p.toNat < l.length := by have h1 := oknd.1; have h2 := oknd.2.1; omega
      obtain ⟨b, hbb⟩ : ∃ b, l[nd.p.toNat]? = some b := ⟨_, List.getElem?_eq_getElem plt⟩
      rw [ep]
      refine v_ixS (c := b) (by rw [S_len]; omega) (atI_nat hbb) ?_
      walk_at "go"
      have eb : ((⟨#[b]⟩ : Str) = "0") ↔ b = 48 := by
        constructor
        · intro z
          have := congrArg (fun z : Str => z.cps.toList) z
          exact (List.cons.inj (show [b] = [48] from this)).1
        · intro z
          rw [z]
          rfl
      have fin : ∀ (r' : Rf), r' = (if l[nd.p.toNat]? = some 48 then nd.a else nd.b) → ∀ σ' : L2.St, (∃ v6 v7 v8, σ' = [some (.ref n), some (.ref c0), some (.str (S l)), some (.int r'.1), some (.int r'.2), some (.int ((k + 1 : Nat) : Int)), v6, v7, v8]) →
          ∃ m'', m'' < m' + 1 ∧ ∃ (r : Rf) (k : Nat) (v6 v7 v8 : Option V), σ' = [some (.ref n), some (.ref c0), some (.str (S l)), some (.int r.1), some (.int r.2), some (.int (k : Int)), v6, v7, v8] ∧ H1 = H1 ∧ Wk G l st m'' r k := fun r' er' σ' ⟨v6, v7, v8, es⟩ => by
        rw [← er'] at hw'
        exact ⟨m', Nat.lt_succ_self _, r', k + 1, v6, v7, v8, es, rfl, hw'⟩
      refine w_dec (fun hz => ?_) (fun hz => ?_)
      · have hb48 := eb.mp hz
        rw [hb48] at hbb
        obtain ⟨c, rfl, hc⟩ := hva
        walk_at "go"
        refine w_gtup (st_of hc) rfl ?_
        walk_at "go"
        exact fin nd.a (if_pos hbb).symm _ ⟨_, _, _, rfl⟩
      · have hne : ¬ l[nd.p.toNat]? = some 48 := fun z => hz (eb.mpr (by rw [hbb] at z; exact Option.some.inj z))
        obtain ⟨c, rfl, hc⟩ := hvb
        walk_at "go"
        refine w_gtup (st_of hc) rfl ?_
        walk_at "go"
        exact fin nd.b (if_neg hne).symm _ ⟨_, _, _, rfl⟩
    · walk_at "go"
      refine w_new (by simp) fun t H2 nt e2 ht => ?_
      refine q t H2 nt e2 ?_
      rw [hw.done h1]
      exact ht
theorem ok_led_by (T : Txt K mg) (D_need_graph : Dk P w K mg base (L2.CX P w) 3 "need_graph" (spNeedGraph K)) (D_is_bits : Dk P w K mg base (L2.CX P w) 1 "is_bits" (spBits K)) (X_BadAddress : Xk P w K mg base "RouteError" "BadAddress") : Dk P w K mg base (L2.CX P w) 4 "led_by" (spLedBy K) := by
  obtain ⟨fd, F⟩ := T.f_led_by
  refine ⟨_, fd, ["graph", "address"], F.ok sc_led_by (fun vs H Q E h => ?_) (fun cdv A outer s H vs Q E hr h => ⟨_, (pss_cons (ps_expr (LW.pe_d D_need_graph hr (by omega) (by rfl) (passes_call (takes_of rfl rfl rfl rfl) (fun _ _ _ _ h => h)) (pa_cons (pv 0) pa_nil)))
    (pss_cons (ps_if (PW.pt (pw_or (pt_not (pt_val (LW.pe_d D_is_bits hr (by omega) (by rfl) passL (pa_cons (pv 1) (pa_cons (pe_fld (pv 0) rfl) pa_nil))))) (pw_or1 (pt_cmpR LW.o_ne (pe_callB LW.c_lenS (by rfl) T.b_len (by decide +kernel) (pa_cons (pv 1) pa_nil)) (pe_fld (pv 0) rfl) (nomark _)))))
    (pss_one (ps_raise rfl (takes_of rfl rfl rfl rfl) (LW.pmk_x X_BadAddress hr (by omega) (by rfl) (pa_cons (pv 1) pa_nil)))) pss_nil)
    (pss_cons (ps_asg (pe_fld (pv 0) rfl) (pg_tup rfl (pgs_cons (pg_name (i := 2) sc_led_by.nd rfl (Or.inl rfl)) (pgs_cons (pg_name (i := 3) sc_led_by.nd rfl (Or.inl rfl)) pgs_nil))))
    (pss_cons (ps_set (i := 4) sc_led_by.nd rfl (Or.inl rfl) pe_int)
    (pss_cons (ps_while (passes_of rfl) (pt_cmpR LW.o_eq (pv 2) (C8.pe_gc (by rfl) T.c_GOES_ON) (nomark _))
    (pss_cons (ps_asg (pe_ix LW.ix_tup (pe_fld (pv 0) rfl) (pv 3) (fun _ _ => rfl)) (pg_tup rfl (pgs_cons (pg_name (i := 5) sc_led_by.nd rfl (Or.inl rfl)) (pgs_cons (pg_name (i := 6) sc_led_by.nd rfl (Or.inl rfl)) (pgs_cons (pg_name (i := 7) sc_led_by.nd rfl (Or.inl rfl)) pgs_nil)))))
    (pss_cons (ps_asg (pe_ifExp (pt_cmpR LW.o_eq (pe_ix LW.ix_str (pv 1) (pv 5) (fun _ _ => rfl)) pe_str (nomark _)) (pv 6) (pv 7)) (pg_tup rfl (pgs_cons (pg_name (i := 2) sc_led_by.nd rfl (Or.inl rfl)) (pgs_cons (pg_name (i := 3) sc_led_by.nd rfl (Or.inl rfl)) pgs_nil))))
    (pss_one (ps_aug (i := 4) sc_led_by.nd rfl (Or.inl rfl) pe_int ip_add)))))
    (pss_one (ps_ret (LW.pe_tp (pa_cons (pv 3) (pa_cons (pv 4) pa_nil)))))))))), ?_⟩), T.g_led_by, F.kp, F.bindsN fun _ _ _ _ _ _ us hl => match us, hl with | [_, _], _ => rfl⟩
  · obtain ⟨g, W, G, st, l, rfl, _⟩ := h
    rfl
  · obtain ⟨g, W, G, st, l, rfl, hg, hl, hb, q⟩ := h
    walk_at "go"
    refine ⟨_, rfl, hg.insT, ?_⟩
    have ok := hg.ok
    have hst := hg.st
    have hWb := hg.w
    obtain ⟨dx, fs, n, gs, sv, hgi, hf1, hf2, hf3, hn, hG, hsv⟩ := hg.ins
    have hlen := hG.len
    obtain ⟨c0, rfl, hc0⟩ := id hsv
    walk_at "go"
    refine ⟨g, _, dx, fs, _, rfl, hgi, T.k_Graph, T.n_Graph_width, hf1, ?_⟩
    walk_at "go"
    refine ⟨.str (S l), "str", (W : Int), rfl, kn_str, fun z hz => by rw [← V.str.inj hz, S_len]; omega, fun H1 e1 => ?_⟩
    have ebits : bits (.str (S l)) (W : Int) = true := by
      show (decide _ && _) = true
      rw [Bool.and_eq_true]
      exact ⟨decide_eq_true (by rw [S_len]; omega), hb⟩
    rw [ebits]
    refine ⟨_, rfl, iteF' ?_⟩
    walk_at "go"
    refine v_lenS (by rw [S_len]; omega) ?_
    rw [S_len, hl]
    walk_at "go"
    refine ⟨g, _, dx, fs, _, rfl, e1 _ _ hgi, T.k_Graph, T.n_Graph_width, hf1, ?_⟩
    walk_at "go"
    refine w_ndec (fun z => absurd rfl z) (fun _ => ?_)
    walk_at "go"
    refine ⟨g, _, dx, fs, _, rfl, e1 _ _ hgi, T.k_Graph, T.n_Graph_start, hf3, ?_⟩
    refine w_gtup (st_of (e1 _ _ hc0)) rfl ?_
    walk_at "go"
    refine w_while (fun m σ H' => ∃ (r : Rf) (k : Nat) (v6 v7 v8 : Option V), σ = [some (.ref g), some (.str (S l)), some (.int r.1), some (.int r.2), some (.int (k : Int)), v6, v7, v8] ∧ H' = H1 ∧ Wk G l st m r k) G.length ⟨st, 0, none, none, none, rfl, rfl, Wk.start hst⟩ (fun m σ H2 p => ?_)
    obtain ⟨r, k, v6, v7, v8, rfl, rfl, hw⟩ := p
    walk_at "go"
    refine w_dec (fun h1 => ?_) (fun h1 => ?_)
    · obtain ⟨h0, nd, e⟩ := hw.1 h1
      obtain ⟨m', rfl, hw'⟩ := hw.step ok h1 e
      obtain ⟨v, hv, hv'⟩ := hG.val e
      obtain ⟨q0, va, vb, rfl, hq, hva, hvb⟩ := hv'
      have oknd := ok _ _ e
      refine v_N ?_
      walk_at "go"
      refine ⟨g, _, dx, fs, _, rfl, e1 _ _ hgi, T.k_Graph, T.n_Graph_nodes, hf2, ?_⟩
      walk_at "go"
      have er : r.2 = ((r.2.toNat : Nat) : Int) := by omega
      rw [er]
      refine v_ixT (st_of (e1 _ _ hn)) (atI_nat (v := .ref q0) hv) ?_
      refine w_gtup (st_of (e1 _ _ hq)) rfl ?_
      walk_at "go"
      have ep : nd.p = ((nd.p.toNat : Nat) : Int) := by have := oknd.1; omega
      have plt : nd.p.toNat < l.length := by have h1 := oknd.1; have h2 := oknd.2.1; omega
      obtain ⟨b, hbb⟩ : ∃ b, l[nd.p.toNat]? = some b := ⟨_, List.getElem?_eq_getElem plt⟩
      rw [ep]
      refine v_ixS (c := b) (by rw [S_len]; omega) (atI_nat hbb) ?_
      walk_at "go"
      have eb : ((⟨#[b]⟩ : Str) = "0") ↔ b = 48 := by
        constructor
        · intro z
          have := congrArg (fun z : Str => z.cps.toList) z
          exact (List.cons.inj (show [b] = [48] from this)).1
        · intro z
          rw [z]
          rfl
      have fin : ∀ (r' : Rf), r' = (if l[nd.p.toNat]? = some 48 then nd.a else nd.b) → ∀ σ' : L2.St, (∃ v6 v7 v8, σ' = [some (.ref g), some (.str (S l)), some (.int r'.1), some (.int r'.2), some (.int ((k + 1 : Nat) : Int)), v6, v7, v8]) →
          ∃ m'', m'' < m' + 1 ∧ ∃ (r : Rf) (k : Nat) (v6 v7 v8 : Option V), σ' = [some (.ref g), some (.str (S l)), some (.int r.1), some (.int r.2), some (.int (k : Int)), v6, v7, v8] ∧ H2 = H2 ∧ Wk G l st m'' r k := fun r' er' σ' ⟨v6, v7, v8, es⟩ => by
        rw [← er'] at hw'
        exact ⟨m', Nat.lt_succ_self _, r', k + 1, v6, v7, v8, es, rfl, hw'⟩
      refine w_dec (fun hz => ?_) (fun hz => ?_)
      · have hb48 := eb.mp hz
        rw [hb48] at hbb
        obtain ⟨c, rfl, hc⟩ := hva
        walk_at "go"
        refine w_gtup (st_of (e1 _ _ hc)) rfl ?_
        walk_at "go"
        exact fin nd.a (if_pos hbb).symm _ ⟨_, _, _, rfl⟩
      · have hne : ¬ l[nd.p.toNat]? = some 48 := fun z => hz (eb.mpr (by rw [hbb] at z; exact Option.some.inj z))
        obtain ⟨c, rfl, hc⟩ := hvb
        walk_at "go"
        refine w_gtup (st_of (e1 _ _ hc)) rfl ?_
        walk_at "go"
        exact fin nd.b (if_neg hne).symm _ ⟨_, _, _, rfl⟩
    · walk_at "go"
      refine w_new (by simp) fun t H3 nt e2 ht => ?_
      refine q t H3 (ex_back e1 nt) (e1.trans e2) ?_
      rw [hw.done h1]
      exact ht
end
end K37
namespace K37
open PySem PySem.Spec PyProof.Rows L2 LW SX M37
theorem dep_node {W : Int} {G : Gr} (hG : okG W G) {i : Nat} {nd : Nd} (e : G[i]? = some nd) : dep G G.length (1, (i : Int)) = 1 + max (dep G G.length nd.a) (dep G G.length nd.b) := by
  have hi := (List.getElem?_eq_some_iff.mp e).1
  have ok := hG i nd e
  have e' : G[((1, (i : Int)) : Rf).2.toNat]? = some nd := by simpa using e
  have ra := rank_lt hG (r := (1, (i : Int))) rfl (by simp) e' (c := nd.a) (.inl rfl)
  have rb := rank_lt hG (r := (1, (i : Int))) rfl (by simp) e' (c := nd.b) (.inr rfl)
  have rk : rank ((1, (i : Int)) : Rf) = i + 1 := by unfold rank; simp
  obtain ⟨f, hf⟩ : ∃ f, G.length = f + 1 := ⟨G.length - 1, by omega⟩
  have step : dep G (f + 1) (1, (i : Int)) = 1 + max (dep G f nd.a) (dep G f nd.b) := dep_step (r := (1, (i : Int))) rfl e'
  rw [hf, step, dep_fuel hG f (f + 1) nd.a ok.2.2.1.live (by omega) (by omega), dep_fuel hG f (f + 1) nd.b ok.2.2.2.live (by omega) (by omega)]
def spMostLooks (K : PySem.W.Frag) : Sp := fun vs H Q _ => ∃ (g : Addr) (W : Nat) (G : Gr) (st : Rf), vs = [.ref g] ∧ GrAt K H g W G st ∧ ∀ H', Ex H H' → Q (.int (dep G G.length st : Int)) H'
def lean (G : Gr) (st : Rf) : Bool := decide ((G.map ndD).map nk).Nodup && ((G.all fun nd => !decide (nd.a = nd.b)) && decide ((rch G (3 * G.length + 1) [] [st]).length = G.length))
def spLean (K : PySem.W.Frag) : Sp := fun vs H Q _ => ∃ (g : Addr) (W : Nat) (G : Gr) (st : Rf), vs = [.ref g] ∧ GrAt K H g W G st ∧ ∀ H', Ex H H' → Q (.bl (lean G st)) H'
section
variable {P : Program} {w : World} {K : PySem.W.Frag} {mg : Str → Option Value} {base : Heap}
theorem ok_most_looks (T : Txt K mg) (D_need_graph : Dk P w K mg base (L2.CX P w) 3 "need_graph" (spNeedGraph K)) : Dk P w K mg base (L2.CX P w) 4 "most_looks" (spMostLooks K) := by
  obtain ⟨fd, F⟩ := T.f_most_looks
  refine ⟨_, fd, ["graph"], F.ok sc_most_looks (fun vs H Q E h => ?_) (fun cdv A outer s H vs Q E hr h => ⟨_, (pss_cons (ps_expr (LW.pe_d D_need_graph hr (by omega) (by rfl) (passes_call (takes_of rfl rfl rfl rfl) (fun _ _ _ _ h => h)) (pa_cons (pv 0) pa_nil)))
    (pss_cons (ps_set (i := 1) sc_most_looks.nd rfl (Or.inr rfl) (LW.pe_ls pa_nil))
    (pss_cons (ps_for (passes_of rfl) rfl (pi_tup (pe_fld (pv 0) rfl)) (pg_tup rfl (pgs_cons (pg_name (i := 2) sc_most_looks.nd rfl (Or.inl rfl)) (pgs_cons (pg_name (i := 3) sc_most_looks.nd rfl (Or.inl rfl)) (pgs_cons (pg_name (i := 4) sc_most_looks.nd rfl (Or.inl rfl)) pgs_nil))))
    (pss_one (ps_expr (pe_bm PySem.F.plainAttrs_list PySem.F.slot_list_append PySem.F.type_list_append LW.m_append (pv 1) (pa_cons (pe_op LW.o_add pe_int (pe_callB (cr_max rfl) (by rfl) T.b_max (by decide +kernel) (pa_cons (pe_lc (own := [("kind", 5), ("number", 6)]) (by rfl) sc_most_looks.nd (pi_tup (LW.pe_tp (pa_cons (pv 3) (pa_cons (pv 4) pa_nil)))) (blkOk_by (own := [("kind", 5), ("number", 6)]) (N := ["graph", "depths", "place", "one", "two", "kind", "number"]) (sc := defScope s_most_looks) (by decide +kernel)) (fun _ _ _ _ _ => (LW.pg_tupK (K := K) (n := 2) rfl (pgs_cons (pg_name (i := 5) sc_most_looks.nd rfl (Or.inl rfl)) (pgs_cons (pg_name (i := 6) sc_most_looks.nd rfl (Or.inl rfl)) pgs_nil)))) (fun _ _ _ _ _ => pts_nil) (fun _ _ _ _ _ => (pe_ifExp (pt_cmpR LW.o_eq (pv 5) (C8.pe_gc (by rfl) T.c_GOES_ON) (nomark _)) (pe_ix (LW.ix_listK (K := K)) (pv 1) (pv 6) (fun _ _ => rfl)) pe_int))) pa_nil))) pa_nil)))))
    (pss_one (ps_ret (pe_ifExp (pt_cmpR LW.o_eq (pe_ix LW.ix_tup (pe_fld (pv 0) rfl) pe_int (fun _ _ => rfl)) (C8.pe_gc (by rfl) T.c_GOES_ON) (nomark _)) (pe_ix LW.ix_list (pv 1) (pe_ix LW.ix_tup (pe_fld (pv 0) rfl) pe_int (fun _ _ => rfl)) (fun _ _ => rfl)) pe_int)))))), ?_⟩), T.g_most_looks, F.kp, F.bindsN fun _ _ _ _ _ _ us hl => match us, hl with | [_], _ => rfl⟩
  · obtain ⟨g, W, G, st, rfl, _⟩ := h
    rfl
  · obtain ⟨g, W, G, st, rfl, hg, q⟩ := h
    walk_at "go"
    refine ⟨_, rfl, hg.insT, ?_⟩
    have ok := hg.ok
    have hst := hg.st
    have hfew := hg.few
    obtain ⟨dx, fs, n, gs, sv, hgi, hf1, hf2, hf3, hn, hG, hsv⟩ := hg.ins
    have hlen := hG.len
    obtain ⟨c0, rfl, hc0⟩ := id hsv
    walk_at "go"
    refine w_new (by simp) fun D H1 nD e1 hD => ?_
    walk_at "go"
    refine ⟨g, _, dx, fs, _, rfl, e1 _ _ hgi, T.k_Graph, T.n_Graph_nodes, hf2, ?_⟩
    refine ⟨n, rfl, ⟨_, st_of (e1 _ _ hn)⟩, ?_⟩
    refine for_x (walk_tup (xs := gs)) (fun i σ H' => ∃ (v2 v3 v4 v5 v6 : Option V), σ = [some (.ref g), some (.ref D), v2, v3, v4, v5, v6] ∧ Ex H H' ∧ H' D = some (.lst ((List.range i).map fun j : Nat => .int ((dep G G.length (1, (j : Int)) : Nat) : Int))))
      ⟨none, none, none, none, none, rfl, e1, hD⟩ (fun i σ H' _ p => by obtain ⟨_, _, _, _, _, _, e, _⟩ := p; exact st_of (e _ _ hn)) (fun i x σ H2 H3 hi p y => ?_) (fun σ H2 p => ?_)
    · obtain ⟨v2, v3, v4, v5, v6, rfl, e2, hD2⟩ := p
      obtain ⟨rfl, hx⟩ := y
      obtain ⟨nd, hnd, q0, va, vb, rfl, hq, hva, hvb⟩ := hG.get hx
      have oknd := ok i nd hnd
      refine w_gtup (st_of (e2 _ _ hq)) rfl ?_
      walk_at "go"
      refine ⟨ty_list hD2, ?_⟩
      walk_at "go"
      refine w_new (by simp) fun p3 H4 np3 e4 h4 => ?_
      have hD4 := e4 _ _ hD2
      refine ⟨p3, rfl, ⟨_, st_of h4⟩, fun D2 nD2 => ?_⟩
      have val : ∀ (r : Rf), okRf G i nd.p r → r.1 = 1 → ((List.range i).map fun j : Nat => V.int ((dep G G.length (1, (j : Int)) : Nat) : Int))[r.2.toNat]? = some (V.int ((dep G G.length r : Nat) : Int)) := fun r hr h1 => by
        rcases hr with ⟨z, _⟩ | ⟨_, r0, ri, _⟩
        · rw [h1] at z; cases z
        · have er : r = (1, ((r.2.toNat : Nat) : Int)) := Prod.ext h1 (by show r.2 = ((r.2.toNat : Nat) : Int); omega)
          rw [List.getElem?_map, List.getElem?_range (by omega)]
          conv => rhs; rw [er]
          rfl
      refine lc_map (walk_tup (xs := [va, vb])) (fun j => .int ((dep G G.length (if j = 0 then nd.a else nd.b) : Nat) : Int)) (by simp) nD2 (fun H' e' => st_of (e' _ _ h4)) (fun j x H5 H6 hj e5 y R hR => ?_) (fun H5 e5 hD5 => ?_)
      · obtain ⟨rfl, hx2⟩ := y
        obtain ⟨r, er, okr, hr⟩ : ∃ r, r = (if j = 0 then nd.a else nd.b) ∧ okRf G i nd.p r ∧ refV H6 x r := by
          have : j = 0 ∨ j = 1 := by
            have : j < 2 := hj
            omega
          rcases this with rfl | rfl
          · cases hx2
            exact ⟨nd.a, rfl, oknd.2.2.1, (hva.mono (tup_ex (e2.trans (e4.trans e5))))⟩
          · cases hx2
            exact ⟨nd.b, rfl, oknd.2.2.2, (hvb.mono (tup_ex (e2.trans (e4.trans e5))))⟩
        obtain ⟨c, rfl, hc⟩ := hr
        rw [← er] at hR
        refine w_gtup (st_of hc) rfl ?_
        walk_at "go"
        refine ⟨rfl, ?_⟩
        walk_at "go"
        refine w_dec (fun h1 => ?_) (fun h1 => ?_)
        · walk_at "go"
          have e9 := val r okr h1
          have er2 : r.2 = ((r.2.toNat : Nat) : Int) := by have := (okr.live h1).1; omega
          rw [er2]
          exact v_ixL (sl_of (e5 _ _ hD4)) (atI_nat e9) (hR _ ex_refl)
        · walk_at "go"
          rw [dep_end h1] at hR
          exact hR _ ex_refl
      · walk_at "go"
        refine ⟨D2, [((dep G G.length nd.a : Nat) : Int), ((dep G G.length nd.b : Nat) : Int)], rfl, sl_of hD5, by simp, fun m hm hle => ?_⟩
        have em : m = ((max (dep G G.length nd.a) (dep G G.length nd.b) : Nat) : Int) := by
          have h1 := hle _ (show ((dep G G.length nd.a : Nat) : Int) ∈ [((dep G G.length nd.a : Nat) : Int), ((dep G G.length nd.b : Nat) : Int)] by simp)
          have h2 := hle _ (show ((dep G G.length nd.b : Nat) : Int) ∈ [((dep G G.length nd.a : Nat) : Int), ((dep G G.length nd.b : Nat) : Int)] by simp)
          simp only [List.mem_cons, List.not_mem_nil, or_false] at hm
          omega
        walk_at "go"
        have hD6 := e5 _ _ hD4
        refine v_app hD6 (by rw [List.length_map, List.length_range]; omega) ?_
        refine g_put fun H7 e7 h7 => ?_
        walk_at "go"
        refine ⟨_, _, _, _, _, rfl, fun b o hb => e7 b o (fun z => by rw [z, nD] at hb; cases hb) (e5 b o (e4 b o (e2 b o hb))), ?_⟩
        rw [h7, List.range_succ, List.map_append, List.map_cons, List.map_nil, em]
        have := dep_node ok hnd
        have e8 : ((1 : Int) + ((max (dep G G.length nd.a) (dep G G.length nd.b) : Nat) : Int)) = ((dep G G.length (1, (i : Int)) : Nat) : Int) := by rw [this]; omega
        rw [e8]
    · obtain ⟨v2, v3, v4, v5, v6, rfl, e2, hD2⟩ := p
      rw [hlen] at hD2
      walk_at "go"
      refine ⟨g, _, dx, fs, _, rfl, e2 _ _ hgi, T.k_Graph, T.n_Graph_start, hf3, ?_⟩
      walk_at "go"
      refine v_ixT (st_of (e2 _ _ hc0)) (show _ = some (.int st.1) by rfl) ?_
      walk_at "go"
      refine w_dec (fun h1 => ?_) (fun h1 => ?_)
      · walk_at "go"
        refine ⟨g, _, dx, fs, _, rfl, e2 _ _ hgi, T.k_Graph, T.n_Graph_start, hf3, ?_⟩
        walk_at "go"
        refine v_ixT (st_of (e2 _ _ hc0)) (show _ = some (.int st.2) by rfl) ?_
        obtain ⟨s0, nd, hnd⟩ := hst h1
        have hl := (List.getElem?_eq_some_iff.mp hnd).1
        have er2 : st.2 = ((st.2.toNat : Nat) : Int) := by omega
        have es : st = (1, ((st.2.toNat : Nat) : Int)) := Prod.ext h1 er2
        rw [er2]
        refine v_ixL (sl_of hD2) (atI_nat (by rw [List.getElem?_map, List.getElem?_range hl] <;> rfl)) ?_
        have := q H2 e2
        rw [es] at this
        exact this
      · walk_at "go"
        have := q H2 e2
        rw [dep_end h1] at this
        exact this
end
end K37
namespace K37
open PySem PySem.Spec PyProof.Rows L2 LW SX M37
theorem valV_has {κ : Type} [DecidableEq κ] {kvs : List (κ × V)} {k : κ} : (valV kvs k).isSome = true ↔ k ∈ kvs.map (·.1) := by
  induction kvs with
  | nil => simp [valV_nil]
  | cons p r ih =>
    by_cases h : p.1 = k
    · rw [valV_pos h, List.map_cons, h]
      exact ⟨fun _ => List.mem_cons_self, fun _ => rfl⟩
    · rw [valV_neg h, ih, List.map_cons, List.mem_cons]
      exact ⟨.inr, fun z => z.resolve_left fun y => h y.symm⟩
theorem putK_new {κ : Type} [DecidableEq κ] {kvs : List (κ × V)} {k : κ} {v : V} (h : k ∉ kvs.map (·.1)) : (putK kvs k v).map (·.1) = kvs.map (·.1) ++ [k] := by
  have : ¬ (kvs.any fun kv => decide (kv.1 = k)) = true := fun z => by
    obtain ⟨kv, h1, h2⟩ := List.any_eq_true.mp z
    exact h (List.mem_map.mpr ⟨kv, h1, by simpa using h2⟩)
  unfold putK
  rw [if_neg this, List.map_append]
  rfl
theorem ref_eqv (r s : Rf) : PyData.eqv (refD r) (refD s) = decide (r = s) := by
  have e : PyData.eqv (refD r) (refD s) = (r.1 == s.1 && (r.2 == s.2 && true)) := rfl
  rw [e, Bool.and_true]
  by_cases h : r = s
  · subst h
    rw [decide_eq_true rfl, Bool.and_eq_true]
    exact ⟨beq_self_eq_true _, beq_self_eq_true _⟩
  · rw [decide_eq_false h]
    rw [Bool.and_eq_false_iff]
    by_cases h1 : r.1 = s.1
    · exact .inr (by simpa using fun z => h (Prod.ext h1 z))
    · exact .inl (by simpa using h1)
theorem mem_inl {n : Int} : ∀ {met : List Int}, ((Sum.inl n : Key) ∈ met.map Sum.inl) ↔ n ∈ met := fun {met} => by
  constructor
  · intro h
    obtain ⟨m, hm, e⟩ := List.mem_map.mp h
    cases e
    exact hm
  · exact fun h => List.mem_map.mpr ⟨n, h, rfl⟩
theorem valV_int {kvs : List (Key × V)} {met : List Int} {n : Int} (h : kvs.map (·.1) = met.map Sum.inl) : (valV kvs (.inl n)).isSome = decide (n ∈ met) := by
  rw [Bool.eq_iff_iff, decide_eq_true_iff, valV_has, h]
  exact mem_inl
theorem v_dputI {H : Hp} {a : Addr} {kvs : List (Key × V)} {z : Int} {v : V} {R : Hp → Prop} (h : H a = some (.dK kvs)) (hl : kvs.length < 100000) (q : ∀ H', Exc a H H' → H' a = some (.dK (putK kvs (.inl z) v)) → R H') :
    ∃ b H4, V.ref a = .ref b ∧ DPut H b (.int z) v H4 ∧ R H4 :=
  ⟨a, _, rfl, .inl ⟨kvs, .inl z, h, rfl, Evl.sz_lt hl, rfl⟩, q _ (fun b o n e => by rw [upd_ne n]; exact e) upd_same⟩
theorem w_bm0 {K : PySem.W.Frag} {T : String} {r : V → List V → Hp → VK → Prop} {ta : TE} {σ : L2.St} {H : Hp} {Q : VK} (h : ta σ H fun x H1 => tyV K T x H1 ∧ r x [] H1 Q) : tBM0 K T r ta σ H Q := h
theorem w_dnin {ty td : TE} {σ : L2.St} {H : Hp} {Q : VK} (h : ty σ H fun y H1 => td σ H1 fun x H2 => ∃ a o, x = .ref a ∧ DGet H2 a y o ∧ Q (.bl !o.isSome) H2) : tDNotIn ty td σ H Q := h
theorem emptyB {α : Type} {l : List α} : (!l.isEmpty) = decide (l ≠ []) := by cases l <;> rfl
section
variable {P : Program} {w : World} {K : PySem.W.Frag} {mg : Str → Option Value} {base : Heap}
theorem ok_is_least_graph (T : Txt K mg) (D_need_graph : Dk P w K mg base (L2.CX P w) 3 "need_graph" (spNeedGraph K)) : Dk P w K mg base (L2.CX P w) 4 "is_least_graph" (spLean K) := by
  obtain ⟨fd, F⟩ := T.f_is_least_graph
  refine ⟨_, fd, ["graph"], F.ok sc_is_least_graph (fun vs H Q E h => ?_) (fun cdv A outer s H vs Q E hr h => ⟨_, (pss_cons (ps_expr (LW.pe_d D_need_graph hr (by omega) (by rfl) (passes_call (takes_of rfl rfl rfl rfl) (fun _ _ _ _ h => h)) (pa_cons (pv 0) pa_nil)))
    (pss_cons (ps_if (pt_cmpR LW.o_ne (pe_callB LW.c_lenN (by rfl) T.b_len (by decide +kernel) (pa_cons (pe_callTy (LW.c_dictN rfl hr.units) (by rfl) T.b_dict (by decide +kernel) (pa_cons (pe_lc (own := [("node", 1)]) (by rfl) sc_is_least_graph.nd (pi_tup (pe_fld (pv 0) rfl)) (blkOk_by (own := [("node", 1)]) (N := ["graph", "node", "place", "one", "two", "met", "waiting", "reference"]) (sc := defScope s_is_least_graph) (by decide +kernel)) (fun _ _ _ _ _ => (pg_name (i := 1) sc_is_least_graph.nd rfl (Or.inl rfl))) (fun _ _ _ _ _ => pts_nil) (fun _ _ _ _ _ => (LW.pe_tp (pa_cons (pv 1) (pa_cons pe_bl pa_nil))))) pa_nil)) pa_nil)) (pe_callB LW.c_lenQ (by rfl) T.b_len (by decide +kernel) (pa_cons (pe_fld (pv 0) rfl) pa_nil)) (nomark _))
    (pss_one (ps_ret pe_bl)) pss_nil)
    (pss_cons (ps_if (pt_val (pe_callB (LW.c_any rfl) (by rfl) T.b_any (by decide +kernel) (pa_cons (pe_lc (own := [("place", 2), ("one", 3), ("two", 4)]) (by rfl) sc_is_least_graph.nd (pi_tup (pe_fld (pv 0) rfl)) (blkOk_by (own := [("place", 2), ("one", 3), ("two", 4)]) (N := ["graph", "node", "place", "one", "two", "met", "waiting", "reference"]) (sc := defScope s_is_least_graph) (by decide +kernel)) (fun _ _ _ _ _ => (LW.pg_tupK (K := K) (n := 3) rfl (pgs_cons (pg_name (i := 2) sc_is_least_graph.nd rfl (Or.inl rfl)) (pgs_cons (pg_name (i := 3) sc_is_least_graph.nd rfl (Or.inl rfl)) (pgs_cons (pg_name (i := 4) sc_is_least_graph.nd rfl (Or.inl rfl)) pgs_nil))))) (fun _ _ _ _ _ => pts_nil) (fun _ _ _ _ _ => (pe_cmpR (LW.o_dEqK (K := K) hr.units) (pv 3) (pv 4) (nomark _)))) pa_nil)))
    (pss_one (ps_ret pe_bl)) pss_nil)
    (pss_cons (ps_par (i := 5) (j := 6) (by rfl) sc_is_least_graph.nd rfl rfl (by decide) rfl rfl (pa_cons LW.pe_dn (pa_cons (LW.pe_ls (pa_cons (pe_fld (pv 0) rfl) pa_nil)) pa_nil)) (by rfl))
    (pss_cons (ps_while (passes_of rfl) (LW.pt_tru (pv 6) (by intro _; rfl))
    (pss_cons (ps_set (i := 7) sc_is_least_graph.nd rfl (Or.inl rfl) (pe_bm0 PySem.F.plainAttrs_list PySem.F.slot_list_pop PySem.F.type_list_pop mt_pop (pv 6)))
    (pss_one (ps_if (PW.pt (pw_and (pt_cmpR LW.o_eq (pe_ix LW.ix_tup (pv 7) pe_int (fun _ _ => rfl)) (C8.pe_gc (by rfl) T.c_GOES_ON) (nomark _)) (pw_and1 (pt_cmp (pc_dnotin (LW.u1 hr.units) (pe_ix LW.ix_tup (pv 7) pe_int (fun _ _ => rfl)) (pv 5))))))
    (pss_cons (ps_dput (LW.u1 hr.units) (pv 5) (pe_ix LW.ix_tup (pv 7) pe_int (fun _ _ => rfl)) pe_bl rfl)
    (pss_one (ps_expr (pe_bm PySem.F.plainAttrs_list PySem.F.slot_list_extend PySem.F.type_list_extend LW.m_extT (pv 6) (pa_cons (pe_slice LW.sl_tup (pe_ix LW.ix_tup (pe_fld (pv 0) rfl) (pe_ix LW.ix_tup (pv 7) pe_int (fun _ _ => rfl)) (fun _ _ => rfl)) (po_some pe_int) po_none) pa_nil))))) pss_nil))))
    (pss_one (ps_ret (pe_cmpR LW.o_eq (pe_callB call_lenD (by rfl) T.b_len (by decide +kernel) (pa_cons (pv 5) pa_nil)) (pe_callB LW.c_lenQ (by rfl) T.b_len (by decide +kernel) (pa_cons (pe_fld (pv 0) rfl) pa_nil)) (nomark _))))))))), ?_⟩), T.g_is_least_graph, F.kp, F.bindsN fun _ _ _ _ _ _ us hl => match us, hl with | [_], _ => rfl⟩
  · obtain ⟨g, W, G, st, rfl, _⟩ := h
    rfl
  · obtain ⟨g, W, G, st, rfl, hg, q⟩ := h
    walk_at "go"
    refine ⟨_, rfl, hg.insT, ?_⟩
    have ok := hg.ok
    have hst := hg.st
    have hfew := hg.few
    obtain ⟨dx, fs, n, gs, sv, hgi, hf1, hf2, hf3, hn, hG, hsv⟩ := hg.ins
    have hlen := hG.len
    obtain ⟨c0, rfl, hc0⟩ := id hsv
    walk_at "go"
    refine ⟨g, _, dx, fs, _, rfl, hgi, T.k_Graph, T.n_Graph_nodes, hf2, ?_⟩
    refine ⟨n, rfl, ⟨_, st_of hn⟩, fun D1 nD1 => ?_⟩
    refine lc_inv (walk_tup (xs := gs)) (fun i acc H' => Ex H H' ∧ Paired (fun t v => ∃ p, t = V.ref p ∧ H' p = some (.tup [v, .bl true])) acc (gs.take i)) (fun H' e' _ => ⟨e', .nil⟩) nD1 (fun _ _ H' p => st_of (p.1 _ _ hn)) (by omega) (fun i x acc H1 H2 hi p hacc y R hR _ => ?_) (fun acc H1 p hacc => ?_)
    · obtain ⟨rfl, hx⟩ := y
      obtain ⟨e1, pr⟩ := p
      walk_at "go"
      refine ⟨rfl, ?_⟩
      walk_at "go"
      refine w_new (by simp) fun t H3 nt e3 ht => ?_
      refine hR _ H3 (e3 _ _ hacc) fun H4 e4 h4 => ?_
      have nD2 : D1 ≠ t := fun z => by rw [← z, hacc] at nt; cases nt
      refine ⟨e4.ex (e1.trans e3) nD1, ?_⟩
      rw [List.take_add_one, hx]
      refine Paired.snoc (Paired.mapP pr fun a b z => ?_) ⟨t, rfl, tup_put (e3 _ _ hacc) e4 _ _ ht⟩
      obtain ⟨p, e, hp⟩ := z
      exact ⟨p, e, tup_put (e3 _ _ hacc) e4 _ _ (e3 _ _ hp)⟩
    · obtain ⟨e1, pr⟩ := p
      rw [List.take_length] at pr
      walk_at "go"
      have hG1 := hG.mono (tup_ex e1)
      have nds : ∀ d ∈ G.map ndD, nodeD d = true := fun d hd => by
        obtain ⟨nd, _, rfl⟩ := List.mem_map.mp hd
        rfl
      refine ⟨D1, acc, gs, G.map ndD, rfl, sl_of hacc, Paired.mapP pr fun a b z => ?_, hG1.dp, nds, by rw [List.length_map]; omega, fun dA H2 m ndA e2 hA hm hnd => ?_⟩
      · obtain ⟨p, e, hp⟩ := z
        exact ⟨p, e, st_of hp⟩
      rw [List.length_map] at hm hnd
      have e12 := e1.trans e2
      walk_at "go"
      refine ⟨dA, m, rfl, hA, by omega, ?_⟩
      walk_at "go"
      refine ⟨g, _, dx, fs, _, rfl, e12 _ _ hgi, T.k_Graph, T.n_Graph_nodes, hf2, ?_⟩
      walk_at "go"
      refine v_lenT (st_of (e12 _ _ hn)) ?_
      walk_at "go"
      refine w_ndec (fun hne => ?_) (fun heq => ?_)
      · walk_at "go"
        have : lean G st = false := by
          unfold lean
          rw [decide_eq_false (fun z => hne (by have := hnd.mpr z; rw [this, hlen]))]
          rfl
        rw [this] at q
        exact q H2 e12
      · have nd1 : ((G.map ndD).map nk).Nodup := hnd.mp (by omega)
        walk_at "go"
        refine ⟨g, _, dx, fs, _, rfl, e12 _ _ hgi, T.k_Graph, T.n_Graph_nodes, hf2, ?_⟩
        refine ⟨n, rfl, ⟨_, st_of (e12 _ _ hn)⟩, fun D3 nD3 => ?_⟩
        refine lc_inv (walk_tup (xs := gs)) (fun i acc H' => Ex H2 H' ∧ acc = ((G.take i).map fun nd => decide (nd.a = nd.b)).map V.bl) (fun H' e' _ => ⟨e', rfl⟩) nD3 (fun _ _ H' p => st_of (p.1 _ _ (e12 _ _ hn))) (by omega) (fun i x acc3 H3 H4 hi p hacc y R hR _ => ?_) (fun acc3 H3 p hacc3 => ?_)
        · obtain ⟨rfl, hx⟩ := y
          obtain ⟨e3, rfl⟩ := p
          obtain ⟨nd, hnd3, hv⟩ := hG.get hx
          obtain ⟨q0, va, vb, rfl, hq, hva, hvb⟩ := hv.mono (tup_ex (e12.trans e3))
          refine w_gtup (st_of hq) rfl ?_
          walk_at "go"
          refine ⟨rfl, ?_⟩
          walk_at "go"
          refine ⟨refD nd.a, refD nd.b, hva.dp, hvb.dp, rfl, rfl, ?_⟩
          rw [ref_eqv]
          refine hR _ _ hacc fun H5 e5 h5 => ⟨e5.ex e3 nD3, ?_⟩
          rw [List.take_add_one, hnd3, List.map_append, List.map_append]
          rfl
        · obtain ⟨e3, rfl⟩ := p
          have e13 := e12.trans e3
          rw [hlen, List.take_length] at hacc3
          walk_at "go"
          refine ⟨D3, _, rfl, sl_of hacc3, ?_⟩
          have anyE : (((G.map fun nd => decide (nd.a = nd.b)).any id) = !(G.all fun nd => !decide (nd.a = nd.b))) := by
            rw [List.any_map, List.not_all_eq_any_not]
            simp
          rw [anyE]
          refine ⟨_, rfl, ?_⟩
          have leanE : lean G st = ((G.all fun nd => !decide (nd.a = nd.b)) && decide ((rch G (3 * G.length + 1) [] [st]).length = G.length)) := by
            unfold lean
            rw [decide_eq_true nd1, Bool.true_and]
          rw [leanE] at q
          cases hall : (G.all fun nd => !decide (nd.a = nd.b)) with
          | false =>
            rw [hall] at q
            refine iteT' ?_
            walk_at "go"
            exact q H3 e13
          | true =>
            rw [hall, Bool.true_and] at q
            refine iteF' ?_
            walk_at "go"
            intro dm H4 ndm e4 hdm
            walk_at "go"
            have hfi := hf3
            refine ⟨g, _, dx, fs, _, rfl, e4 _ _ (e13 _ _ hgi), T.k_Graph, T.n_Graph_start, hf3, ?_⟩
            refine w_new (by simp) fun lw H5 nlw e5 hlw => ?_
            have nlw3 := ex_back e4 nlw
            have ndl : dm ≠ lw := fun z => by rw [← z, hdm] at nlw; cases nlw
            have n5 := (e13.trans e4).trans e5
            walk_at "go"
            refine w_while (fun m σ H' => ∃ (met : List Int) (wr : List Rf) (ws : List V) (kvs : List (Key × V)) (v7 : Option V), σ = [some (.ref g), none, none, none, none, some (.ref dm), some (.ref lw), v7] ∧ m ≤ 3 * G.length + 1 ∧ Ex H3 H' ∧ H' dm = some (.dK kvs) ∧ kvs.map (·.1) = met.map Sum.inl ∧ H' lw = some (.lst ws) ∧ Rfs H' ws wr ∧ Sr G met wr m ∧ rch G m met wr = rch G (3 * G.length + 1) [] [st]) (3 * G.length + 1)
              ⟨[], [st], _, [], none, rfl, Nat.le_refl _, e4.trans e5, e5 _ _ hdm, rfl, hlw, .cons (hsv.mono (tup_ex n5)) .nil, ⟨List.nodup_nil, fun _ z => (by cases z), fun r hr => (by rw [List.mem_singleton.mp hr]; exact hst), by simp⟩, rfl⟩ (fun m σ H6 p => ?_)
            obtain ⟨met, wr, ws, kvs, v7, rfl, mle, e6, hd6, hk6, hl6, hR6, S6, r6⟩ := p
            have metle := met_le S6.nd S6.inn
            have kvl : kvs.length = met.length := by have := congrArg List.length hk6; simpa using this
            walk_at "go"
            refine ⟨_, .inl ⟨ws, sl_of hl6, rfl⟩, ?_⟩
            rw [emptyB]
            refine w_dec (fun hne => ?_) (fun hem => ?_)
            · obtain ⟨v, r, hv, hr, hvr, hrest⟩ := rfs_last hR6 hne
              have hwr : wr ≠ [] := fun z => by rw [z] at hr; cases hr
              obtain ⟨m', rfl⟩ := S6.pos hwr
              refine v_N ?_
              walk_at "go"
              refine w_bm0 ?_
              walk_at "go"
              refine ⟨ty_list hl6, ⟨lw, ws, v, rfl, rfl, hl6, hv, ?_⟩⟩
              have e7 : Exc lw H6 (upd H6 lw (.lst ws.dropLast)) := fun b o n e => by rw [upd_ne n]; exact e
              have hl7 : (upd H6 lw (.lst ws.dropLast)) lw = some (.lst ws.dropLast) := upd_same
              generalize upd H6 lw (.lst ws.dropLast) = H7 at e7 hl7 ⊢
              have t7 := tup_put hl6 e7
              have e37 : Ex H3 H7 := e7.ex e6 nlw3
              have hd7 := e7 _ _ ndl hd6
              have hrest7 := hrest.mono t7
              obtain ⟨c, rfl, hc⟩ := hvr.mono t7
              walk_at "go"
              refine v_ixT (st_of hc) (show _ = some (.int r.1) by rfl) ?_
              walk_at "go"
              have fin : ¬ (r.1 = 1 ∧ r.2 ∉ met) → ∀ v7, ∃ m'', m'' < m' + 1 ∧ ∃ (met : List Int) (wr : List Rf) (ws : List V) (kvs : List (Key × V)) (v7' : Option V), [some (.ref g), none, none, none, none, some (.ref dm), some (.ref lw), v7] = [some (.ref g), none, none, none, none, some (.ref dm), some (.ref lw), v7'] ∧ m'' ≤ 3 * G.length + 1 ∧ Ex H3 H7 ∧ H7 dm = some (.dK kvs) ∧ kvs.map (·.1) = met.map Sum.inl ∧ H7 lw = some (.lst ws) ∧ Rfs H7 ws wr ∧ Sr G met wr m'' ∧ rch G m'' met wr = rch G (3 * G.length + 1) [] [st] := fun hno v7 =>
                ⟨m', Nat.lt_succ_self _, met, wr.dropLast, ws.dropLast, kvs, v7, rfl, (by omega), e37, hd7, hk6, hl7, hrest7, S6.old hr, by rw [← r6, rch_old hr hno]⟩
              refine w_dec (fun h1 => ?_) (fun h1 => ?_)
              · walk_at "go"
                refine w_dnin ?_
                walk_at "go"
                refine v_ixT (st_of hc) (show _ = some (.int r.2) by rfl) ?_
                walk_at "go"
                refine ⟨dm, _, rfl, DGet.k (k := .inl r.2) hd7, ?_⟩
                walk_at "go"
                rw [valV_int hk6]
                by_cases h2 : r.2 ∈ met
                · rw [decide_eq_true h2]
                  refine iteF' ?_
                  walk_at "go"
                  exact fin (fun z => z.2 h2) _
                · rw [decide_eq_false h2]
                  refine iteT' ?_
                  obtain ⟨r0, nd, hnd⟩ := S6.wait r (by rw [last_split hr]; simp) h1
                  obtain ⟨v2, hv2, hv2'⟩ := hG.val hnd
                  have n7 : Ex H H7 := e13.trans e37
                  obtain ⟨q2, va, vb, rfl, hq2, hva, hvb⟩ := hv2'.mono (tup_ex n7)
                  walk_at "go"
                  refine v_ixT (st_of hc) (show _ = some (.int r.2) by rfl) ?_
                  refine v_dputI hd7 (by omega) fun H8 e8 hd8 => ?_
                  have e38 : Ex H3 H8 := e8.ex e37 ndm
                  have n8 : Ex H H8 := e13.trans e38
                  walk_at "go"
                  refine ⟨ty_list (e8 _ _ (Ne.symm ndl) hl7), ?_⟩
                  walk_at "go"
                  refine ⟨g, _, dx, fs, _, rfl, n8 _ _ hgi, T.k_Graph, T.n_Graph_nodes, hf2, ?_⟩
                  walk_at "go"
                  refine v_ixT (st_of (e8 _ _ (fun z => by rw [z, hd7] at hc; cases hc) hc)) (show _ = some (.int r.2) by rfl) ?_
                  have er : r.2 = ((r.2.toNat : Nat) : Int) := by omega
                  rw [er]
                  refine v_ixT (st_of (n8 _ _ hn)) (atI_nat (v := .ref q2) hv2) ?_
                  walk_at "go"
                  have hq8 := e8 _ _ (fun z => by rw [z, hd7] at hq2; cases hq2) hq2
                  refine ⟨q2, _, rfl, st_of hq8, no_whole, fun p9 np9 => ?_⟩
                  refine g_new np9 fun H9 e9 h9 => ?_
                  walk_at "go"
                  have c9 : H9 p9 = some (.tup [va, vb]) := h9
                  have hl9 := e9 _ _ (e8 _ _ (Ne.symm ndl) hl7)
                  have sf := S6.fuel
                  have wl := hR6.len
                  refine ⟨lw, p9, ws.dropLast, [va, vb], rfl, rfl, hl9, st_of c9, ?_, ?_⟩
                  · rw [List.length_dropLast]
                    show _ + 2 ≤ _
                    omega
                  · have t8 : Tup H6 H9 := t7.trans (Tup.trans (fun p xs hp => e8 p _ (fun z => by rw [z, hd7] at hp; cases hp) hp) (tup_ex e9))
                    have t89 : Tup H7 H9 := Tup.trans (fun p xs hp => e8 p _ (fun z => by rw [z, hd7] at hp; cases hp) hp) (tup_ex e9)
                    have t10 : Tup H9 (upd H9 lw (.lst (ws.dropLast ++ [va, vb]))) := tup_put hl9 fun b o n e => by rw [upd_ne n]; exact e
                    have h10 : (upd H9 lw (.lst (ws.dropLast ++ [va, vb]))) dm = some (.dK (putK kvs (.inl r.2) (.bl true))) := by rw [upd_ne ndl]; exact e9 _ _ hd8
                    refine ⟨m', Nat.lt_succ_self _, met ++ [r.2], wr.dropLast ++ [nd.a, nd.b], _, _, _, rfl, by omega, Evl.Ex.mut (e38.trans e9) nlw3, h10, ?_, upd_same, rfs_app (hrest.mono (t8.trans t10)) (.cons (hva.mono (t89.trans t10)) (.cons (hvb.mono (t89.trans t10)) .nil)), S6.new ok hr h1 h2 hnd, by rw [← r6, rch_new hr ⟨h1, h2⟩ hnd]⟩
                    rw [putK_new (by rw [hk6]; exact fun z => h2 (mem_inl.mp z)), hk6, List.map_append]
                    rfl
              · walk_at "go"
                exact fin (fun z => h1 z.1) _
            · have hw0 : ws = [] := Classical.byContradiction fun z => hem z
              subst hw0
              cases hR6
              rw [rch_nil] at r6
              rw [← r6] at q
              have n6 := e13.trans e6
              walk_at "go"
              refine ⟨dm, kvs, rfl, hd6, ?_⟩
              walk_at "go"
              refine ⟨g, _, dx, fs, _, rfl, n6 _ _ hgi, T.k_Graph, T.n_Graph_nodes, hf2, ?_⟩
              walk_at "go"
              refine v_lenT (st_of (n6 _ _ hn)) ?_
              walk_at "go"
              have e9 : decide ((kvs.length : Int) = (gs.length : Int)) = decide (met.length = G.length) := by
                rw [kvl, hlen]
                by_cases z : met.length = G.length
                · rw [decide_eq_true z]; exact decide_eq_true (by omega)
                · rw [decide_eq_false z]; exact decide_eq_false (by omega)
              rw [e9]
              exact q H6 n6
end
end K37
namespace K37
open PySem PySem.Spec PyProof.Rows L2 LW SX M37
/-- the law's word on a graph that is lean -/
def spLawLean (K : PySem.W.Frag) : Sp := fun vs H Q _ => ∃ (n : Addr) (gs : List V) (sv : V) (W : Nat) (G : Gr) (st : Rf), vs = [.ref n, sv] ∧ H n = some (.lst gs) ∧ Nds H gs G ∧ okG (W : Int) G ∧ refV H sv st ∧ live G st ∧ G.length ≤ 60 ∧ ∀ H', Ex H H' → Q (.bl (lean G st)) H'
theorem lay_nodes : ∀ G : Gr, PyData.canLayAll0 (G.map ndD) = true
  | [] => rfl
  | nd :: G => by
    show (PyData.canLay0 (ndD nd) && PyData.canLayAll0 (G.map ndD)) = true
    rw [lay_nodes G]
    rfl
theorem deep_nodes : ∀ G : Gr, PyData.depthAll (G.map ndD) ≤ 2
  | [] => Nat.zero_le _
  | nd :: G => by
    show max (PyData.depth (ndD nd)) (PyData.depthAll (G.map ndD)) ≤ 2
    have h1 : PyData.depth (ndD nd) = 2 := rfl
    have h2 := deep_nodes G
    omega
theorem shaped_nodes (G : Gr) : SeqAt.shaped (.list (G.map ndD)) = true := by
  show (PyData.canLayAll0 (G.map ndD) && decide (PyData.depthAll (G.map ndD) + 1 ≤ 64)) = true
  rw [lay_nodes, decide_eq_true (by have := deep_nodes G; omega)]
  rfl
theorem ints_flat : ∀ met : List Int, (met.map V.int).all flatV = true
  | [] => rfl
  | n :: met => by
    show (flatV (V.int n) && (met.map V.int).all flatV) = true
    rw [ints_flat met]
    rfl
theorem ints_in (n : Int) : ∀ met : List Int, inV (.int n) (met.map V.int) = decide (n ∈ met)
  | [] => rfl
  | k :: met => by
    have e : inV (.int n) ((k :: met).map V.int) = ((k == n) || inV (.int n) (met.map V.int)) := rfl
    rw [e, ints_in n met, Bool.eq_iff_iff, Bool.or_eq_true, decide_eq_true_iff, decide_eq_true_iff, beq_iff_eq, List.mem_cons, eq_comm (a := k)]
section
variable {P : Program} {w : World} {K : PySem.W.Frag} {mg : Str → Option Value} {base : Heap}
theorem ok__law_is_lean (T : Txt K mg) : Dk P w K mg base (L2.CX P w) 1 "_law_is_lean" (spLawLean K) := by
  obtain ⟨fd, F⟩ := T.f__law_is_lean
  refine ⟨_, fd, ["nodes", "start"], F.ok sc__law_is_lean (fun vs H Q E h => ?_) (fun cdv A outer s H vs Q E hr h => ⟨_, (pss_cons (ps_if (PW.pt (pw_or (pt_cmpR LW.o_ne (pe_callB LW.c_lenN (by rfl) T.b_len (by decide +kernel) (pa_cons (pe_callTy (LW.c_setN rfl hr.units) (by rfl) T.b_set (by decide +kernel) (pa_cons (pv 0) pa_nil)) pa_nil)) (pe_callB LW.c_lenQ (by rfl) T.b_len (by decide +kernel) (pa_cons (pv 0) pa_nil)) (nomark _)) (pw_or1 (pt_cmpR (LW.o_dNe hr.units) (pe_lc (own := [("node", 2)]) (by rfl) sc__law_is_lean.nd (pi_list (pv 0)) (blkOk_by (own := [("node", 2)]) (N := ["nodes", "start", "node", "met", "left", "kind", "number"]) (sc := defScope s__law_is_lean) (by decide +kernel)) (fun _ _ _ _ _ => (pg_name (i := 2) sc__law_is_lean.nd rfl (Or.inl rfl))) (fun _ _ _ _ _ => (pts_one (pt_cmpR (LW.o_dEqK (K := K) hr.units) (pe_ix (LW.ix_tupK (K := K)) (pv 2) pe_int (fun _ _ => rfl)) (pe_ix (LW.ix_tupK (K := K)) (pv 2) pe_int (fun _ _ => rfl)) (nomark _)))) (fun _ _ _ _ _ => (pv 2))) (LW.pe_ls pa_nil) (nomark _)))))
    (pss_one (ps_ret pe_bl)) pss_nil)
    (pss_cons (ps_par (i := 3) (j := 4) (by rfl) sc__law_is_lean.nd rfl rfl (by decide) rfl rfl (pa_cons (LW.pe_ls pa_nil) (pa_cons (LW.pe_ls (pa_cons (pv 1) pa_nil)) pa_nil)) (by rfl))
    (pss_cons (ps_while (passes_of rfl) (LW.pt_tru (pv 4) (by intro _; rfl))
    (pss_cons (ps_asg (pe_bm0 PySem.F.plainAttrs_list PySem.F.slot_list_pop PySem.F.type_list_pop mt_pop (pv 4)) (pg_tup rfl (pgs_cons (pg_name (i := 5) sc__law_is_lean.nd rfl (Or.inl rfl)) (pgs_cons (pg_name (i := 6) sc__law_is_lean.nd rfl (Or.inl rfl)) pgs_nil))))
    (pss_one (ps_if (PW.pt (pw_and (pt_cmpR LW.o_eq (pv 5) pe_int (nomark _)) (pw_and1 (pt_cmpR LW.o_notInQ (pv 6) (pv 3) (by rfl)))))
    (pss_cons (ps_expr (pe_bm PySem.F.plainAttrs_list PySem.F.slot_list_append PySem.F.type_list_append LW.m_append (pv 3) (pa_cons (pv 6) pa_nil)))
    (pss_one (ps_expr (pe_bm PySem.F.plainAttrs_list PySem.F.slot_list_extend PySem.F.type_list_extend LW.m_extT (pv 4) (pa_cons (pe_slice LW.sl_tup (pe_ix LW.ix_list (pv 0) (pv 6) (fun _ _ => rfl)) (po_some pe_int) po_none) pa_nil))))) pss_nil))))
    (pss_one (ps_ret (pe_cmpR LW.o_eq (pe_callB LW.c_lenQ (by rfl) T.b_len (by decide +kernel) (pa_cons (pv 3) pa_nil)) (pe_callB LW.c_lenQ (by rfl) T.b_len (by decide +kernel) (pa_cons (pv 0) pa_nil)) (nomark _))))))), ?_⟩), T.g__law_is_lean, F.kp, F.bindsN fun _ _ _ _ _ _ us hl => match us, hl with | [_, _], _ => rfl⟩
  · obtain ⟨n, gs, sv, W, G, st, rfl, _⟩ := h
    rfl
  · obtain ⟨n, gs, sv, W, G, st, rfl, hn, hG, ok, hsv, hst, hfew, q⟩ := h
    have hlen := hG.len
    obtain ⟨c0, rfl, hc0⟩ := id hsv
    have nds : ∀ d ∈ G.map ndD, nodeD d = true := fun d hd => by
      obtain ⟨nd, _, rfl⟩ := List.mem_map.mp hd
      rfl
    walk_at "go"
    refine ⟨n, gs, G.map ndD, rfl, sl_of hn, hG.dp, nds, by rw [List.length_map]; omega, fun dA H2 m ndA e2 hA hm hnd => ?_⟩
    rw [List.length_map] at hm hnd
    walk_at "go"
    refine ⟨dA, m, rfl, hA, by omega, ?_⟩
    walk_at "go"
    refine v_lenL (sl_of (e2 _ _ hn)) ?_
    walk_at "go"
    refine w_ndec (fun hne => ?_) (fun heq => ?_)
    · walk_at "go"
      have : lean G st = false := by
        unfold lean
        rw [decide_eq_false (fun z => hne (by have := hnd.mpr z; rw [this, hlen]))]
        rfl
      rw [this] at q
      exact q H2 e2
    · have nd1 : ((G.map ndD).map nk).Nodup := hnd.mp (by omega)
      have leanE : lean G st = ((G.all fun nd => !decide (nd.a = nd.b)) && decide ((rch G (3 * G.length + 1) [] [st]).length = G.length)) := by
        unfold lean
        rw [decide_eq_true nd1, Bool.true_and]
      rw [leanE] at q
      walk_at "go"
      refine ⟨n, rfl, ⟨_, sl_of (e2 _ _ hn)⟩, fun D3 nD3 => ?_⟩
      refine lc_inv (walk_list (xs := gs)) (fun i acc H' => Ex H2 H' ∧ Nds H' acc ((G.take i).filter fun nd => decide (nd.a = nd.b))) (fun H' e' _ => ⟨e', .nil⟩) nD3 (fun _ _ H' p => sl_of (p.1 _ _ (e2 _ _ hn))) (by omega) (fun i x acc3 H3 H4 hi p hacc y R hR hR2 => ?_) (fun acc3 H3 p hacc3 => ?_)
      · obtain ⟨rfl, hx⟩ := y
        obtain ⟨e3, hac⟩ := p
        obtain ⟨nd, hnd3, hv⟩ := hG.get hx
        obtain ⟨q0, va, vb, rfl, hq, hva, hvb⟩ := hv.mono (tup_ex (e2.trans e3))
        walk_at "go"
        refine ⟨rfl, ?_⟩
        walk_at "go"
        refine v_ixT (st_of hq) (show _ = some va by rfl) ?_
        walk_at "go"
        refine v_ixT (st_of hq) (show _ = some vb by rfl) ?_
        walk_at "go"
        refine ⟨refD nd.a, refD nd.b, hva.dp, hvb.dp, rfl, rfl, ?_⟩
        rw [ref_eqv]
        have hstep : (G.take (i + 1)).filter (fun nd => decide (nd.a = nd.b)) = (G.take i).filter (fun nd => decide (nd.a = nd.b)) ++ [nd].filter (fun nd => decide (nd.a = nd.b)) := by
          rw [List.take_add_one, hnd3, List.filter_append]
          rfl
        walk_at "go"
        refine w_dec (fun he => ?_) (fun he => ?_)
        · walk_at "go"
          refine hR _ _ hacc fun H5 e5 h5 => ⟨e5.ex e3 nD3, ?_⟩
          rw [hstep, List.filter_cons, if_pos (decide_eq_true he)]
          have t5 := tup_put hacc e5
          exact nds_snoc (hac.mono t5) ⟨q0, va, vb, rfl, t5 _ _ hq, hva.mono t5, hvb.mono t5⟩
        · walk_at "go"
          refine hR2 _ hacc ⟨e3, ?_⟩
          rw [hstep, List.filter_cons, if_neg (by simpa using he)]
          simpa using hac
      · obtain ⟨e3, hac⟩ := p
        rw [hlen, List.take_length] at hac
        walk_at "go"
        refine w_new (by simp) fun D4 H4 nD4 e4 h4 => ?_
        have hacc4 := e4 _ _ hacc3
        refine ⟨.list ((G.filter fun nd => decide (nd.a = nd.b)).map ndD), .list [], .lst (sl_of hacc4) (hac.mono (tup_ex e4)).dp, .lst (sl_of h4) .nil, shaped_nodes _, rfl, ?_⟩
        have neE : (!PyData.eqv (.list ((G.filter fun nd => decide (nd.a = nd.b)).map ndD)) (.list [])) = !(G.all fun nd => !decide (nd.a = nd.b)) := by
          show (!PyData.eqvAll _ _) = _
          congr 1
          have : (G.all fun nd => !decide (nd.a = nd.b)) = (G.filter fun nd => decide (nd.a = nd.b)).isEmpty := by
            rw [Bool.eq_iff_iff, List.isEmpty_iff, List.filter_eq_nil_iff, List.all_eq_true]
            simp
          rw [this]
          generalize G.filter _ = G0
          cases G0 <;> rfl
        rw [neE]
        refine ⟨_, rfl, ?_⟩
        have e14 := (e2.trans e3).trans e4
        cases hall : (G.all fun nd => !decide (nd.a = nd.b)) with
        | false =>
          rw [hall] at q
          refine iteT' ?_
          walk_at "go"
          exact q H4 e14
        | true =>
          rw [hall, Bool.true_and] at q
          refine iteF' ?_
          walk_at "go"
          refine w_new (by simp) fun lm H5 nlm e5 hlm => ?_
          walk_at "go"
          refine w_new (by simp) fun lw H6 nlw e6 hlw => ?_
          have e16 := (e14.trans e5).trans e6
          have nlw4 := ex_back e5 nlw
          have ndl : lm ≠ lw := fun z => by rw [← z, hlm] at nlw; cases nlw
          walk_at "go"
          refine w_while (fun m σ H' => ∃ (met : List Int) (wr : List Rf) (ws : List V) (v5 v6 : Option V), σ = [some (.ref n), some (.ref c0), none, some (.ref lm), some (.ref lw), v5, v6] ∧ m ≤ 3 * G.length + 1 ∧ Ex H4 H' ∧ H' lm = some (.lst (met.map V.int)) ∧ H' lw = some (.lst ws) ∧ Rfs H' ws wr ∧ Sr G met wr m ∧ rch G m met wr = rch G (3 * G.length + 1) [] [st]) (3 * G.length + 1)
            ⟨[], [st], _, none, none, rfl, Nat.le_refl _, e5.trans e6, e6 _ _ hlm, hlw, .cons (hsv.mono (tup_ex e16)) .nil, ⟨List.nodup_nil, fun _ z => (by cases z), fun r hr => (by rw [List.mem_singleton.mp hr]; exact hst), by simp⟩, rfl⟩ (fun m σ H7 p => ?_)
          obtain ⟨met, wr, ws, v5, v6, rfl, mle, e7, hm7, hl7, hR7, S7, r7⟩ := p
          have metle := met_le S7.nd S7.inn
          walk_at "go"
          refine ⟨_, .inl ⟨ws, sl_of hl7, rfl⟩, ?_⟩
          rw [emptyB]
          refine w_dec (fun hne => ?_) (fun hem => ?_)
          · obtain ⟨v, r, hv, hr, hvr, hrest⟩ := rfs_last hR7 hne
            have hwr : wr ≠ [] := fun z => by rw [z] at hr; cases hr
            obtain ⟨m', rfl⟩ := S7.pos hwr
            refine v_N ?_
            walk_at "go"
            refine w_bm0 ?_
            walk_at "go"
            refine ⟨ty_list hl7, ⟨lw, ws, v, rfl, rfl, hl7, hv, ?_⟩⟩
            have e8 : Exc lw H7 (upd H7 lw (.lst ws.dropLast)) := fun b o n e => by rw [upd_ne n]; exact e
            have hl8 : (upd H7 lw (.lst ws.dropLast)) lw = some (.lst ws.dropLast) := upd_same
            generalize upd H7 lw (.lst ws.dropLast) = H8 at e8 hl8 ⊢
            have t8 := tup_put hl7 e8
            have e48 : Ex H4 H8 := e8.ex e7 nlw4
            have hm8 := e8 _ _ ndl hm7
            have hrest8 := hrest.mono t8
            obtain ⟨c, rfl, hc⟩ := hvr.mono t8
            refine w_gtup (st_of hc) rfl ?_
            walk_at "go"
            have fin : ¬ (r.1 = 1 ∧ r.2 ∉ met) → ∀ v5 v6, ∃ m'', m'' < m' + 1 ∧ ∃ (met : List Int) (wr : List Rf) (ws : List V) (v5' v6' : Option V), [some (.ref n), some (.ref c0), none, some (.ref lm), some (.ref lw), v5, v6] = [some (.ref n), some (.ref c0), none, some (.ref lm), some (.ref lw), v5', v6'] ∧ m'' ≤ 3 * G.length + 1 ∧ Ex H4 H8 ∧ H8 lm = some (.lst (met.map V.int)) ∧ H8 lw = some (.lst ws) ∧ Rfs H8 ws wr ∧ Sr G met wr m'' ∧ rch G m'' met wr = rch G (3 * G.length + 1) [] [st] := fun hno v5 v6 =>
              ⟨m', Nat.lt_succ_self _, met, wr.dropLast, ws.dropLast, v5, v6, rfl, (by omega), e48, hm8, hl8, hrest8, S7.old hr, by rw [← r7, rch_old hr hno]⟩
            refine w_dec (fun h1 => ?_) (fun h1 => ?_)
            · walk_at "go"
              refine ⟨lm, _, rfl, .inl (sl_of hm8), rfl, ints_flat met, ?_⟩
              rw [if_pos rfl, ints_in]
              refine ⟨_, rfl, ?_⟩
              by_cases h2 : r.2 ∈ met
              · rw [decide_eq_true h2]
                refine iteF' ?_
                walk_at "go"
                exact fin (fun z => z.2 h2) _ _
              · rw [decide_eq_false h2]
                refine iteT' ?_
                obtain ⟨r0, nd, hnd⟩ := S7.wait r (by rw [last_split hr]; simp) h1
                obtain ⟨v2, hv2, hv2'⟩ := hG.val hnd
                have n8 : Ex H H8 := e14.trans e48
                obtain ⟨q2, va, vb, rfl, hq2, hva, hvb⟩ := hv2'.mono (tup_ex n8)
                walk_at "go"
                refine ⟨ty_list hm8, ?_⟩
                walk_at "go"
                refine v_app hm8 (by rw [List.length_map]; omega) ?_
                refine g_put fun H9 e9 h9 => ?_
                have e49 : Ex H4 H9 := e9.ex e48 nlm
                have n9 : Ex H H9 := e14.trans e49
                have hl9 := e9 _ _ (Ne.symm ndl) hl8
                walk_at "go"
                refine ⟨ty_list hl9, ?_⟩
                walk_at "go"
                have er : r.2 = ((r.2.toNat : Nat) : Int) := by omega
                have ix : atI gs r.2 = some (V.ref q2) := by rw [er]; exact atI_nat (v := V.ref q2) hv2
                refine v_ixL (sl_of (n9 _ _ hn)) ix ?_
                walk_at "go"
                have t9 := tup_put hm8 e9
                refine ⟨q2, _, rfl, st_of (t9 _ _ hq2), no_whole, fun p9 np9 => ?_⟩
                refine g_new np9 fun HA eA hA => ?_
                walk_at "go"
                have cA : HA p9 = some (.tup [va, vb]) := hA
                have hlA := eA _ _ hl9
                have sf := S7.fuel
                have wl := hR7.len
                refine ⟨lw, p9, ws.dropLast, [va, vb], rfl, rfl, hlA, st_of cA, ?_, ?_⟩
                · rw [List.length_dropLast]
                  show _ + 2 ≤ _
                  omega
                · have t8A : Tup H8 HA := t9.trans (tup_ex eA)
                  have tB : Tup HA (upd HA lw (.lst (ws.dropLast ++ [va, vb]))) := tup_put hlA fun b o n e => by rw [upd_ne n]; exact e
                  have hB : (upd HA lw (.lst (ws.dropLast ++ [va, vb]))) lm = some (.lst ((met ++ [r.2]).map V.int)) := by
                    rw [upd_ne ndl, List.map_append]
                    exact eA _ _ h9
                  exact ⟨m', Nat.lt_succ_self _, met ++ [r.2], wr.dropLast ++ [nd.a, nd.b], _, _, _, rfl, by omega, Evl.Ex.mut (e49.trans eA) nlw4, hB, upd_same, rfs_app (hrest8.mono (t8A.trans tB)) (.cons (hva.mono (t8A.trans tB)) (.cons (hvb.mono (t8A.trans tB)) .nil)), S7.new ok hr h1 h2 hnd, by rw [← r7, rch_new hr ⟨h1, h2⟩ hnd]⟩
            · walk_at "go"
              exact fin (fun z => h1 z.1) _ _
          · have hw0 : ws = [] := Classical.byContradiction fun z => hem z
            subst hw0
            cases hR7
            rw [rch_nil] at r7
            rw [← r7] at q
            have n7 := e14.trans e7
            walk_at "go"
            refine v_lenL (sl_of hm7) ?_
            walk_at "go"
            refine v_lenL (sl_of (n7 _ _ hn)) ?_
            walk_at "go"
            have e9 : decide (((met.map V.int).length : Int) = (gs.length : Int)) = decide (met.length = G.length) := by
              rw [List.length_map, hlen]
              by_cases z : met.length = G.length
              · rw [decide_eq_true z]; exact decide_eq_true (by omega)
              · rw [decide_eq_false z]; exact decide_eq_false (by omega)
            rw [e9]
            exact q H7 n7
end
end K37
namespace K37
open PySem PySem.Spec PyProof.Rows L2 LW SX M37
def bitsL (n w : Nat) : List Nat := (List.range w).map fun i => 48 + n / 2 ^ (w - 1 - i) % 2
theorem bitsL_len (a w : Nat) : (bitsL a w).length = w := by simp [bitsL]
theorem bitsL_all (a w : Nat) : (bitsL a w).all isBit = true := by
  rw [List.all_eq_true]
  intro x hx
  obtain ⟨i, _, rfl⟩ := List.mem_map.mp hx
  have : a / 2 ^ (w - 1 - i) % 2 = 0 ∨ a / 2 ^ (w - 1 - i) % 2 = 1 := by omega
  rcases this with h | h <;> rw [h] <;> rfl
theorem bitsL_cons (n w : Nat) : bitsL n (w + 1) = (48 + n / 2 ^ w % 2) :: bitsL n w := by
  unfold bitsL
  rw [List.range_succ_eq_map, List.map_cons, List.map_map]
  congr 1
  refine List.map_congr_left fun i _ => ?_
  show 48 + n / 2 ^ (w + 1 - 1 - (i + 1)) % 2 = _
  have e : w + 1 - 1 - (i + 1) = w - 1 - i := by omega
  rw [e]
theorem bitsL_high (b n w : Nat) : bitsL (b * 2 ^ w + n) w = bitsL n w := by
  unfold bitsL
  refine List.map_congr_left fun i hi => ?_
  have hi := List.mem_range.mp hi
  have e1 : 2 ^ w = 2 ^ (w - 1 - i) * (2 ^ i * 2) := by rw [← Nat.pow_succ, ← Nat.pow_add]; congr 1; omega
  have e2 : b * 2 ^ w + n = n + 2 ^ (w - 1 - i) * (b * 2 ^ i * 2) := by
    rw [e1]
    have : b * (2 ^ (w - 1 - i) * (2 ^ i * 2)) = 2 ^ (w - 1 - i) * (b * 2 ^ i * 2) := by
      rw [Nat.mul_left_comm, Nat.mul_assoc b]
    omega
  rw [e2, Nat.add_mul_div_left _ _ (Nat.two_pow_pos _)]
  omega
/-- all texts of bits are told -/
theorem all_told : ∀ l : List Nat, l.all isBit = true → ∃ k, k < 2 ^ l.length ∧ bitsL k l.length = l
  | [], _ => ⟨0, Nat.one_pos, rfl⟩
  | c :: t, h => by
    rw [List.all_cons, Bool.and_eq_true] at h
    obtain ⟨k, hk, e⟩ := all_told t h.2
    have hc : c = 48 ∨ c = 49 := by simpa [isBit] using h.1
    refine ⟨(c - 48) * 2 ^ t.length + k, ?_, ?_⟩
    · rw [List.length_cons, Nat.pow_succ]
      rcases hc with rfl | rfl <;> omega
    · rw [List.length_cons, bitsL_cons, bitsL_high, e]
      congr 1
      have : ((c - 48) * 2 ^ t.length + k) / 2 ^ t.length = c - 48 := by
        rw [Nat.add_comm, Nat.add_mul_div_right _ _ (Nat.two_pow_pos _), Nat.div_eq_of_lt hk, Nat.zero_add]
      rw [this]
      rcases hc with rfl | rfl <;> rfl
def spBitsTold : Sp := fun vs H Q _ => ∃ (n w' : Nat), vs = [.int (n : Int), .int (w' : Int)] ∧ w' ≤ 64 ∧ ∀ H', Ex H H' → Q (.str (S (bitsL n w'))) H'
def everyV (w : Nat) : List V := (List.range (2 ^ w)).map fun k => V.str (S (bitsL k w))
def spEvery : Sp := fun vs H Q _ => ∃ (w' : Nat), vs = [.int (w' : Int)] ∧ w' ≤ 7 ∧ ∀ D H', H D = none → Ex H H' → H' D = some (.lst (everyV w')) → Q (.ref D) H'
section
variable {P : Program} {w : World} {K : PySem.W.Frag} {mg : Str → Option Value} {base : Heap}
theorem ok__law_binary (T : Txt K mg) : Dk P w K mg base (L2.CX P w) 1 "_law_binary" spBitsTold := by
  obtain ⟨fd, F⟩ := T.f__law_binary
  refine ⟨_, fd, ["number", "many"], F.ok sc__law_binary (fun vs H Q E h => ?_) (fun cdv A outer s H vs Q E hr h => ⟨_, (pss_one (ps_ret (LW.pe_jn pe_str (pe_lc (own := [("k", 2)]) (by rfl) sc__law_binary.nd (pi_range3 (by rfl) T.b_range (pa_cons (pe_op LW.o_sub (pv 1) pe_int) (pa_cons (pe_op LW.o_sub pe_int pe_int) (pa_cons (pe_op LW.o_sub pe_int pe_int) pa_nil)))) (blkOk_by (own := [("k", 2)]) (N := ["number", "many", "k"]) (sc := defScope s__law_binary) (by decide +kernel)) (fun _ _ _ _ _ => (pg_name (i := 2) sc__law_binary.nd rfl (Or.inl rfl))) (fun _ _ _ _ _ => pts_nil) (fun _ _ _ _ _ => (pe_ix LW.ix_str pe_str (pe_op LW.o_mod (pe_op LW.o_shr (pv 0) (pv 2)) pe_int) (fun _ _ => rfl))))))), ?_⟩), T.g__law_binary, F.kp, F.bindsN fun _ _ _ _ _ _ us hl => match us, hl with | [_, _], _ => rfl⟩
  · obtain ⟨n, w', rfl, _⟩ := h
    rfl
  · obtain ⟨n, w', rfl, hw, q⟩ := h
    walk_at "go"
    refine ⟨_, _, _, w', rfl, rgc_down (by omega), fun D nD => lc_map walk_rangeC (fun i => .str (S [48 + n / 2 ^ (w' - 1 - i) % 2])) (by omega) nD (fun _ _ => True.intro) (fun i x H1 H2 hi e1 y R hR => ?_) (fun H1 e1 hD => ?_)⟩
    · obtain ⟨rfl, rfl⟩ := y
      walk_at "go"
      refine ⟨rfl, ?_⟩
      walk_at "go"
      have e : ((w' : Int) - 1 + (i : Nat) * (0 - 1)) = ((w' - 1 - i : Nat) : Int) := by omega
      rw [e]
      refine v_shr ?_
      walk_at "go"
      refine v_mod (by decide) ?_
      have e2 : (((n / 2 ^ (w' - 1 - i) : Nat) : Int) % 2) = ((n / 2 ^ (w' - 1 - i) % 2 : Nat) : Int) := by omega
      rw [e2]
      have h2 : n / 2 ^ (w' - 1 - i) % 2 = 0 ∨ n / 2 ^ (w' - 1 - i) % 2 = 1 := by omega
      refine v_ixS (c := 48 + n / 2 ^ (w' - 1 - i) % 2) (by decide) (atI_nat ?_) (hR _ ex_refl)
      rcases h2 with h2 | h2 <;> rw [h2] <;> rfl
    · have e : (List.range w').map (fun i => V.str (S [48 + n / 2 ^ (w' - 1 - i) % 2])) = ((bitsL n w').map fun c => S [c]).map V.str := by
        unfold bitsL
        rw [List.map_map, List.map_map]
        rfl
      rw [e] at hD
      exact v_jnS (sl_of hD) (by simp [bitsL]; omega) (q H1 e1)
theorem ok__law_every (T : Txt K mg) (D__law_binary : Dk P w K mg base (L2.CX P w) 1 "_law_binary" spBitsTold) : Dk P w K mg base (L2.CX P w) 2 "_law_every" spEvery := by
  obtain ⟨fd, F⟩ := T.f__law_every
  refine ⟨_, fd, ["width"], F.ok sc__law_every (fun vs H Q E h => ?_) (fun cdv A outer s H vs Q E hr h => ⟨_, (pss_one (ps_ret (pe_lc (own := [("k", 1)]) (by rfl) sc__law_every.nd (pi_range1 (by rfl) T.b_range (pa_cons (pe_op LW.o_shl pe_int (pv 0)) pa_nil)) (blkOk_by (own := [("k", 1)]) (N := ["width", "k"]) (sc := defScope s__law_every) (by decide +kernel)) (fun _ _ _ _ _ => (pg_name (i := 1) sc__law_every.nd rfl (Or.inl rfl))) (fun _ _ _ _ _ => pts_nil) (fun _ _ _ _ _ => (LW.pe_d D__law_binary hr (by omega) (by rfl) passL (pa_cons (pv 1) (pa_cons (pv 0) pa_nil))))))), ?_⟩), T.g__law_every, F.kp, F.bindsN fun _ _ _ _ _ _ us hl => match us, hl with | [_], _ => rfl⟩
  · obtain ⟨w', rfl, _⟩ := h
    rfl
  · obtain ⟨w', rfl, hw, q⟩ := h
    have p7 : 2 ^ w' ≤ 2 ^ 7 := Nat.pow_le_pow_right (by decide) hw
    walk_at "go"
    refine v_shl1 (by omega) ?_
    walk_at "go"
    refine ⟨_, rfl, Int.le_trans (by decide) (Int.natCast_nonneg _), Int.lt_of_le_of_lt (Int.ofNat_le.mpr p7) (by decide), fun D nD => ?_⟩
    rw [Int.toNat_natCast]
    refine lc_map walk_range (fun i => .str (S (bitsL i w'))) (Nat.le_trans p7 (by decide)) nD (fun _ _ => True.intro) (fun i x H1 H2 hi e1 y R hR => ?_) (fun H1 e1 hD => ?_)
    · obtain ⟨rfl, rfl⟩ := y
      walk_at "go"
      refine ⟨rfl, ?_⟩
      walk_at "go"
      rw [Int.zero_add]
      exact ⟨i, w', rfl, by omega, fun H3 e3 => hR H3 e3⟩
    · exact q D H1 nD e1 hD
end
end K37
namespace K37
open PySem PySem.Spec PyProof.Rows L2 LW SX M37
/-- a drawn reference, ahead of what comes -/
def spLawRef (K : PySem.W.Frag) : Sp := fun vs H Q _ => ∃ (r n : Addr) (sc : Scr) (p W : Int) (gs : List V) (G : Gr), vs = [.ref r, .int p, .ref n] ∧ RowOk K sc H r ∧ n ≠ r ∧ H n = some (.lst gs) ∧ Nds H gs G ∧ okG W G ∧ G.length ≤ 60 ∧
  ∀ c rf H', H' c = some (.tup [.int rf.1, .int rf.2]) → okRf G G.length p rf → Exc r H H' → RowOk K sc H' r → Q (.ref c) H'
theorem lay_ints : ∀ ks : List Nat, PyData.canLayAll0 (ks.map fun k : Nat => PyData.int (k : Int)) = true
  | [] => rfl
  | k :: ks => by
    show (PyData.canLay0 (.int (k : Int)) && PyData.canLayAll0 (ks.map fun k : Nat => PyData.int (k : Int))) = true
    rw [lay_ints ks]
    rfl
theorem deep_ints : ∀ ks : List Nat, PyData.depthAll (ks.map fun k : Nat => PyData.int (k : Int)) = 0
  | [] => rfl
  | k :: ks => by
    show max (PyData.depth (.int (k : Int))) (PyData.depthAll (ks.map fun k : Nat => PyData.int (k : Int))) = 0
    rw [deep_ints ks]
    rfl
theorem shaped_ints (ks : List Nat) : SeqAt.shaped (.list (ks.map fun k : Nat => PyData.int (k : Int))) = true := by
  show (PyData.canLayAll0 _ && decide (PyData.depthAll _ + 1 ≤ 64)) = true
  rw [lay_ints, deep_ints]
  rfl
theorem ints_dp {K : PySem.W.Frag} {H : Hp} : ∀ ks : List Nat, DpAll K H (ks.map fun k : Nat => V.int (k : Int)) (ks.map fun k : Nat => PyData.int (k : Int))
  | [] => .nil
  | k :: ks => .cons (.int _) (ints_dp ks)
section
variable {P : Program} {w : World} {K : PySem.W.Frag} {mg : Str → Option Value} {base : Heap}
theorem ok__law_reference (T : Txt K mg) (D__law_taken : Dk P w K mg base (L2.CX P w) 1 "_law_taken" (spTaken K)) (D__law_pick : Dk P w K mg base (L2.CX P w) 2 "_law_pick" (spPick K)) : Dk P w K mg base (L2.CX P w) 3 "_law_reference" (spLawRef K) := by
  obtain ⟨fd, F⟩ := T.f__law_reference
  refine ⟨_, fd, ["row", "place", "nodes"], F.ok sc__law_reference (fun vs H Q E h => ?_) (fun cdv A outer s H vs Q E hr h => ⟨_, (pss_cons (ps_setLc (i := 3) (own := [("k", 4)]) rfl sc__law_reference.nd rfl rfl (sw_true rfl rfl rfl (by decide +kernel)) (pi_range1 (by rfl) T.b_range (pa_cons (pe_callB LW.c_lenQ (by rfl) T.b_len (by decide +kernel) (pa_cons (pv 2) pa_nil)) pa_nil)) (blkOk_by (own := [("k", 4)]) (N := ["row", "place", "nodes", "some", "k"]) (sc := defScope s__law_reference) (by decide +kernel)) (fun _ _ _ _ _ => (pg_name (i := 4) sc__law_reference.nd rfl (Or.inl rfl))) (fun _ _ _ _ _ => (pts_one (pt_cmpR LW.o_gt (pe_ix (LW.ix_tupK (K := K)) (pe_ix (LW.ix_listK (K := K)) (pv 2) (pv 4) (fun _ _ => rfl)) pe_int (fun _ _ => rfl)) (pv 1) (nomark _)))) (fun _ _ _ _ _ => (pv 4)))
    (pss_cons (ps_if (PW.pt (pw_or (pt_cmpR (LW.o_dEq hr.units) (pv 3) (LW.pe_ls pa_nil) (nomark _)) (pw_or1 (pt_cmpR LW.o_eq (LW.pe_d D__law_taken hr (by omega) (by rfl) passL (pa_cons (pv 0) (pa_cons pe_int pa_nil))) pe_int (nomark _)))))
    (pss_one (ps_ret (LW.pe_tp (pa_cons pe_int (pa_cons (pe_op LW.o_sub (LW.pe_d D__law_taken hr (by omega) (by rfl) passL (pa_cons (pv 0) (pa_cons pe_int pa_nil))) pe_int) pa_nil))))) pss_nil)
    (pss_one (ps_ret (LW.pe_tp (pa_cons pe_int (pa_cons (LW.pe_d D__law_pick hr (by omega) (by rfl) passL (pa_cons (pv 0) (pa_cons (pv 3) pa_nil))) pa_nil))))))), ?_⟩), T.g__law_reference, F.kp, F.bindsN fun _ _ _ _ _ _ us hl => match us, hl with | [_, _, _], _ => rfl⟩
  · obtain ⟨r, n, sc, p, W, gs, G, rfl, _⟩ := h
    rfl
  · obtain ⟨r, n, sc, p, W, gs, G, rfl, hrow, nr, hn, hG, ok, hfew, q⟩ := h
    have hlen := hG.len
    have nth : ∀ i : Nat, i < gs.length → ∃ nd q va vb, G[i]? = some nd ∧ gs[i]? = some (V.ref q) ∧ H q = some (.tup [.int nd.p, va, vb]) := fun i hi => by
      obtain ⟨nd, h1, h2⟩ := hG.get (List.getElem?_eq_getElem hi)
      obtain ⟨q, va, vb, e, hq, _, _⟩ := h2
      exact ⟨nd, q, va, vb, h1, by rw [List.getElem?_eq_getElem hi, e], hq⟩
    walk_at "go"
    refine v_lenL (sl_of hn) ?_
    walk_at "go"
    refine ⟨_, rfl, by omega, by omega, fun D nD => ?_⟩
    rw [Int.toNat_natCast]
    refine lc_filter walk_range (fun i => decide (p < (G[i]?.map Nd.p).getD 0)) (fun i => .int (i : Int)) (by omega) nD (fun _ _ => True.intro) (fun i x H1 H2 hi e1 y R hR1 hR2 => ?_) (fun H1 e1 hD => ?_)
    · obtain ⟨rfl, rfl⟩ := y
      obtain ⟨nd, q0, va, vb, h1, h2, h3⟩ := nth i hi
      walk_at "go"
      refine ⟨rfl, ?_⟩
      walk_at "go"
      rw [Int.zero_add]
      refine v_ixL (sl_of (e1 _ _ hn)) (atI_nat (v := .ref q0) h2) ?_
      walk_at "go"
      refine v_ixT (st_of (e1 _ _ h3)) (show _ = some (.int nd.p) by rfl) ?_
      walk_at "go"
      have ed : (G[i]?.map Nd.p).getD 0 = nd.p := by rw [h1]; rfl
      refine w_dec (fun hlt => ?_) (fun hlt => ?_)
      · walk_at "go"
        exact hR1 _ ex_refl (by rw [ed]; exact decide_eq_true hlt)
      · walk_at "go"
        exact hR2 _ ex_refl (by rw [ed]; exact decide_eq_false hlt)
    · generalize hks : (List.range gs.length).filter (fun i => decide (p < (G[i]?.map Nd.p).getD 0)) = ks at hD
      have kin : ∀ k ∈ ks, k < gs.length ∧ ∃ nd, G[k]? = some nd ∧ p < nd.p := fun k hk => by
        rw [← hks] at hk
        obtain ⟨h1, h2⟩ := List.mem_filter.mp hk
        have h1 := List.mem_range.mp h1
        obtain ⟨nd, q0, va, vb, h3, _⟩ := nth k h1
        refine ⟨h1, nd, h3, ?_⟩
        rw [h3] at h2
        exact of_decide_eq_true h2
      have klen : ks.length ≤ gs.length := by rw [← hks]; have := List.length_filter_le (fun i => decide (p < (G[i]?.map Nd.p).getD 0)) (List.range gs.length); rw [List.length_range] at this; exact this
      have row1 := hrow.ex e1
      have nDr : D ≠ r := hrow.ne nD
      walk_at "go"
      refine w_new (by simp) fun D2 H2 nD2 e2 h2 => ?_
      have hD2 := e2 _ _ hD
      refine ⟨.list (ks.map fun k : Nat => PyData.int (k : Int)), .list [], .lst (sl_of hD2) (ints_dp ks), .lst (sl_of h2) .nil, shaped_ints ks, rfl, ?_⟩
      have eqE : PyData.eqv (.list (ks.map fun k : Nat => PyData.int (k : Int))) (.list []) = decide (ks = []) := by cases ks <;> rfl
      rw [eqE]
      refine ⟨_, rfl, ?_⟩
      have e12 := e1.trans e2
      have row2 := hrow.ex e12
      by_cases hk : ks = []
      · rw [decide_eq_true hk]
        refine iteT' ?_
        refine iteT' ?_
        walk_at "go"
        refine ⟨r, sc, 4, rfl, row2, by omega, by omega, fun v H4 hv e4 row4 => ?_⟩
        walk_at "go"
        refine w_new (by simp) fun t H5 nt e5 ht => ?_
        exact q t (0, (v : Int) - 1) H5 ht (.inl ⟨rfl, by show (-1 : Int) ≤ (v : Int) - 1; omega, by show (v : Int) - 1 ≤ 999; omega⟩) (fun b o ne hb => e5 _ _ (e4 b o ne (e12 _ _ hb))) (row4.ex e5)
      · rw [decide_eq_false hk]
        refine iteF' ?_
        walk_at "go"
        refine ⟨r, sc, 4, rfl, row2, by omega, by omega, fun v H4 hv e4 row4 => ?_⟩
        walk_at "go"
        have e04 : Exc r H H4 := fun b o ne hb => e4 b o ne (e12 _ _ hb)
        refine w_dec (fun _ => ?_) (fun _ => ?_)
        · walk_at "go"
          refine ⟨r, sc, 4, rfl, row4, by omega, by omega, fun v H5 hv e5 row5 => ?_⟩
          walk_at "go"
          refine w_new (by simp) fun t H6 nt e6 ht => ?_
          exact q t (0, (v : Int) - 1) H6 ht (.inl ⟨rfl, by show (-1 : Int) ≤ (v : Int) - 1; omega, by show (v : Int) - 1 ≤ 999; omega⟩) (fun b o ne hb => e6 _ _ (e5 b o ne (e04 _ _ ne hb))) (row5.ex e6)
        · walk_at "go"
          refine ⟨r, D, sc, _, rfl, row4, .inl ⟨e4 _ _ nDr hD2, nDr⟩, fun z => hk (List.map_eq_nil_iff.mp z), by rw [List.length_map]; omega, fun y hy H5 e5 row5 => ?_⟩
          obtain ⟨k, hkm, rfl⟩ := List.mem_map.mp hy
          obtain ⟨klt, nd, hnd, hpn⟩ := kin k hkm
          walk_at "go"
          refine w_new (by simp) fun t H6 nt e6 ht => ?_
          exact q t (1, (k : Int)) H6 ht (.inr ⟨rfl, Int.natCast_nonneg _, by show (k : Int) < (G.length : Int); omega, nd, by simpa using hnd, hpn⟩) (fun b o ne hb => e6 _ _ (e5 b o ne (e04 _ _ ne hb))) (row5.ex e6)
end
end K37
namespace K37
open PySem PySem.Spec PyProof.Rows L2 LW SX M37
theorem later {G : Gr} {i j : Nat} {p : Int} {r : Rf} (h : okRf G i p r) (hij : i ≤ j) : okRf G j p r := by
  rcases h with h | ⟨h1, h2, h3, x, h4, h5⟩
  · exact .inl h
  · exact .inr ⟨h1, h2, by omega, x, h4, h5⟩
/-- a drawn node, behind others or one of them -/
def spLawNode (K : PySem.W.Frag) : Sp := fun vs H Q _ => ∃ (r n : Addr) (sc : Scr) (W : Nat) (gs : List V) (G : Gr), vs = [.ref r, .int (W : Int), .ref n] ∧ RowOk K sc H r ∧ n ≠ r ∧ H n = some (.lst gs) ∧ Nds H gs G ∧ okG (W : Int) G ∧ 1 ≤ W ∧ W ≤ 60 ∧ G.length ≤ 60 ∧
  ∀ v nd H', ndV H' v nd → okNd (W : Int) G G.length nd → Exc r H H' → RowOk K sc H' r → Q v H'
section
variable {P : Program} {w : World} {K : PySem.W.Frag} {mg : Str → Option Value} {base : Heap}
theorem ok__law_node (T : Txt K mg) (D__law_taken : Dk P w K mg base (L2.CX P w) 1 "_law_taken" (spTaken K)) (D__law_pick : Dk P w K mg base (L2.CX P w) 2 "_law_pick" (spPick K)) (D__law_reference : Dk P w K mg base (L2.CX P w) 3 "_law_reference" (spLawRef K)) : Dk P w K mg base (L2.CX P w) 4 "_law_node" (spLawNode K) := by
  obtain ⟨fd, F⟩ := T.f__law_node
  refine ⟨_, fd, ["row", "width", "nodes"], F.ok sc__law_node (fun vs H Q E h => ?_) (fun cdv A outer s H vs Q E hr h => ⟨_, (pss_cons (ps_if (PW.pt (pw_and (pt_cmpR (LW.o_dNe hr.units) (pv 2) (LW.pe_ls pa_nil) (nomark _)) (pw_and1 (pt_cmpR LW.o_eq (LW.pe_d D__law_taken hr (by omega) (by rfl) passL (pa_cons (pv 0) (pa_cons pe_int pa_nil))) pe_int (nomark _)))))
    (pss_one (ps_ret (LW.pe_d D__law_pick hr (by omega) (by rfl) passL (pa_cons (pv 0) (pa_cons (pv 2) pa_nil))))) pss_nil)
    (pss_cons (ps_set (i := 3) sc__law_node.nd rfl (Or.inl rfl) (pe_op LW.o_sub (pe_op LW.o_sub (pv 1) pe_int) (pe_callB (LW.c_min2 rfl) (by rfl) T.b_min (by decide +kernel) (pa_cons (pe_op LW.o_sub (pv 1) pe_int) (pa_cons (LW.pe_d D__law_taken hr (by omega) (by rfl) passL (pa_cons (pv 0) (pa_cons (pe_op LW.o_add (pv 1) pe_int) pa_nil))) pa_nil)))))
    (pss_one (ps_ret (LW.pe_tp (pa_cons (pv 3) (pa_cons (LW.pe_d D__law_reference hr (by omega) (by rfl) passL (pa_cons (pv 0) (pa_cons (pv 3) (pa_cons (pv 2) pa_nil)))) (pa_cons (LW.pe_d D__law_reference hr (by omega) (by rfl) passL (pa_cons (pv 0) (pa_cons (pv 3) (pa_cons (pv 2) pa_nil)))) pa_nil)))))))), ?_⟩), T.g__law_node, F.kp, F.bindsN fun _ _ _ _ _ _ us hl => match us, hl with | [_, _, _], _ => rfl⟩
  · obtain ⟨r, n, sc, W, gs, G, rfl, _⟩ := h
    rfl
  · obtain ⟨r, n, sc, W, gs, G, rfl, hrow, nr, hn, hG, ok, hW1, hW, hfew, q⟩ := h
    have hlen := hG.len
    walk_at "go"
    refine w_new (by simp) fun D2 H2 nD2 e2 h2 => ?_
    have hn2 := e2 _ _ hn
    have row2 := hrow.ex e2
    refine ⟨.list (G.map ndD), .list [], .lst (sl_of hn2) (hG.mono (tup_ex e2)).dp, .lst (sl_of h2) .nil, shaped_nodes G, rfl, ?_⟩
    have eqE : (!PyData.eqv (.list (G.map ndD)) (.list [])) = decide (G ≠ []) := by cases G <;> rfl
    rw [eqE]
    refine ⟨_, rfl, ?_⟩
    by_cases hk : G = []
    · rw [decide_eq_false (fun z => z hk)]
      refine iteF' ?_
      refine iteF' ?_
      walk_at "go"
      refine ⟨r, sc, W + 1, rfl, row2, by omega, by omega, fun u H4 hu e4 row4 => ?_⟩
      have f4 : Exc r H H4 := fun b o ne hb => e4 b o ne (e2.exc b o ne hb)
      walk_at "go"
      obtain ⟨p, hp, p0, pW⟩ : ∃ p : Int, p = (W : Int) - 1 - (if (u : Int) < (W : Int) - 1 then (u : Int) else (W : Int) - 1) ∧ 0 ≤ p ∧ p < W := ⟨_, rfl, by split <;> omega, by split <;> omega⟩
      rw [← hp]
      have hn4 := f4 _ _ nr hn
      have t4 : Tup H H4 := fun a xs ha => f4 a _ (fun z => by obtain ⟨ys, hy⟩ := hrow.lst; rw [z, hy] at ha; cases ha) ha
      refine ⟨r, n, sc, p, (W : Int), gs, G, rfl, row4, nr, hn4, hG.mono t4, ok, hfew, fun c1 r1 H5 hc1 ok1 e5 row5 => ?_⟩
      have t5 := tup_row row4 e5
      have hn5 := e5 _ _ nr hn4
      walk_at "go"
      refine ⟨r, n, sc, p, (W : Int), gs, G, rfl, row5, nr, hn5, hG.mono (t4.trans t5), ok, hfew, fun c2 r2 H6 hc2 ok2 e6 row6 => ?_⟩
      walk_at "go"
      refine w_new (by simp) fun t H7 nt e7 ht => ?_
      have t6 := tup_row row5 e6
      exact q (.ref t) ⟨p, r1, r2⟩ H7 ⟨t, .ref c1, .ref c2, rfl, ht, ⟨c1, rfl, e7 _ _ (t6 _ _ hc1)⟩, ⟨c2, rfl, e7 _ _ hc2⟩⟩ ⟨p0, pW, ok1, ok2⟩ (fun b o ne hb => e7 _ _ (e6 b o ne (e5 b o ne (f4 b o ne hb)))) (row6.ex e7)
    · rw [decide_eq_true hk]
      refine iteT' ?_
      walk_at "go"
      refine ⟨r, sc, 7, rfl, row2, by omega, by omega, fun v H3 hv e3 row3 => ?_⟩
      have f3 : Exc r H H3 := fun b o ne hb => e3 b o ne (e2 b o hb)
      walk_at "go"
      refine w_dec (fun _ => ?_) (fun _ => ?_)
      · walk_at "go"
        have t3 : Tup H H3 := fun a xs ha => f3 a _ (fun z => by obtain ⟨ys, hy⟩ := hrow.lst; rw [z, hy] at ha; cases ha) ha
        refine ⟨r, n, sc, gs, rfl, row3, .inl ⟨f3 _ _ nr hn, nr⟩, fun z => hk (List.length_eq_zero_iff.mp (by rw [← hlen, z]; rfl)), by omega, fun y hy H4 e4 row4 => ?_⟩
        obtain ⟨i, hi⟩ := List.getElem?_of_mem hy
        obtain ⟨nd, hnd, hv⟩ := hG.get hi
        have ilt := (List.getElem?_eq_some_iff.mp hnd).1
        obtain ⟨o1, o2, o3, o4⟩ := ok i nd hnd
        exact q y nd H4 (hv.mono (t3.trans (tup_row row3 e4))) ⟨o1, o2, later o3 (by omega), later o4 (by omega)⟩ (fun b o ne hb => e4 b o ne (f3 b o ne hb)) row4
      · walk_at "go"
        refine ⟨r, sc, W + 1, rfl, row3, by omega, by omega, fun u H4 hu e4 row4 => ?_⟩
        have f4 : Exc r H H4 := fun b o ne hb => e4 b o ne (f3 b o ne hb)
        walk_at "go"
        obtain ⟨p, hp, p0, pW⟩ : ∃ p : Int, p = (W : Int) - 1 - (if (u : Int) < (W : Int) - 1 then (u : Int) else (W : Int) - 1) ∧ 0 ≤ p ∧ p < W := ⟨_, rfl, by split <;> omega, by split <;> omega⟩
        rw [← hp]
        have hn4 := f4 _ _ nr hn
        have t4 : Tup H H4 := fun a xs ha => f4 a _ (fun z => by obtain ⟨ys, hy⟩ := hrow.lst; rw [z, hy] at ha; cases ha) ha
        refine ⟨r, n, sc, p, (W : Int), gs, G, rfl, row4, nr, hn4, hG.mono t4, ok, hfew, fun c1 r1 H5 hc1 ok1 e5 row5 => ?_⟩
        have t5 := tup_row row4 e5
        have hn5 := e5 _ _ nr hn4
        walk_at "go"
        refine ⟨r, n, sc, p, (W : Int), gs, G, rfl, row5, nr, hn5, hG.mono (t4.trans t5), ok, hfew, fun c2 r2 H6 hc2 ok2 e6 row6 => ?_⟩
        walk_at "go"
        refine w_new (by simp) fun t H7 nt e7 ht => ?_
        have t6 := tup_row row5 e6
        exact q (.ref t) ⟨p, r1, r2⟩ H7 ⟨t, .ref c1, .ref c2, rfl, ht, ⟨c1, rfl, e7 _ _ (t6 _ _ hc1)⟩, ⟨c2, rfl, e7 _ _ hc2⟩⟩ ⟨p0, pW, ok1, ok2⟩ (fun b o ne hb => e7 _ _ (e6 b o ne (e5 b o ne (f4 b o ne hb)))) (row6.ex e7)
end
end K37
namespace K37
open PySem PySem.Spec PyProof.Rows L2 LW SX M37
theorem dig : ∀ k : Nat, k < 1100 → ((toString ((k : Int) - 2) : String) : Str).length ≤ 5 ∧ ((k : Int) - 2).natAbs.log2 < 1920 := by decide +kernel
theorem dig_le {i : Int} (h1 : -2 ≤ i) (h2 : i ≤ 1000) : ((toString i : String) : Str).length ≤ 5 ∧ i.natAbs.log2 < 1920 := by
  have := dig (i + 2).toNat (by omega)
  have e : (((i + 2).toNat : Nat) : Int) - 2 = i := by omega
  rw [e] at this
  exact this
/-! ### how long a repr is, whatever the numbers -/
mutual
def tame : PyData → Bool
  | .none => true
  | .bool _ => true
  | .int i => decide (-2 ≤ i) && decide (i ≤ 1000)
  | .str _ => true
  | .list xs => tames xs
  | .tuple xs => tames xs
  | .dict [] => true
  | .dict (_ :: _) => false
def tames : List PyData → Bool
  | [] => true
  | x :: xs => tame x && tames xs
end
mutual
def cap : PyData → Nat
  | .none => 4
  | .bool _ => 5
  | .int _ => 5
  | .str x => (reprText x).length
  | .list xs => caps xs + 2
  | .tuple xs => caps xs + 3
  | .dict _ => 2
def caps : List PyData → Nat
  | [] => 0
  | x :: xs => cap x + 2 + caps xs
end
mutual
theorem tame_all : ∀ d : PyData, tame d = true → thin d = true ∧ d.showable = true ∧ wt d ≤ cap d
  | .none, _ => by decide
  | .bool b, _ => by cases b <;> decide
  | .int i, h => by
    unfold tame at h
    rw [Bool.and_eq_true, decide_eq_true_eq, decide_eq_true_eq] at h
    obtain ⟨h1, h2⟩ := dig_le h.1 h.2
    exact ⟨rfl, decide_eq_true h2, h1⟩
  | .str x, _ => ⟨rfl, rfl, Nat.le_refl _⟩
  | .list xs, h => by
    obtain ⟨h1, h2, h3⟩ := tames_all xs (by unfold tame at h; exact h)
    exact ⟨by unfold thin; exact h1, by unfold PyData.showable; exact h2, by unfold wt cap; omega⟩
  | .tuple xs, h => by
    obtain ⟨h1, h2, h3⟩ := tames_all xs (by unfold tame at h; exact h)
    exact ⟨by unfold thin; exact h1, by unfold PyData.showable; exact h2, by unfold wt cap; omega⟩
  | .dict [], _ => by decide
  | .dict (p :: ps), h => by cases h
theorem tames_all : ∀ xs : List PyData, tames xs = true → thins xs = true ∧ PyData.showableAll xs = true ∧ wts xs ≤ caps xs
  | [], _ => by decide
  | x :: xs, h => by
    unfold tames at h
    rw [Bool.and_eq_true] at h
    obtain ⟨a1, a2, a3⟩ := tame_all x h.1
    obtain ⟨h1, h2, h3⟩ := tames_all xs h.2
    refine ⟨?_, ?_, ?_⟩
    · unfold thins; rw [a1, h1]; rfl
    · unfold PyData.showableAll; rw [a2, h2]; rfl
    · unfold wts caps; omega
end
/-- a part of what is shown -/
def slim (d : PyData) : Prop := tame d = true ∧ d.depth ≤ 20 ∧ cap d ≤ 40000
theorem fine_two {z : Str} {d e : PyData} (hz : (reprText z).length ≤ 30) (hd : slim d) (he : slim e) : fine (.tuple [.str z, .tuple [d, e]]) = true := by
  obtain ⟨d1, d2, d3⟩ := hd
  obtain ⟨e1, e2, e3⟩ := he
  have t : tame (.tuple [.str z, .tuple [d, e]]) = true := by
    show (true && ((tame d && (tame e && true)) && true)) = true
    rw [d1, e1]
    rfl
  obtain ⟨a1, a2, a3⟩ := tame_all _ t
  have dp : PyData.depth (.tuple [.str z, .tuple [d, e]]) ≤ 32 := by
    show max 0 (max (max d.depth (max e.depth 0) + 1) 0) + 1 ≤ 32
    omega
  have cp : cap (.tuple [.str z, .tuple [d, e]]) ≤ 100000 := by
    show ((reprText z).length + 2 + ((cap d + 2 + (cap e + 2 + 0) + 3) + 2 + 0)) + 3 ≤ 100000
    omega
  unfold fine
  rw [a1, a2, decide_eq_true dp, decide_eq_true (Nat.le_trans a3 cp)]
  rfl
theorem fine_one {z : Str} {d : PyData} (hz : (reprText z).length ≤ 30) (hd : slim d) : fine (.tuple [.str z, d]) = true := by
  obtain ⟨d1, d2, d3⟩ := hd
  have t : tame (.tuple [.str z, d]) = true := by
    show (true && (tame d && true)) = true
    rw [d1]
    rfl
  obtain ⟨a1, a2, a3⟩ := tame_all _ t
  have dp : PyData.depth (.tuple [.str z, d]) ≤ 32 := by
    show max 0 (max d.depth 0) + 1 ≤ 32
    omega
  have cp : cap (.tuple [.str z, d]) ≤ 100000 := by
    show ((reprText z).length + 2 + (cap d + 2 + 0)) + 3 ≤ 100000
    omega
  unfold fine
  rw [a1, a2, decide_eq_true dp, decide_eq_true (Nat.le_trans a3 cp)]
  rfl
/-! ### nodes -/
theorem tame_ref {i : Int} (h1 : -2 ≤ i) (h2 : i ≤ 1000) : tame (.int i) = true := by
  unfold tame
  rw [decide_eq_true h1, decide_eq_true h2]
  rfl
theorem tame_refD {G : Gr} {i : Nat} {p : Int} {r : Rf} (h : okRf G i p r) (hi : i ≤ 100) : tame (refD r) = true := by
  show (tame (.int r.1) && (tame (.int r.2) && true)) = true
  rcases h with ⟨h1, h2, h3⟩ | ⟨h1, h2, h3, _⟩
  · rw [tame_ref (by omega) (by omega), tame_ref (by omega) (by omega)]
    rfl
  · rw [tame_ref (by omega) (by omega), tame_ref (by omega) (by omega)]
    rfl
theorem tame_nodes {W : Int} (hW : W ≤ 100) : ∀ (G H : Gr) (k : Nat), (∀ (i : Nat) (nd : Nd), G[i]? = some nd → ∃ j, j ≤ 100 ∧ okNd W H j nd) → tames (G.map ndD) = true
  | [], _, _, _ => rfl
  | nd :: G, H, k, h => by
    obtain ⟨j, hj, p0, pW, oa, ob⟩ := h 0 nd rfl
    show (tame (ndD nd) && tames (G.map ndD)) = true
    rw [tame_nodes hW G H k fun i x hx => h (i + 1) x (by simpa using hx), Bool.and_true]
    show (tame (.int nd.p) && (tame (refD nd.a) && (tame (refD nd.b) && true))) = true
    rw [tame_ref (by omega) (by omega), tame_refD oa hj, tame_refD ob hj]
    rfl
theorem tame_G {W : Int} {G : Gr} (hW : W ≤ 100) (ok : okG W G) (hl : G.length ≤ 60) : tames (G.map ndD) = true :=
  tame_nodes hW G G 0 fun i nd e => ⟨i, by have := (List.getElem?_eq_some_iff.mp e).1; omega, ok i nd e⟩
theorem tames_app : ∀ (xs ys : List PyData), tames (xs ++ ys) = (tames xs && tames ys)
  | [], ys => rfl
  | x :: xs, ys => by
    show (tame x && tames (xs ++ ys)) = ((tame x && tames xs) && tames ys)
    rw [tames_app xs ys, Bool.and_assoc]
theorem caps_app : ∀ (xs ys : List PyData), caps (xs ++ ys) = caps xs + caps ys
  | [], ys => by show caps ys = 0 + caps ys; omega
  | x :: xs, ys => by
    show cap x + 2 + caps (xs ++ ys) = (cap x + 2 + caps xs) + caps ys
    rw [caps_app xs ys]
    omega
theorem depth_app : ∀ (xs ys : List PyData), PyData.depthAll (xs ++ ys) = max (PyData.depthAll xs) (PyData.depthAll ys)
  | [], ys => by show PyData.depthAll ys = max 0 (PyData.depthAll ys); omega
  | x :: xs, ys => by
    show max x.depth (PyData.depthAll (xs ++ ys)) = max (max x.depth (PyData.depthAll xs)) (PyData.depthAll ys)
    rw [depth_app xs ys]
    omega
theorem dict_app : ∀ (xs ys : List PyData), PyData.hasDictAll (xs ++ ys) = (PyData.hasDictAll xs || PyData.hasDictAll ys)
  | [], ys => rfl
  | x :: xs, ys => by
    show (x.hasDict || PyData.hasDictAll (xs ++ ys)) = ((x.hasDict || PyData.hasDictAll xs) || PyData.hasDictAll ys)
    rw [dict_app xs ys, Bool.or_assoc]
theorem caps_nodes : ∀ G : Gr, caps (G.map ndD) = 50 * G.length
  | [] => rfl
  | nd :: G => by
    show cap (ndD nd) + 2 + caps (G.map ndD) = _
    rw [caps_nodes G, List.length_cons]
    have : cap (ndD nd) = 48 := rfl
    omega
theorem dict_nodes : ∀ G : Gr, PyData.hasDictAll (G.map ndD) = false
  | [] => rfl
  | nd :: G => by
    show ((ndD nd).hasDict || PyData.hasDictAll (G.map ndD)) = false
    rw [dict_nodes G]
    rfl
theorem slim_rows {W : Int} {G : Gr} {bds : List PyData} (hW : W ≤ 100) (ok : okG W G) (hl : G.length ≤ 60) (h1 : tames bds = true) (h2 : PyData.depthAll bds ≤ 10) (h3 : caps bds ≤ 1000) : slim (.list (G.map ndD ++ bds)) := by
  refine ⟨?_, ?_, ?_⟩
  · show tames (G.map ndD ++ bds) = true
    rw [tames_app, tame_G hW ok hl, h1]
    rfl
  · show PyData.depthAll (G.map ndD ++ bds) + 1 ≤ 20
    have := deep_nodes G
    rw [depth_app]
    omega
  · show caps (G.map ndD ++ bds) + 2 ≤ 40000
    rw [caps_app, caps_nodes]
    omega
theorem slim_refD {G : Gr} {i : Nat} {p : Int} {r : Rf} (h : okRf G i p r) (hi : i ≤ 100) : slim (refD r) := by
  refine ⟨tame_refD h hi, ?_, ?_⟩
  · show 1 ≤ 20
    decide
  · have : cap (refD r) = 17 := rfl
    omega
/-! ### heaps behind lambdas -/
section
variable {K : PySem.W.Frag} {H H' : Hp}
theorem tup_extn (e : ExtN H H') : Tup H H' := fun p xs h => e p _ h (fun _ z => by cases z)
theorem kn_extn {x : V} {n : String} (e : ExtN H H') (h : Kn K H x n) : Kn K H' x n := by
  obtain ⟨h, m⟩ := h
  refine ⟨?_, m⟩
  cases h with
  | base b =>
    cases b with
    | non => exact .base .non
    | bl b => exact .base (.bl b)
    | int b => exact .base (.int b)
    | str b => exact .base (.str b)
    | flt b => exact .base (.flt b)
    | lst q => exact .base (.lst (e _ _ q (fun _ z => by cases z)))
    | frz q => exact .base (.frz (e _ _ q (fun _ z => by cases z)))
    | tup q => exact .base (.tup (e _ _ q (fun _ z => by cases z)))
    | dK q => exact .base (.dK (e _ _ q (fun _ z => by cases z)))
    | dT q => exact .base (.dT (e _ _ q (fun _ z => by cases z)))
  | byt b => exact .byt b
  | set q => exact .set (e _ _ q (fun _ z => by cases z))
  | kList a b => exact .kList a b
  | kTuple a b => exact .kTuple a b
  | kDict a b => exact .kDict a b
  | fTuple q => exact .fTuple (e _ _ q (fun _ z => by cases z))
  | fDict q => exact .fDict (e _ _ q (fun _ z => by cases z))
mutual
theorem extn_dT (e : ExtN H H') : ∀ (d : PyData) (v : V), DpT K H v d → DpT K H' v d
  | .none, _, h => by cases h; exact .non
  | .bool b, _, h => by cases h; exact .bl b
  | .int i, _, h => by cases h; exact .int i
  | .str x, _, h => by cases h; exact .str x
  | .list ds, _, h => by cases h
  | .tuple ds, _, h => by
    cases h with
    | tup a b => exact .tup (extn_t e a) (extn_dTs e ds _ b)
  | .dict _, _, h => by
    cases h with
    | emp a => exact .emp (e _ _ a (fun _ z => by cases z))
theorem extn_dTs (e : ExtN H H') : ∀ (ds : List PyData) (vs : List V), DpTs K H vs ds → DpTs K H' vs ds
  | [], _, h => by cases h; exact .nil
  | d :: ds, _, h => by
    cases h with
    | cons a b => exact .cons (extn_dT e d _ a) (extn_dTs e ds _ b)
end
/-- data that is shown, in either way -/
def Sd (K : PySem.W.Frag) (H : Hp) (v : V) (d : PyData) : Prop := (Dp K H v d ∧ d.hasDict = false) ∨ DpT K H v d
theorem Sd.extn {v : V} {d : PyData} (e : ExtN H H') (h : Sd K H v d) : Sd K H' v d := by
  rcases h with ⟨h, n⟩ | h
  · exact .inl ⟨extn_d e _ _ h, n⟩
  · exact .inr (extn_dT e _ _ h)
theorem badN_extn {W : Int} {G : Gr} {b : V} (e : ExtN H H') (h : BadN K H W G b) : BadN K H' W G b := by
  have t := tup_extn e
  cases h with
  | kind n a c => exact .kind n (kn_extn e a) c
  | size a xs e1 ha h3 h4 => exact .size a xs e1 (t _ _ ha) h3 h4
  | place a p x y n e1 ha hp hw => exact .place a p x y n e1 (t _ _ ha) (kn_extn e hp) hw
  | ref a c i k v y e1 ha h0 hW hc hr => exact .ref a c i k v y e1 (t _ _ ha) h0 hW (t _ _ hc) hr
  | back a c i m y nd e1 ha h0 hW hc m0 m1 hnd hle => exact .back a c i m y nd e1 (t _ _ ha) h0 hW (t _ _ hc) m0 m1 hnd hle
/-- a thing that is no rows of a graph -/
inductive Thing (K : PySem.W.Frag) (H : Hp) (W : Int) : V → PyData → Prop
  | other {v : V} {d : PyData} (n : String) : Kn K H v n → n ≠ "list" → n ≠ "tuple" → Sd K H v d → slim d → Thing K H W v d
  | rows {l : Addr} {gs : List V} {G : Gr} {b : V} {rest : List V} {d : PyData} : H l = some (.lst (gs ++ b :: rest)) → Nds H gs G → okG W G → (gs ++ b :: rest).length ≤ 1000 → BadN K H W G b → Dp K H (.ref l) d → d.hasDict = false → slim d → Thing K H W (.ref l) d
theorem Thing.extn {W : Int} {v : V} {d : PyData} (e : ExtN H H') (h : Thing K H W v d) : Thing K H' W v d := by
  cases h with
  | other n k n1 n2 s hs => exact .other n (kn_extn e k) n1 n2 (s.extn e) hs
  | rows hl hG ok hz bad hd nd hs => exact .rows (e _ _ hl (fun _ z => by cases z)) (hG.mono (tup_extn e)) ok hz (badN_extn e bad) (extn_d e _ _ hd) nd hs
theorem Thing.sd {W : Int} {v : V} {d : PyData} (h : Thing K H W v d) : Sd K H v d ∧ slim d := by
  cases h with
  | other n k n1 n2 s hs => exact ⟨s, hs⟩
  | rows hl hG ok hz bad hd nd hs => exact ⟨.inl ⟨hd, nd⟩, hs⟩
theorem dpAll_app {xs ys : List V} {ds es : List PyData} (h : DpAll K H xs ds) (g : DpAll K H ys es) : DpAll K H (xs ++ ys) (ds ++ es) := by
  induction xs generalizing ds with
  | nil => cases h; exact g
  | cons x xs ih =>
    cases h with
    | cons a b => exact .cons a (ih b)
/-- nodes and what comes behind them -/
theorem thing_at {W : Int} {l : Addr} {gs : List V} {G G' : Gr} {gs' : List V} {b : V} {bs rest : List V} {bds : List PyData} (hl : H l = some (.lst (gs ++ bs))) (hG : Nds H gs G) (ok : okG W G) (hW : W ≤ 100) (hlen : G.length ≤ 60)
    (es : gs ++ bs = gs' ++ b :: rest) (hG' : Nds H gs' G') (ok' : okG W G') (bad : BadN K H W G' b) (hb : bs.length ≤ 2) (hd : DpAll K H bs bds) (h1 : tames bds = true) (h2 : PyData.depthAll bds ≤ 10) (h3 : caps bds ≤ 1000) (h4 : PyData.hasDictAll bds = false) :
    Thing K H W (.ref l) (.list (G.map ndD ++ bds)) := by
  have hz : (gs' ++ b :: rest).length ≤ 1000 := by
    rw [← es, List.length_append, hG.len]
    omega
  refine .rows (by rw [← es]; exact hl) hG' ok' hz bad (.lst (sl_of hl) (dpAll_app hG.dp hd)) ?_ (slim_rows hW ok hlen h1 h2 h3)
  show PyData.hasDictAll (G.map ndD ++ bds) = false
  rw [dict_app, dict_nodes, h4]
  rfl
/-! ### the heap without one list -/
def mk (D : Addr) (H : Hp) : Hp := fun a => if a = D then none else H a
theorem mk_at {D a : Addr} {o : HO} (ne : a ≠ D) (h : H a = some o) : mk D H a = some o := by
  unfold mk
  rw [if_neg ne]
  exact h
theorem mk_back {D : Addr} : Ex (mk D H) H := fun a o h => by
  unfold mk at h
  split at h
  · cases h
  · exact h
theorem mk_ex {D : Addr} (hD : H D = none) (e : Ex H H') : Ex H (mk D H') := fun a o h => mk_at (fun z => by rw [z, hD] at h; cases h) (e a o h)
theorem mk_mono {D : Addr} (e : Exc D H H') : Ex (mk D H) (mk D H') := fun a o h => by
  unfold mk at h ⊢
  split at h
  · cases h
  · rename_i ne
    rw [if_neg ne]
    exact e a o ne h
end
end K37
namespace K37
open PySem PySem.Spec PyProof.Rows L2 LW SX M37
def spBadNodes (K : PySem.W.Frag) : Sp := fun vs H Q _ => ∃ (r : V) (W : Nat) (n : Addr) (gs : List V) (G : Gr), vs = [r, .int (W : Int), .ref n] ∧ H n = some (.lst gs) ∧ Nds H gs G ∧ okG (W : Int) G ∧ 1 ≤ W ∧ W ≤ 60 ∧ G.length ≤ 60 ∧
  ∀ D ts H', H D = none → Ex H H' → H' D = some (.lst ts) → (∀ v ∈ ts, ∃ d, Thing K (mk D H') (W : Int) v d) → ts.length ≤ 20 → Q (.ref D) H'
theorem far (G : Gr) : refB (.int 1) (.int (G.length : Int)) (G.length : Int) = false := by
  unfold refB
  rw [Bool.or_eq_false_iff]
  refine ⟨rfl, ?_⟩
  rw [Bool.and_eq_false_iff]
  refine .inr ?_
  rw [within_int, Bool.and_eq_false_iff]
  exact .inr (decide_eq_false (by omega))
theorem far2 (m : Int) : refB (.int 0) (.int 1000) m = false := by
  unfold refB
  rw [Bool.or_eq_false_iff]
  exact ⟨by decide, by rw [Bool.and_eq_false_iff]; exact .inl (by decide)⟩
section
variable {P : Program} {w : World} {K : PySem.W.Frag} {mg : Str → Option Value} {base : Heap}
theorem ok__law_bad_nodes (T : Txt K mg) : Dk P w K mg base (L2.CX P w) 1 "_law_bad_nodes" (spBadNodes K) := by
  obtain ⟨fd, F⟩ := T.f__law_bad_nodes
  refine ⟨_, fd, ["row", "width", "nodes"], F.ok sc__law_bad_nodes (fun vs H Q E h => ?_) (fun cdv A outer s H vs Q E hr h => ⟨_, (pss_cons (ps_set (i := 3) sc__law_bad_nodes.nd rfl (Or.inl rfl) (pe_callB LW.c_lenQ (by rfl) T.b_len (by decide +kernel) (pa_cons (pv 2) pa_nil)))
    (pss_cons (ps_set (i := 4) sc__law_bad_nodes.nd rfl (Or.inl rfl) (LW.pe_ls (pa_cons pe_non (pa_cons pe_str (pa_cons LW.pe_dn (pa_cons pe_int (pa_cons (pe_op LW.o_cat (pv 2) (LW.pe_ls (pa_cons pe_non pa_nil))) (pa_cons (pe_op LW.o_cat (pv 2) (LW.pe_ls (pa_cons (LW.pe_tp (pa_cons (pv 1) (pa_cons (LW.pe_tp (pa_cons pe_int (pa_cons pe_int pa_nil))) (pa_cons (LW.pe_tp (pa_cons pe_int (pa_cons pe_int pa_nil))) pa_nil)))) pa_nil))) (pa_cons (pe_op LW.o_cat (pv 2) (LW.pe_ls (pa_cons (LW.pe_tp (pa_cons (pe_op LW.o_sub pe_int pe_int) (pa_cons (LW.pe_tp (pa_cons pe_int (pa_cons pe_int pa_nil))) (pa_cons (LW.pe_tp (pa_cons pe_int (pa_cons pe_int pa_nil))) pa_nil)))) pa_nil))) pa_nil)))))))))
    (pss_cons (ps_expr (pe_bm PySem.F.plainAttrs_list PySem.F.slot_list_append PySem.F.type_list_append LW.m_append (pv 4) (pa_cons (pe_op LW.o_cat (pv 2) (LW.pe_ls (pa_cons (LW.pe_tp (pa_cons pe_int (pa_cons (LW.pe_tp (pa_cons pe_int (pa_cons (pv 3) pa_nil))) (pa_cons (LW.pe_tp (pa_cons pe_int (pa_cons pe_int pa_nil))) pa_nil)))) pa_nil))) pa_nil)))
    (pss_cons (ps_expr (pe_bm PySem.F.plainAttrs_list PySem.F.slot_list_append PySem.F.type_list_append LW.m_append (pv 4) (pa_cons (pe_op LW.o_cat (pv 2) (LW.pe_ls (pa_cons (LW.pe_tp (pa_cons pe_int (pa_cons (LW.pe_tp (pa_cons pe_int (pa_cons pe_int pa_nil))) (pa_cons (LW.pe_tp (pa_cons pe_int (pa_cons pe_int pa_nil))) pa_nil)))) pa_nil))) pa_nil)))
    (pss_cons (ps_expr (pe_bm PySem.F.plainAttrs_list PySem.F.slot_list_append PySem.F.type_list_append LW.m_append (pv 4) (pa_cons (pe_op LW.o_cat (pv 2) (LW.pe_ls (pa_cons (LW.pe_tp (pa_cons pe_int (pa_cons (LW.pe_tp (pa_cons pe_int (pa_cons pe_int pa_nil))) (pa_cons (LW.pe_tp (pa_cons pe_int (pa_cons pe_int pa_nil))) (pa_cons (LW.pe_tp (pa_cons pe_int (pa_cons pe_int pa_nil))) pa_nil))))) pa_nil))) pa_nil)))
    (pss_cons (ps_expr (pe_bm PySem.F.plainAttrs_list PySem.F.slot_list_append PySem.F.type_list_append LW.m_append (pv 4) (pa_cons (pe_op LW.o_cat (pv 2) (LW.pe_ls (pa_cons (LW.pe_ls (pa_cons pe_int (pa_cons (LW.pe_tp (pa_cons pe_int (pa_cons pe_int pa_nil))) (pa_cons (LW.pe_tp (pa_cons pe_int (pa_cons pe_int pa_nil))) pa_nil)))) pa_nil))) pa_nil)))
    (pss_cons (ps_expr (pe_bm PySem.F.plainAttrs_list PySem.F.slot_list_append PySem.F.type_list_append LW.m_append (pv 4) (pa_cons (pe_op LW.o_cat (pv 2) (LW.pe_ls (pa_cons (LW.pe_tp (pa_cons pe_int (pa_cons (LW.pe_tp (pa_cons pe_int (pa_cons pe_int pa_nil))) (pa_cons (LW.pe_tp (pa_cons pe_int (pa_cons pe_int pa_nil))) pa_nil)))) (pa_cons (LW.pe_tp (pa_cons pe_int (pa_cons (LW.pe_tp (pa_cons pe_int (pa_cons (pv 3) pa_nil))) (pa_cons (LW.pe_tp (pa_cons pe_int (pa_cons pe_int pa_nil))) pa_nil)))) pa_nil)))) pa_nil)))
    (pss_cons (ps_expr (pe_bm PySem.F.plainAttrs_list PySem.F.slot_list_append PySem.F.type_list_append LW.m_append (pv 4) (pa_cons (pe_ifExp (pt_cmpR LW.o_gt (pv 1) pe_int (nomark _)) (pe_op LW.o_cat (pv 2) (LW.pe_ls (pa_cons (LW.pe_tp (pa_cons pe_bl (pa_cons (LW.pe_tp (pa_cons pe_int (pa_cons pe_int pa_nil))) (pa_cons (LW.pe_tp (pa_cons pe_int (pa_cons pe_int pa_nil))) pa_nil)))) pa_nil))) (pe_op LW.o_cat (pv 2) (LW.pe_ls (pa_cons (LW.pe_tp (pa_cons pe_int (pa_cons (LW.pe_tp (pa_cons pe_int (pa_cons pe_int pa_nil))) (pa_cons (LW.pe_tp (pa_cons pe_int (pa_cons pe_int pa_nil))) pa_nil)))) pa_nil)))) pa_nil)))
    (pss_one (ps_ret (pv 4))))))))))), ?_⟩), T.g__law_bad_nodes, F.kp, F.bindsN fun _ _ _ _ _ _ us hl => match us, hl with | [_, _, _], _ => rfl⟩
  · obtain ⟨r, W, n, gs, G, rfl, _⟩ := h
    rfl
  · obtain ⟨r, W, n, gs, G, rfl, hn, hG, ok, hW1, hW, hfew, q⟩ := h
    have hlen := hG.len
    walk_at "go"
    refine v_lenL (sl_of hn) ?_
    walk_at "go"
    intro dE H1 n1 e1 h1
    walk_at "go"
    refine w_new (by simp) fun a1 H2 n2 e2 h2 => ?_
    walk_at "go"
    refine ⟨n, a1, gs, [.non], rfl, rfl, ((e1.trans e2) _ _ hn), h2, Evl.sz_of (by rw [hlen]; simp; omega), fun a2 n3 => ?_⟩
    refine g_new n3 fun H3 e3 h3 => ?_
    have t4 : ∃ d, Thing K H3 (W : Int) (.ref a2) d := ⟨_, thing_at (bds := [.none]) (bs := [.non]) (ex_refl _ _ h3) (hG.mono (tup_ex ((e1.trans e2).trans e3))) ok (by omega) hfew rfl (hG.mono (tup_ex ((e1.trans e2).trans e3))) ok (.kind "NoneType" kn_non (by decide)) (show 1 ≤ 2 by decide) (.cons .non .nil) (by simp [tames, tame] <;> omega) (show 0 ≤ 10 by decide) (show 6 ≤ 1000 by decide) rfl⟩
    walk_at "go"
    refine w_new (by simp) fun b1 H4 n4 e4 h4 => ?_
    walk_at "go"
    refine w_new (by simp) fun b2 H5 n5 e5 h5 => ?_
    walk_at "go"
    refine w_new (by simp) fun bt H6 n6 e6 h6 => ?_
    walk_at "go"
    refine w_new (by simp) fun b4 H7 n7 e7 h7 => ?_
    walk_at "go"
    refine ⟨n, b4, gs, [.ref bt], rfl, rfl, (((((((e1.trans e2).trans e3).trans e4).trans e5).trans e6).trans e7) _ _ hn), h7, Evl.sz_of (by rw [hlen]; simp; omega), fun b5 n8 => ?_⟩
    refine g_new n8 fun H8 e8 h8 => ?_
    have t5 : ∃ d, Thing K H8 (W : Int) (.ref b5) d := ⟨_, thing_at (bds := [.tuple [.int (W : Int), .tuple [.int 0, .int 1], .tuple [.int 0, .int 2]]]) (bs := [.ref bt]) (ex_refl _ _ h8) (hG.mono (tup_ex (((((((e1.trans e2).trans e3).trans e4).trans e5).trans e6).trans e7).trans e8))) ok (by omega) hfew rfl (hG.mono (tup_ex (((((((e1.trans e2).trans e3).trans e4).trans e5).trans e6).trans e7).trans e8))) ok (.place bt _ _ _ "int" rfl ((e7.trans e8) _ _ h6) kn_int (by rw [within_int, Bool.and_eq_false_iff]; exact .inr (decide_eq_false (by omega)))) (show 1 ≤ 2 by decide) (.cons (.tup (st_of ((e7.trans e8) _ _ h6)) (.cons (.int _) (.cons (.tup (st_of ((((e5.trans e6).trans e7).trans e8) _ _ h4)) (.cons (.int _) (.cons (.int _) .nil))) (.cons (.tup (st_of (((e6.trans e7).trans e8) _ _ h5)) (.cons (.int _) (.cons (.int _) .nil))) .nil)))) .nil) (by simp [tames, tame] <;> omega) (show 2 ≤ 10 by decide) (show 50 ≤ 1000 by decide) rfl⟩
    walk_at "go"
    refine w_new (by simp) fun c1 H9 n9 e9 h9 => ?_
    walk_at "go"
    refine w_new (by simp) fun c2 H10 n10 e10 h10 => ?_
    walk_at "go"
    refine w_new (by simp) fun ct H11 n11 e11 h11 => ?_
    walk_at "go"
    refine w_new (by simp) fun c4 H12 n12 e12 h12 => ?_
    walk_at "go"
    refine ⟨n, c4, gs, [.ref ct], rfl, rfl, ((((((((((((e1.trans e2).trans e3).trans e4).trans e5).trans e6).trans e7).trans e8).trans e9).trans e10).trans e11).trans e12) _ _ hn), h12, Evl.sz_of (by rw [hlen]; simp; omega), fun c5 n13 => ?_⟩
    refine g_new n13 fun H13 e13 h13 => ?_
    have t6 : ∃ d, Thing K H13 (W : Int) (.ref c5) d := ⟨_, thing_at (bds := [.tuple [.int (0 - 1), .tuple [.int 0, .int 1], .tuple [.int 0, .int 2]]]) (bs := [.ref ct]) (ex_refl _ _ h13) (hG.mono (tup_ex ((((((((((((e1.trans e2).trans e3).trans e4).trans e5).trans e6).trans e7).trans e8).trans e9).trans e10).trans e11).trans e12).trans e13))) ok (by omega) hfew rfl (hG.mono (tup_ex ((((((((((((e1.trans e2).trans e3).trans e4).trans e5).trans e6).trans e7).trans e8).trans e9).trans e10).trans e11).trans e12).trans e13))) ok (.place ct _ _ _ "int" rfl ((e12.trans e13) _ _ h11) kn_int (by rw [within_int, Bool.and_eq_false_iff]; exact .inl (decide_eq_false (by omega)))) (show 1 ≤ 2 by decide) (.cons (.tup (st_of ((e12.trans e13) _ _ h11)) (.cons (.int _) (.cons (.tup (st_of ((((e10.trans e11).trans e12).trans e13) _ _ h9)) (.cons (.int _) (.cons (.int _) .nil))) (.cons (.tup (st_of (((e11.trans e12).trans e13) _ _ h10)) (.cons (.int _) (.cons (.int _) .nil))) .nil)))) .nil) (by simp [tames, tame] <;> omega) (show 2 ≤ 10 by decide) (show 50 ≤ 1000 by decide) rfl⟩
    walk_at "go"
    refine w_new (by simp) fun D H14 nD e14 d14 => ?_
    have nD00 : H D = none := ex_back ((((((((((((e1.trans e2).trans e3).trans e4).trans e5).trans e6).trans e7).trans e8).trans e9).trans e10).trans e11).trans e12).trans e13) nD
    have nD0 : n ≠ D := fun z => by rw [z, nD00] at hn; cases hn
    have hnD := (((((((((((((e1.trans e2).trans e3).trans e4).trans e5).trans e6).trans e7).trans e8).trans e9).trans e10).trans e11).trans e12).trans e13).trans e14) _ _ hn
    have y14 : Exc D H14 H14 := exc_refl
    walk_at "go"
    refine ⟨ty_list d14, ?_⟩
    walk_at "go"
    refine w_new (by simp) fun f1 H15 n15 e15 h15 => ?_
    have z15 : f1 ≠ D := fun z => by rw [z, d14] at n15; cases n15
    have y15 : Exc D H14 H15 := y14.trans e15.exc
    have d15 := e15 _ _ d14
    walk_at "go"
    refine w_new (by simp) fun f2 H16 n16 e16 h16 => ?_
    have z16 : f2 ≠ D := fun z => by rw [z, d15] at n16; cases n16
    have y16 : Exc D H14 H16 := y15.trans e16.exc
    have d16 := e16 _ _ d15
    walk_at "go"
    refine w_new (by simp) fun ft H17 n17 e17 h17 => ?_
    have z17 : ft ≠ D := fun z => by rw [z, d16] at n17; cases n17
    have y17 : Exc D H14 H17 := y16.trans e17.exc
    have d17 := e17 _ _ d16
    walk_at "go"
    refine w_new (by simp) fun f4 H18 n18 e18 h18 => ?_
    have z18 : f4 ≠ D := fun z => by rw [z, d17] at n18; cases n18
    have y18 : Exc D H14 H18 := y17.trans e18.exc
    have d18 := e18 _ _ d17
    walk_at "go"
    refine ⟨n, f4, gs, [.ref ft], rfl, rfl, (y18 _ _ nD0 hnD), h18, Evl.sz_of (by rw [hlen]; simp; omega), fun f5 n19 => ?_⟩
    refine g_new n19 fun H19 e19 h19 => ?_
    have z19 : f5 ≠ D := fun z => by rw [z, d18] at n19; cases n19
    have y19 : Exc D H14 H19 := y18.trans e19.exc
    have d19 := e19 _ _ d18
    have t7 : ∃ d, Thing K (mk D H19) (W : Int) (.ref f5) d := ⟨_, thing_at (bds := [.tuple [.int 0, .tuple [.int 1, .int (gs.length : Int)], .tuple [.int 0, .int 2]]]) (bs := [.ref ft]) (mk_mono exc_refl _ _ (mk_at z19 h19)) (hG.mono (tup_ex ((mk_ex nD00 (((((((((((((e1.trans e2).trans e3).trans e4).trans e5).trans e6).trans e7).trans e8).trans e9).trans e10).trans e11).trans e12).trans e13).trans e14)).trans (mk_mono y19)))) ok (by omega) hfew rfl (hG.mono (tup_ex ((mk_ex nD00 (((((((((((((e1.trans e2).trans e3).trans e4).trans e5).trans e6).trans e7).trans e8).trans e9).trans e10).trans e11).trans e12).trans e13).trans e14)).trans (mk_mono y19)))) ok (.ref ft f1 0 1 _ (.ref f2) rfl (mk_mono (e18.exc.trans e19.exc) _ _ (mk_at z17 h17)) (by decide) (by omega) (mk_mono (((e16.exc.trans e17.exc).trans e18.exc).trans e19.exc) _ _ (mk_at z15 h15)) (by rw [hlen]; exact far G)) (show 1 ≤ 2 by decide) (.cons (.tup (st_of (mk_mono (e18.exc.trans e19.exc) _ _ (mk_at z17 h17))) (.cons (.int _) (.cons (.tup (st_of (mk_mono (((e16.exc.trans e17.exc).trans e18.exc).trans e19.exc) _ _ (mk_at z15 h15))) (.cons (.int _) (.cons (.int _) .nil))) (.cons (.tup (st_of (mk_mono ((e17.exc.trans e18.exc).trans e19.exc) _ _ (mk_at z16 h16))) (.cons (.int _) (.cons (.int _) .nil))) .nil)))) .nil) (by simp [tames, tame] <;> omega) (show 2 ≤ 10 by decide) (show 50 ≤ 1000 by decide) rfl⟩
    walk_at "go"
    refine v_app d19 (by simp) ?_
    refine g_put fun H20 e20 d20 => ?_
    have y20 : Exc D H14 H20 := y19.trans e20
    walk_at "go"
    refine ⟨ty_list d20, ?_⟩
    walk_at "go"
    refine w_new (by simp) fun g1 H21 n21 e21 h21 => ?_
    have z21 : g1 ≠ D := fun z => by rw [z, d20] at n21; cases n21
    have y21 : Exc D H14 H21 := y20.trans e21.exc
    have d21 := e21 _ _ d20
    walk_at "go"
    refine w_new (by simp) fun g2 H22 n22 e22 h22 => ?_
    have z22 : g2 ≠ D := fun z => by rw [z, d21] at n22; cases n22
    have y22 : Exc D H14 H22 := y21.trans e22.exc
    have d22 := e22 _ _ d21
    walk_at "go"
    refine w_new (by simp) fun gt H23 n23 e23 h23 => ?_
    have z23 : gt ≠ D := fun z => by rw [z, d22] at n23; cases n23
    have y23 : Exc D H14 H23 := y22.trans e23.exc
    have d23 := e23 _ _ d22
    walk_at "go"
    refine w_new (by simp) fun g4 H24 n24 e24 h24 => ?_
    have z24 : g4 ≠ D := fun z => by rw [z, d23] at n24; cases n24
    have y24 : Exc D H14 H24 := y23.trans e24.exc
    have d24 := e24 _ _ d23
    walk_at "go"
    refine ⟨n, g4, gs, [.ref gt], rfl, rfl, (y24 _ _ nD0 hnD), h24, Evl.sz_of (by rw [hlen]; simp; omega), fun g5 n25 => ?_⟩
    refine g_new n25 fun H25 e25 h25 => ?_
    have z25 : g5 ≠ D := fun z => by rw [z, d24] at n25; cases n25
    have y25 : Exc D H14 H25 := y24.trans e25.exc
    have d25 := e25 _ _ d24
    have t8 : ∃ d, Thing K (mk D H25) (W : Int) (.ref g5) d := ⟨_, thing_at (bds := [.tuple [.int 0, .tuple [.int 0, .int 1000], .tuple [.int 0, .int 2]]]) (bs := [.ref gt]) (mk_mono exc_refl _ _ (mk_at z25 h25)) (hG.mono (tup_ex ((mk_ex nD00 (((((((((((((e1.trans e2).trans e3).trans e4).trans e5).trans e6).trans e7).trans e8).trans e9).trans e10).trans e11).trans e12).trans e13).trans e14)).trans (mk_mono y25)))) ok (by omega) hfew rfl (hG.mono (tup_ex ((mk_ex nD00 (((((((((((((e1.trans e2).trans e3).trans e4).trans e5).trans e6).trans e7).trans e8).trans e9).trans e10).trans e11).trans e12).trans e13).trans e14)).trans (mk_mono y25)))) ok (.ref gt g1 0 0 1000 (.ref g2) rfl (mk_mono (e24.exc.trans e25.exc) _ _ (mk_at z23 h23)) (by decide) (by omega) (mk_mono (((e22.exc.trans e23.exc).trans e24.exc).trans e25.exc) _ _ (mk_at z21 h21)) (far2 _)) (show 1 ≤ 2 by decide) (.cons (.tup (st_of (mk_mono (e24.exc.trans e25.exc) _ _ (mk_at z23 h23))) (.cons (.int _) (.cons (.tup (st_of (mk_mono (((e22.exc.trans e23.exc).trans e24.exc).trans e25.exc) _ _ (mk_at z21 h21))) (.cons (.int _) (.cons (.int _) .nil))) (.cons (.tup (st_of (mk_mono ((e23.exc.trans e24.exc).trans e25.exc) _ _ (mk_at z22 h22))) (.cons (.int _) (.cons (.int _) .nil))) .nil)))) .nil) (by simp [tames, tame] <;> omega) (show 2 ≤ 10 by decide) (show 50 ≤ 1000 by decide) rfl⟩
    walk_at "go"
    refine v_app d25 (by simp) ?_
    refine g_put fun H26 e26 d26 => ?_
    have y26 : Exc D H14 H26 := y25.trans e26
    walk_at "go"
    refine ⟨ty_list d26, ?_⟩
    walk_at "go"
    refine w_new (by simp) fun i1 H27 n27 e27 h27 => ?_
    have z27 : i1 ≠ D := fun z => by rw [z, d26] at n27; cases n27
    have y27 : Exc D H14 H27 := y26.trans e27.exc
    have d27 := e27 _ _ d26
    walk_at "go"
    refine w_new (by simp) fun i2 H28 n28 e28 h28 => ?_
    have z28 : i2 ≠ D := fun z => by rw [z, d27] at n28; cases n28
    have y28 : Exc D H14 H28 := y27.trans e28.exc
    have d28 := e28 _ _ d27
    walk_at "go"
    refine w_new (by simp) fun i3 H29 n29 e29 h29 => ?_
    have z29 : i3 ≠ D := fun z => by rw [z, d28] at n29; cases n29
    have y29 : Exc D H14 H29 := y28.trans e29.exc
    have d29 := e29 _ _ d28
    walk_at "go"
    refine w_new (by simp) fun it H30 n30 e30 h30 => ?_
    have z30 : it ≠ D := fun z => by rw [z, d29] at n30; cases n30
    have y30 : Exc D H14 H30 := y29.trans e30.exc
    have d30 := e30 _ _ d29
    walk_at "go"
    refine w_new (by simp) fun i4 H31 n31 e31 h31 => ?_
    have z31 : i4 ≠ D := fun z => by rw [z, d30] at n31; cases n31
    have y31 : Exc D H14 H31 := y30.trans e31.exc
    have d31 := e31 _ _ d30
    walk_at "go"
    refine ⟨n, i4, gs, [.ref it], rfl, rfl, (y31 _ _ nD0 hnD), h31, Evl.sz_of (by rw [hlen]; simp; omega), fun i5 n32 => ?_⟩
    refine g_new n32 fun H32 e32 h32 => ?_
    have z32 : i5 ≠ D := fun z => by rw [z, d31] at n32; cases n32
    have y32 : Exc D H14 H32 := y31.trans e32.exc
    have d32 := e32 _ _ d31
    have t9 : ∃ d, Thing K (mk D H32) (W : Int) (.ref i5) d := ⟨_, thing_at (bds := [.tuple [.int 0, .tuple [.int 0, .int 1], .tuple [.int 0, .int 2], .tuple [.int 0, .int 3]]]) (bs := [.ref it]) (mk_mono exc_refl _ _ (mk_at z32 h32)) (hG.mono (tup_ex ((mk_ex nD00 (((((((((((((e1.trans e2).trans e3).trans e4).trans e5).trans e6).trans e7).trans e8).trans e9).trans e10).trans e11).trans e12).trans e13).trans e14)).trans (mk_mono y32)))) ok (by omega) hfew rfl (hG.mono (tup_ex ((mk_ex nD00 (((((((((((((e1.trans e2).trans e3).trans e4).trans e5).trans e6).trans e7).trans e8).trans e9).trans e10).trans e11).trans e12).trans e13).trans e14)).trans (mk_mono y32)))) ok (.size it _ rfl (mk_mono (e31.exc.trans e32.exc) _ _ (mk_at z30 h30)) (show 4 ≠ 3 by decide) (show 4 ≤ 1000 by decide)) (show 1 ≤ 2 by decide) (.cons (.tup (st_of (mk_mono (e31.exc.trans e32.exc) _ _ (mk_at z30 h30))) (.cons (.int _) (.cons (.tup (st_of (mk_mono ((((e28.exc.trans e29.exc).trans e30.exc).trans e31.exc).trans e32.exc) _ _ (mk_at z27 h27))) (.cons (.int _) (.cons (.int _) .nil))) (.cons (.tup (st_of (mk_mono (((e29.exc.trans e30.exc).trans e31.exc).trans e32.exc) _ _ (mk_at z28 h28))) (.cons (.int _) (.cons (.int _) .nil))) (.cons (.tup (st_of (mk_mono ((e30.exc.trans e31.exc).trans e32.exc) _ _ (mk_at z29 h29))) (.cons (.int _) (.cons (.int _) .nil))) .nil))))) .nil) (by simp [tames, tame] <;> omega) (show 2 ≤ 10 by decide) (show 69 ≤ 1000 by decide) rfl⟩
    walk_at "go"
    refine v_app d32 (by simp) ?_
    refine g_put fun H33 e33 d33 => ?_
    have y33 : Exc D H14 H33 := y32.trans e33
    walk_at "go"
    refine ⟨ty_list d33, ?_⟩
    walk_at "go"
    refine w_new (by simp) fun j1 H34 n34 e34 h34 => ?_
    have z34 : j1 ≠ D := fun z => by rw [z, d33] at n34; cases n34
    have y34 : Exc D H14 H34 := y33.trans e34.exc
    have d34 := e34 _ _ d33
    walk_at "go"
    refine w_new (by simp) fun j2 H35 n35 e35 h35 => ?_
    have z35 : j2 ≠ D := fun z => by rw [z, d34] at n35; cases n35
    have y35 : Exc D H14 H35 := y34.trans e35.exc
    have d35 := e35 _ _ d34
    walk_at "go"
    refine w_new (by simp) fun jt H36 n36 e36 h36 => ?_
    have z36 : jt ≠ D := fun z => by rw [z, d35] at n36; cases n36
    have y36 : Exc D H14 H36 := y35.trans e36.exc
    have d36 := e36 _ _ d35
    walk_at "go"
    refine w_new (by simp) fun j4 H37 n37 e37 h37 => ?_
    have z37 : j4 ≠ D := fun z => by rw [z, d36] at n37; cases n37
    have y37 : Exc D H14 H37 := y36.trans e37.exc
    have d37 := e37 _ _ d36
    walk_at "go"
    refine ⟨n, j4, gs, [.ref jt], rfl, rfl, (y37 _ _ nD0 hnD), h37, Evl.sz_of (by rw [hlen]; simp; omega), fun j5 n38 => ?_⟩
    refine g_new n38 fun H38 e38 h38 => ?_
    have z38 : j5 ≠ D := fun z => by rw [z, d37] at n38; cases n38
    have y38 : Exc D H14 H38 := y37.trans e38.exc
    have d38 := e38 _ _ d37
    have t10 : ∃ d, Thing K (mk D H38) (W : Int) (.ref j5) d := ⟨_, thing_at (bds := [.list [.int 0, .tuple [.int 0, .int 1], .tuple [.int 0, .int 2]]]) (bs := [.ref jt]) (mk_mono exc_refl _ _ (mk_at z38 h38)) (hG.mono (tup_ex ((mk_ex nD00 (((((((((((((e1.trans e2).trans e3).trans e4).trans e5).trans e6).trans e7).trans e8).trans e9).trans e10).trans e11).trans e12).trans e13).trans e14)).trans (mk_mono y38)))) ok (by omega) hfew rfl (hG.mono (tup_ex ((mk_ex nD00 (((((((((((((e1.trans e2).trans e3).trans e4).trans e5).trans e6).trans e7).trans e8).trans e9).trans e10).trans e11).trans e12).trans e13).trans e14)).trans (mk_mono y38)))) ok (.kind "list" (kn_lst (mk_mono (e37.exc.trans e38.exc) _ _ (mk_at z36 h36))) (by decide)) (show 1 ≤ 2 by decide) (.cons (.lst (sl_of (mk_mono (e37.exc.trans e38.exc) _ _ (mk_at z36 h36))) (.cons (.int _) (.cons (.tup (st_of (mk_mono (((e35.exc.trans e36.exc).trans e37.exc).trans e38.exc) _ _ (mk_at z34 h34))) (.cons (.int _) (.cons (.int _) .nil))) (.cons (.tup (st_of (mk_mono ((e36.exc.trans e37.exc).trans e38.exc) _ _ (mk_at z35 h35))) (.cons (.int _) (.cons (.int _) .nil))) .nil)))) .nil) (by simp [tames, tame] <;> omega) (show 2 ≤ 10 by decide) (show 49 ≤ 1000 by decide) rfl⟩
    walk_at "go"
    refine v_app d38 (by simp) ?_
    refine g_put fun H39 e39 d39 => ?_
    have y39 : Exc D H14 H39 := y38.trans e39
    walk_at "go"
    refine ⟨ty_list d39, ?_⟩
    walk_at "go"
    refine w_new (by simp) fun k1 H40 n40 e40 h40 => ?_
    have z40 : k1 ≠ D := fun z => by rw [z, d39] at n40; cases n40
    have y40 : Exc D H14 H40 := y39.trans e40.exc
    have d40 := e40 _ _ d39
    walk_at "go"
    refine w_new (by simp) fun k2 H41 n41 e41 h41 => ?_
    have z41 : k2 ≠ D := fun z => by rw [z, d40] at n41; cases n41
    have y41 : Exc D H14 H41 := y40.trans e41.exc
    have d41 := e41 _ _ d40
    walk_at "go"
    refine w_new (by simp) fun kt H42 n42 e42 h42 => ?_
    have z42 : kt ≠ D := fun z => by rw [z, d41] at n42; cases n42
    have y42 : Exc D H14 H42 := y41.trans e42.exc
    have d42 := e42 _ _ d41
    walk_at "go"
    refine w_new (by simp) fun l1 H43 n43 e43 h43 => ?_
    have z43 : l1 ≠ D := fun z => by rw [z, d42] at n43; cases n43
    have y43 : Exc D H14 H43 := y42.trans e43.exc
    have d43 := e43 _ _ d42
    walk_at "go"
    refine w_new (by simp) fun l2 H44 n44 e44 h44 => ?_
    have z44 : l2 ≠ D := fun z => by rw [z, d43] at n44; cases n44
    have y44 : Exc D H14 H44 := y43.trans e44.exc
    have d44 := e44 _ _ d43
    walk_at "go"
    refine w_new (by simp) fun lt H45 n45 e45 h45 => ?_
    have z45 : lt ≠ D := fun z => by rw [z, d44] at n45; cases n45
    have y45 : Exc D H14 H45 := y44.trans e45.exc
    have d45 := e45 _ _ d44
    walk_at "go"
    refine w_new (by simp) fun l4 H46 n46 e46 h46 => ?_
    have z46 : l4 ≠ D := fun z => by rw [z, d45] at n46; cases n46
    have y46 : Exc D H14 H46 := y45.trans e46.exc
    have d46 := e46 _ _ d45
    walk_at "go"
    refine ⟨n, l4, gs, [.ref kt, .ref lt], rfl, rfl, (y46 _ _ nD0 hnD), h46, Evl.sz_of (by rw [hlen]; simp; omega), fun l5 n47 => ?_⟩
    refine g_new n47 fun H47 e47 h47 => ?_
    have z47 : l5 ≠ D := fun z => by rw [z, d46] at n47; cases n47
    have y47 : Exc D H14 H47 := y46.trans e47.exc
    have d47 := e47 _ _ d46
    have okm : okG (W : Int) (G ++ [⟨0, (0, 1), (0, 2)⟩]) := ok.snoc ⟨by decide, by show (0 : Int) < W; omega, .inl ⟨rfl, by decide, by decide⟩, .inl ⟨rfl, by decide, by decide⟩⟩
    have hGm : Nds (mk D H47) (gs ++ [.ref kt]) (G ++ [⟨0, (0, 1), (0, 2)⟩]) := nds_snoc (hG.mono (tup_ex ((mk_ex nD00 (((((((((((((e1.trans e2).trans e3).trans e4).trans e5).trans e6).trans e7).trans e8).trans e9).trans e10).trans e11).trans e12).trans e13).trans e14)).trans (mk_mono y47)))) ⟨kt, .ref k1, .ref k2, rfl, (mk_mono ((((e43.exc.trans e44.exc).trans e45.exc).trans e46.exc).trans e47.exc) _ _ (mk_at z42 h42)), ⟨k1, rfl, (mk_mono ((((((e41.exc.trans e42.exc).trans e43.exc).trans e44.exc).trans e45.exc).trans e46.exc).trans e47.exc) _ _ (mk_at z40 h40))⟩, ⟨k2, rfl, (mk_mono (((((e42.exc.trans e43.exc).trans e44.exc).trans e45.exc).trans e46.exc).trans e47.exc) _ _ (mk_at z41 h41))⟩⟩
    have t11 : ∃ d, Thing K (mk D H47) (W : Int) (.ref l5) d := ⟨_, thing_at (bds := [.tuple [.int 0, .tuple [.int 0, .int 1], .tuple [.int 0, .int 2]], .tuple [.int 0, .tuple [.int 1, .int (gs.length : Int)], .tuple [.int 0, .int 2]]]) (bs := [.ref kt, .ref lt]) (gs' := gs ++ [.ref kt]) (b := .ref lt) (rest := []) (mk_mono exc_refl _ _ (mk_at z47 h47)) (hG.mono (tup_ex ((mk_ex nD00 (((((((((((((e1.trans e2).trans e3).trans e4).trans e5).trans e6).trans e7).trans e8).trans e9).trans e10).trans e11).trans e12).trans e13).trans e14)).trans (mk_mono y47)))) ok (by omega) hfew (by simp) hGm okm (.back lt l1 0 (gs.length : Int) (.ref l2) ⟨0, (0, 1), (0, 2)⟩ rfl (mk_mono (e46.exc.trans e47.exc) _ _ (mk_at z45 h45)) (by decide) (by omega) (mk_mono (((e44.exc.trans e45.exc).trans e46.exc).trans e47.exc) _ _ (mk_at z43 h43)) (by omega) (by rw [List.length_append, hlen]; show _ < ((G.length + 1 : Nat) : Int); omega) (by rw [hlen, Int.toNat_natCast, List.getElem?_append_right (Nat.le_refl _), Nat.sub_self]; rfl) (by decide)) (show 2 ≤ 2 by decide) (.cons (.tup (st_of (mk_mono ((((e43.exc.trans e44.exc).trans e45.exc).trans e46.exc).trans e47.exc) _ _ (mk_at z42 h42))) (.cons (.int _) (.cons (.tup (st_of (mk_mono ((((((e41.exc.trans e42.exc).trans e43.exc).trans e44.exc).trans e45.exc).trans e46.exc).trans e47.exc) _ _ (mk_at z40 h40))) (.cons (.int _) (.cons (.int _) .nil))) (.cons (.tup (st_of (mk_mono (((((e42.exc.trans e43.exc).trans e44.exc).trans e45.exc).trans e46.exc).trans e47.exc) _ _ (mk_at z41 h41))) (.cons (.int _) (.cons (.int _) .nil))) .nil)))) (.cons (.tup (st_of (mk_mono (e46.exc.trans e47.exc) _ _ (mk_at z45 h45))) (.cons (.int _) (.cons (.tup (st_of (mk_mono (((e44.exc.trans e45.exc).trans e46.exc).trans e47.exc) _ _ (mk_at z43 h43))) (.cons (.int _) (.cons (.int _) .nil))) (.cons (.tup (st_of (mk_mono ((e45.exc.trans e46.exc).trans e47.exc) _ _ (mk_at z44 h44))) (.cons (.int _) (.cons (.int _) .nil))) .nil)))) .nil)) (by simp [tames, tame] <;> omega) (show 2 ≤ 10 by decide) (show 100 ≤ 1000 by decide) rfl⟩
    walk_at "go"
    refine v_app d47 (by simp) ?_
    refine g_put fun H48 e48 d48 => ?_
    have y48 : Exc D H14 H48 := y47.trans e48
    walk_at "go"
    refine ⟨ty_list d48, ?_⟩
    walk_at "go"
    refine w_dec (fun hw => ?_) (fun hw => ?_)
    · walk_at "go"
      refine w_new (by simp) fun m1 H49 n49 e49 h49 => ?_
      have z49 : m1 ≠ D := fun z => by rw [z, d48] at n49; cases n49
      have y49 : Exc D H14 H49 := y48.trans e49.exc
      have d49 := e49 _ _ d48
      walk_at "go"
      refine w_new (by simp) fun m2 H50 n50 e50 h50 => ?_
      have z50 : m2 ≠ D := fun z => by rw [z, d49] at n50; cases n50
      have y50 : Exc D H14 H50 := y49.trans e50.exc
      have d50 := e50 _ _ d49
      walk_at "go"
      refine w_new (by simp) fun mt H51 n51 e51 h51 => ?_
      have z51 : mt ≠ D := fun z => by rw [z, d50] at n51; cases n51
      have y51 : Exc D H14 H51 := y50.trans e51.exc
      have d51 := e51 _ _ d50
      walk_at "go"
      refine w_new (by simp) fun m4 H52 n52 e52 h52 => ?_
      have z52 : m4 ≠ D := fun z => by rw [z, d51] at n52; cases n52
      have y52 : Exc D H14 H52 := y51.trans e52.exc
      have d52 := e52 _ _ d51
      walk_at "go"
      refine ⟨n, m4, gs, [.ref mt], rfl, rfl, (y52 _ _ nD0 hnD), h52, Evl.sz_of (by rw [hlen]; simp; omega), fun m5 n53 => ?_⟩
      refine g_new n53 fun H53 e53 h53 => ?_
      have z53 : m5 ≠ D := fun z => by rw [z, d52] at n53; cases n53
      have y53 : Exc D H14 H53 := y52.trans e53.exc
      have d53 := e53 _ _ d52
      have t12 : ∃ d, Thing K (mk D H53) (W : Int) (.ref m5) d := ⟨_, thing_at (bds := [.tuple [.bool true, .tuple [.int 0, .int 1], .tuple [.int 0, .int 2]]]) (bs := [.ref mt]) (mk_mono exc_refl _ _ (mk_at z53 h53)) (hG.mono (tup_ex ((mk_ex nD00 (((((((((((((e1.trans e2).trans e3).trans e4).trans e5).trans e6).trans e7).trans e8).trans e9).trans e10).trans e11).trans e12).trans e13).trans e14)).trans (mk_mono y53)))) ok (by omega) hfew rfl (hG.mono (tup_ex ((mk_ex nD00 (((((((((((((e1.trans e2).trans e3).trans e4).trans e5).trans e6).trans e7).trans e8).trans e9).trans e10).trans e11).trans e12).trans e13).trans e14)).trans (mk_mono y53)))) ok (.place mt _ _ _ "bool" rfl (mk_mono (e52.exc.trans e53.exc) _ _ (mk_at z51 h51)) kn_bl rfl) (show 1 ≤ 2 by decide) (.cons (.tup (st_of (mk_mono (e52.exc.trans e53.exc) _ _ (mk_at z51 h51))) (.cons (.bl _) (.cons (.tup (st_of (mk_mono (((e50.exc.trans e51.exc).trans e52.exc).trans e53.exc) _ _ (mk_at z49 h49))) (.cons (.int _) (.cons (.int _) .nil))) (.cons (.tup (st_of (mk_mono ((e51.exc.trans e52.exc).trans e53.exc) _ _ (mk_at z50 h50))) (.cons (.int _) (.cons (.int _) .nil))) .nil)))) .nil) (by simp [tames, tame] <;> omega) (show 2 ≤ 10 by decide) (show 50 ≤ 1000 by decide) rfl⟩
      walk_at "go"
      walk_at "go"
      refine v_app d53 (by simp) ?_
      refine g_put fun H54 e54 d54 => ?_
      have y54 : Exc D H14 H54 := y53.trans e54
      walk_at "go"
      refine q D _ H54 nD00 (fun b o hb => y54 b o (fun z => by rw [z, nD00] at hb; cases hb) ((((((((((((((e1.trans e2).trans e3).trans e4).trans e5).trans e6).trans e7).trans e8).trans e9).trans e10).trans e11).trans e12).trans e13).trans e14) b o hb)) d54 (fun v hv => ?_) (by simp)
      have m0 : Ex H13 (mk D H54) := (mk_ex nD e14).trans (mk_mono y54)
      simp only [List.mem_append, List.mem_cons, List.not_mem_nil, or_false, or_assoc] at hv
      rcases hv with rfl | rfl | rfl | rfl | rfl | rfl | rfl | rfl | rfl | rfl | rfl | rfl | rfl
      · exact ⟨.none, .other "NoneType" kn_non (by decide) (by decide) (.inr .non) ⟨rfl, by decide, by decide⟩⟩
      · exact ⟨.str "01", .other "str" kn_str (by decide) (by decide) (.inr (.str _)) ⟨rfl, by decide, by decide +kernel⟩⟩
      · exact ⟨.dict [], .other "dict" (kn_dK (((((((((((((e2.trans e3).trans e4).trans e5).trans e6).trans e7).trans e8).trans e9).trans e10).trans e11).trans e12).trans e13).trans m0) _ _ h1)) (by decide) (by decide) (.inr (.emp (((((((((((((e2.trans e3).trans e4).trans e5).trans e6).trans e7).trans e8).trans e9).trans e10).trans e11).trans e12).trans e13).trans m0) _ _ h1))) ⟨rfl, by decide, by decide⟩⟩
      · exact ⟨.int 7, .other "int" kn_int (by decide) (by decide) (.inr (.int _)) ⟨rfl, by decide, by decide⟩⟩
      · exact t4.imp fun _ t => t.extn (Ex.n ((((((((((e4.trans e5).trans e6).trans e7).trans e8).trans e9).trans e10).trans e11).trans e12).trans e13).trans m0))
      · exact t5.imp fun _ t => t.extn (Ex.n (((((e9.trans e10).trans e11).trans e12).trans e13).trans m0))
      · exact t6.imp fun _ t => t.extn (Ex.n (ex_refl.trans m0))
      · exact t7.imp fun _ t => t.extn (Ex.n (mk_mono ((((((((((((((((((((((((((((((((((e20.trans e21.exc).trans e22.exc).trans e23.exc).trans e24.exc).trans e25.exc).trans e26).trans e27.exc).trans e28.exc).trans e29.exc).trans e30.exc).trans e31.exc).trans e32.exc).trans e33).trans e34.exc).trans e35.exc).trans e36.exc).trans e37.exc).trans e38.exc).trans e39).trans e40.exc).trans e41.exc).trans e42.exc).trans e43.exc).trans e44.exc).trans e45.exc).trans e46.exc).trans e47.exc).trans e48).trans e49.exc).trans e50.exc).trans e51.exc).trans e52.exc).trans e53.exc).trans e54)))
      · exact t8.imp fun _ t => t.extn (Ex.n (mk_mono ((((((((((((((((((((((((((((e26.trans e27.exc).trans e28.exc).trans e29.exc).trans e30.exc).trans e31.exc).trans e32.exc).trans e33).trans e34.exc).trans e35.exc).trans e36.exc).trans e37.exc).trans e38.exc).trans e39).trans e40.exc).trans e41.exc).trans e42.exc).trans e43.exc).trans e44.exc).trans e45.exc).trans e46.exc).trans e47.exc).trans e48).trans e49.exc).trans e50.exc).trans e51.exc).trans e52.exc).trans e53.exc).trans e54)))
      · exact t9.imp fun _ t => t.extn (Ex.n (mk_mono (((((((((((((((((((((e33.trans e34.exc).trans e35.exc).trans e36.exc).trans e37.exc).trans e38.exc).trans e39).trans e40.exc).trans e41.exc).trans e42.exc).trans e43.exc).trans e44.exc).trans e45.exc).trans e46.exc).trans e47.exc).trans e48).trans e49.exc).trans e50.exc).trans e51.exc).trans e52.exc).trans e53.exc).trans e54)))
      · exact t10.imp fun _ t => t.extn (Ex.n (mk_mono (((((((((((((((e39.trans e40.exc).trans e41.exc).trans e42.exc).trans e43.exc).trans e44.exc).trans e45.exc).trans e46.exc).trans e47.exc).trans e48).trans e49.exc).trans e50.exc).trans e51.exc).trans e52.exc).trans e53.exc).trans e54)))
      · exact t11.imp fun _ t => t.extn (Ex.n (mk_mono ((((((e48.trans e49.exc).trans e50.exc).trans e51.exc).trans e52.exc).trans e53.exc).trans e54)))
      · exact t12.imp fun _ t => t.extn (Ex.n (mk_mono e54))
    · walk_at "go"
      refine w_new (by simp) fun m1 H49 n49 e49 h49 => ?_
      have z49 : m1 ≠ D := fun z => by rw [z, d48] at n49; cases n49
      have y49 : Exc D H14 H49 := y48.trans e49.exc
      have d49 := e49 _ _ d48
      walk_at "go"
      refine w_new (by simp) fun m2 H50 n50 e50 h50 => ?_
      have z50 : m2 ≠ D := fun z => by rw [z, d49] at n50; cases n50
      have y50 : Exc D H14 H50 := y49.trans e50.exc
      have d50 := e50 _ _ d49
      walk_at "go"
      refine w_new (by simp) fun mt H51 n51 e51 h51 => ?_
      have z51 : mt ≠ D := fun z => by rw [z, d50] at n51; cases n51
      have y51 : Exc D H14 H51 := y50.trans e51.exc
      have d51 := e51 _ _ d50
      walk_at "go"
      refine w_new (by simp) fun m4 H52 n52 e52 h52 => ?_
      have z52 : m4 ≠ D := fun z => by rw [z, d51] at n52; cases n52
      have y52 : Exc D H14 H52 := y51.trans e52.exc
      have d52 := e52 _ _ d51
      walk_at "go"
      refine ⟨n, m4, gs, [.ref mt], rfl, rfl, (y52 _ _ nD0 hnD), h52, Evl.sz_of (by rw [hlen]; simp; omega), fun m5 n53 => ?_⟩
      refine g_new n53 fun H53 e53 h53 => ?_
      have z53 : m5 ≠ D := fun z => by rw [z, d52] at n53; cases n53
      have y53 : Exc D H14 H53 := y52.trans e53.exc
      have d53 := e53 _ _ d52
      have t12 : ∃ d, Thing K (mk D H53) (W : Int) (.ref m5) d := ⟨_, thing_at (bds := [.tuple [.int 1, .tuple [.int 0, .int 1], .tuple [.int 0, .int 2]]]) (bs := [.ref mt]) (mk_mono exc_refl _ _ (mk_at z53 h53)) (hG.mono (tup_ex ((mk_ex nD00 (((((((((((((e1.trans e2).trans e3).trans e4).trans e5).trans e6).trans e7).trans e8).trans e9).trans e10).trans e11).trans e12).trans e13).trans e14)).trans (mk_mono y53)))) ok (by omega) hfew rfl (hG.mono (tup_ex ((mk_ex nD00 (((((((((((((e1.trans e2).trans e3).trans e4).trans e5).trans e6).trans e7).trans e8).trans e9).trans e10).trans e11).trans e12).trans e13).trans e14)).trans (mk_mono y53)))) ok (.place mt _ _ _ "int" rfl (mk_mono (e52.exc.trans e53.exc) _ _ (mk_at z51 h51)) kn_int (by rw [within_int, Bool.and_eq_false_iff]; exact .inr (decide_eq_false (by omega)))) (show 1 ≤ 2 by decide) (.cons (.tup (st_of (mk_mono (e52.exc.trans e53.exc) _ _ (mk_at z51 h51))) (.cons (.int _) (.cons (.tup (st_of (mk_mono (((e50.exc.trans e51.exc).trans e52.exc).trans e53.exc) _ _ (mk_at z49 h49))) (.cons (.int _) (.cons (.int _) .nil))) (.cons (.tup (st_of (mk_mono ((e51.exc.trans e52.exc).trans e53.exc) _ _ (mk_at z50 h50))) (.cons (.int _) (.cons (.int _) .nil))) .nil)))) .nil) (by simp [tames, tame] <;> omega) (show 2 ≤ 10 by decide) (show 50 ≤ 1000 by decide) rfl⟩
      walk_at "go"
      walk_at "go"
      refine v_app d53 (by simp) ?_
      refine g_put fun H54 e54 d54 => ?_
      have y54 : Exc D H14 H54 := y53.trans e54
      walk_at "go"
      refine q D _ H54 nD00 (fun b o hb => y54 b o (fun z => by rw [z, nD00] at hb; cases hb) ((((((((((((((e1.trans e2).trans e3).trans e4).trans e5).trans e6).trans e7).trans e8).trans e9).trans e10).trans e11).trans e12).trans e13).trans e14) b o hb)) d54 (fun v hv => ?_) (by simp)
      have m0 : Ex H13 (mk D H54) := (mk_ex nD e14).trans (mk_mono y54)
      simp only [List.mem_append, List.mem_cons, List.not_mem_nil, or_false, or_assoc] at hv
      rcases hv with rfl | rfl | rfl | rfl | rfl | rfl | rfl | rfl | rfl | rfl | rfl | rfl | rfl
      · exact ⟨.none, .other "NoneType" kn_non (by decide) (by decide) (.inr .non) ⟨rfl, by decide, by decide⟩⟩
      · exact ⟨.str "01", .other "str" kn_str (by decide) (by decide) (.inr (.str _)) ⟨rfl, by decide, by decide +kernel⟩⟩
      · exact ⟨.dict [], .other "dict" (kn_dK (((((((((((((e2.trans e3).trans e4).trans e5).trans e6).trans e7).trans e8).trans e9).trans e10).trans e11).trans e12).trans e13).trans m0) _ _ h1)) (by decide) (by decide) (.inr (.emp (((((((((((((e2.trans e3).trans e4).trans e5).trans e6).trans e7).trans e8).trans e9).trans e10).trans e11).trans e12).trans e13).trans m0) _ _ h1))) ⟨rfl, by decide, by decide⟩⟩
      · exact ⟨.int 7, .other "int" kn_int (by decide) (by decide) (.inr (.int _)) ⟨rfl, by decide, by decide⟩⟩
      · exact t4.imp fun _ t => t.extn (Ex.n ((((((((((e4.trans e5).trans e6).trans e7).trans e8).trans e9).trans e10).trans e11).trans e12).trans e13).trans m0))
      · exact t5.imp fun _ t => t.extn (Ex.n (((((e9.trans e10).trans e11).trans e12).trans e13).trans m0))
      · exact t6.imp fun _ t => t.extn (Ex.n (ex_refl.trans m0))
      · exact t7.imp fun _ t => t.extn (Ex.n (mk_mono ((((((((((((((((((((((((((((((((((e20.trans e21.exc).trans e22.exc).trans e23.exc).trans e24.exc).trans e25.exc).trans e26).trans e27.exc).trans e28.exc).trans e29.exc).trans e30.exc).trans e31.exc).trans e32.exc).trans e33).trans e34.exc).trans e35.exc).trans e36.exc).trans e37.exc).trans e38.exc).trans e39).trans e40.exc).trans e41.exc).trans e42.exc).trans e43.exc).trans e44.exc).trans e45.exc).trans e46.exc).trans e47.exc).trans e48).trans e49.exc).trans e50.exc).trans e51.exc).trans e52.exc).trans e53.exc).trans e54)))
      · exact t8.imp fun _ t => t.extn (Ex.n (mk_mono ((((((((((((((((((((((((((((e26.trans e27.exc).trans e28.exc).trans e29.exc).trans e30.exc).trans e31.exc).trans e32.exc).trans e33).trans e34.exc).trans e35.exc).trans e36.exc).trans e37.exc).trans e38.exc).trans e39).trans e40.exc).trans e41.exc).trans e42.exc).trans e43.exc).trans e44.exc).trans e45.exc).trans e46.exc).trans e47.exc).trans e48).trans e49.exc).trans e50.exc).trans e51.exc).trans e52.exc).trans e53.exc).trans e54)))
      · exact t9.imp fun _ t => t.extn (Ex.n (mk_mono (((((((((((((((((((((e33.trans e34.exc).trans e35.exc).trans e36.exc).trans e37.exc).trans e38.exc).trans e39).trans e40.exc).trans e41.exc).trans e42.exc).trans e43.exc).trans e44.exc).trans e45.exc).trans e46.exc).trans e47.exc).trans e48).trans e49.exc).trans e50.exc).trans e51.exc).trans e52.exc).trans e53.exc).trans e54)))
      · exact t10.imp fun _ t => t.extn (Ex.n (mk_mono (((((((((((((((e39.trans e40.exc).trans e41.exc).trans e42.exc).trans e43.exc).trans e44.exc).trans e45.exc).trans e46.exc).trans e47.exc).trans e48).trans e49.exc).trans e50.exc).trans e51.exc).trans e52.exc).trans e53.exc).trans e54)))
      · exact t11.imp fun _ t => t.extn (Ex.n (mk_mono ((((((e48.trans e49.exc).trans e50.exc).trans e51.exc).trans e52.exc).trans e53.exc).trans e54)))
      · exact t12.imp fun _ t => t.extn (Ex.n (mk_mono e54))
end
end K37
namespace K37
open PySem PySem.Spec PyProof.Rows L2 LW SX M37
def errs : List (Str × Str) := [("BadGraph", "graph"), ("BadAddress", "address"), ("BadWidth", "width")]
section
variable {P : Program} {w : World} {K : PySem.W.Frag} {mg : Str → Option Value} {base : Heap}
theorem errs_apart (T : Txt K mg) : ∀ p ∈ errs, ∀ p' ∈ errs, PySem.W.exmOne K (.ref (He.ga K p.1)) (.ref (He.ga K p'.1)) = some (decide (p = p')) := by
  intro p hp p' hp'
  simp only [errs, List.mem_cons, List.not_mem_nil, or_false] at hp hp'
  rcases hp with rfl | rfl | rfl <;> rcases hp' with rfl | rfl | rfl <;> first
    | exact T.m_BadGraph_BadGraph | exact T.m_BadGraph_BadAddress | exact T.m_BadGraph_BadWidth
    | exact T.m_BadAddress_BadGraph | exact T.m_BadAddress_BadAddress | exact T.m_BadAddress_BadWidth
    | exact T.m_BadWidth_BadGraph | exact T.m_BadWidth_BadAddress | exact T.m_BadWidth_BadWidth
theorem refused_gives {X : Cx} (T : Txt X.K X.mg) {g : Addr} {cdg : Value} {q : Str} :
    LamX.GivesTo X ["ask", "e"] "_law_refused" (defScope s__law_refused) g cdg (defBody s__law_refused) "ask" q (TTref X.K errs .non) := by
  intro f c' s H Q tl act hc h
  refine ⟨_, (pss_cons (ps_try_named rfl rfl sc__law_refused.nd LamX.takes0 (fun W pn xe tk _ => pss_one (ps_expr (LW.pe_actW (W := fun c d σ H => σ.length = 2 → W c d σ H) fun E hW => act (fun c d σ H => σ.length = 2 → W c d σ H) pn xe E _ _ (LW.takes_len tk) hW))) (NamedOk.cons (i := 1) ⟨(by rfl), by decide, .inl T.g_BadGraph⟩ rfl rfl (fun a oe cls d pn hz hf => pss_one (ps_ret (LW.pe_tp (pa_cons pe_str (pa_cons (pe_xf T.e_BadGraph.t.xf T.e_BadGraph.t.no hz hf (pe_var (i := 1) rfl (Or.inl rfl))) pa_nil))))) (NamedOk.cons (i := 1) ⟨(by rfl), by decide, .inl T.g_BadAddress⟩ rfl rfl (fun a oe cls d pn hz hf => pss_one (ps_ret (LW.pe_tp (pa_cons pe_str (pa_cons (pe_xf T.e_BadAddress.t.xf T.e_BadAddress.t.no hz hf (pe_var (i := 1) rfl (Or.inl rfl))) pa_nil))))) (NamedOk.cons (i := 1) ⟨(by rfl), by decide, .inl T.g_BadWidth⟩ rfl rfl (fun a oe cls d pn hz hf => pss_one (ps_ret (LW.pe_tp (pa_cons pe_str (pa_cons (pe_xf T.e_BadWidth.t.xf T.e_BadWidth.t.no hz hf (pe_var (i := 1) rfl (Or.inl rfl))) pa_nil))))) NamedOk.nil))))
    (pss_one (ps_ret (LW.pe_tp (pa_cons pe_str (pa_cons pe_non pa_nil)))))), ?_⟩
  walk_at "go"
  refine ⟨refX X.K errs Q, fun cls d σ' H' h hl => ?_, rfl, hc, ?_⟩
  · obtain ⟨p, dd, v, hp, rfl, rfl, hd, hq⟩ := h
    exact wNamed_ref (D := { nx := _, rt := Q }) hl (errs_apart T) (fun _ h => h) ⟨p, dd, v, hp, hp, rfl, rfl, hd, hq⟩
  · exact h
end
end K37
namespace K37
open PySem PySem.Spec PyProof.Rows L2 LW SX
section
variable {P : Program} {w : World} {K : PySem.W.Frag} {mg : Str → Option Value} {base : Heap}
theorem ok_is_integer (T : Txt K mg) : Dk P w K mg base (L2.CX P w) 1 "is_integer" (spIsInteger K) := by
  obtain ⟨fd, F⟩ := T.f_is_integer
  refine ⟨_, fd, ["thing"], F.ok sc_is_integer (fun vs H Q E h => ?_) (fun cdv A outer s H vs Q E hr h => ⟨_, (pss_one (ps_ret (pe_and (pe_callB LW.c_isi (by rfl) T.b_isinstance (by decide +kernel) (pa_cons (pv 0) (pa_cons (pe_bltn (v := .ty "int") (by rfl) T.b_int (by decide +kernel) rfl) pa_nil))) (pe_one (pe_not (pe_callB LW.c_isi (by rfl) T.b_isinstance (by decide +kernel) (pa_cons (pv 0) (pa_cons (pe_bltn (v := .ty "bool") (by rfl) T.b_bool (by decide +kernel) rfl) pa_nil)))))))), ?_⟩), T.g_is_integer, F.kp, F.bindsN fun _ _ _ _ _ _ us hl => match us, hl with | [_], _ => rfl⟩
  · obtain ⟨x, n, rfl, _⟩ := h
    rfl
  · obtain ⟨x, n, rfl, hk, q⟩ := h
    walk_at "go"
    refine v_isi (T := "int") hk (by decide) ?_
    walk_at "go"
    refine w_ite (fun hb => ?_) (fun hb => ?_)
    · walk_at "go"
      refine v_isi (T := "bool") hk (by decide) ?_
      walk_at "go"
      rw [← isK_int n hk.2 hb]
      exact q
    · have e : (n == "int") = false := by
        cases h1 : (n == "int") with
        | false => rfl
        | true => unfold isK at hb; rw [h1] at hb; cases hb
      rw [← e]
      exact q
theorem ok_is_within (T : Txt K mg) (D_is_integer : Dk P w K mg base (L2.CX P w) 1 "is_integer" (spIsInteger K)) : Dk P w K mg base (L2.CX P w) 2 "is_within" (spWithin K) := by
  obtain ⟨fd, F⟩ := T.f_is_within
  refine ⟨_, fd, ["thing", "least", "most"], F.ok sc_is_within (fun vs H Q E h => ?_) (fun cdv A outer s H vs Q E hr h => ⟨_, (pss_one (ps_ret (pe_and (LW.pe_d D_is_integer hr (by omega) (by rfl) passL (pa_cons (pv 0) pa_nil)) (pe_one (pe_chain LW.o_le LW.o_le (pv 1) (pv 0) (pv 2)))))), ?_⟩), T.g_is_within, F.kp, F.bindsN fun _ _ _ _ _ _ us hl => match us, hl with | [_, _, _], _ => rfl⟩
  · obtain ⟨x, n, lo, hi, rfl, _⟩ := h
    rfl
  · obtain ⟨x, n, lo, hi, rfl, hk, q⟩ := h
    walk_at "go"
    refine ⟨x, n, rfl, hk, ?_⟩
    walk_at "go"
    refine w_ite (fun hb => ?_) (fun hb => ?_)
    · have e := beq_iff_eq.mp hb
      subst e
      obtain ⟨i, rfl⟩ := kn_int_inv hk
      walk_at "go"
      refine w_dec (fun h1 => ?_) (fun h1 => ?_)
      · walk_at "go"
        have e2 : within (.int i) lo hi = decide (i ≤ hi) := by simp [within, h1]
        rw [← e2]
        exact q
      · have e2 : within (.int i) lo hi = false := by simp [within, h1]
        rw [← e2]
        exact q
    · have e2 : within x lo hi = false := by
        cases x with
        | int i => rw [kn_of_int hk] at hb; cases hb
        | _ => rfl
      rw [← e2]
      exact q
theorem ok_is_bits (T : Txt K mg) : Dk P w K mg base (L2.CX P w) 1 "is_bits" (spBits K) := by
  obtain ⟨fd, F⟩ := T.f_is_bits
  refine ⟨_, fd, ["thing", "most"], F.ok sc_is_bits (fun vs H Q E h => ?_) (fun cdv A outer s H vs Q E hr h => ⟨_, (pss_one (ps_ret (pe_and (pe_callB LW.c_isi (by rfl) T.b_isinstance (by decide +kernel) (pa_cons (pv 0) (pa_cons (pe_bltn (v := .ty "str") (by rfl) T.b_str (by decide +kernel) rfl) pa_nil))) (pe_and (pe_cmpR LW.o_le (pe_callB LW.c_lenS (by rfl) T.b_len (by decide +kernel) (pa_cons (pv 0) pa_nil)) (pv 1) (nomark _)) (pe_one (pe_callB (LW.c_all rfl) (by rfl) T.b_all (by decide +kernel) (pa_cons (pe_lc (own := [("sign", 2)]) (by rfl) sc_is_bits.nd (pi_str (pv 0)) (blkOk_by (own := [("sign", 2)]) (N := ["thing", "most", "sign"]) (sc := defScope s_is_bits) (by decide +kernel)) (fun _ _ _ _ _ => (pg_name (i := 2) sc_is_bits.nd rfl (Or.inl rfl))) (fun _ _ _ _ _ => pts_nil) (fun _ _ _ _ _ => (pe_cmpR LW.o_inS (pv 2) pe_str (by rfl)))) pa_nil))))))), ?_⟩), T.g_is_bits, F.kp, F.bindsN fun _ _ _ _ _ _ us hl => match us, hl with | [_, _], _ => rfl⟩
  · obtain ⟨x, n, m, rfl, _⟩ := h
    rfl
  · obtain ⟨x, n, m, rfl, hk, hz, q⟩ := h
    walk_at "go"
    refine v_isi (T := "str") hk (by decide) ?_
    walk_at "go"
    refine w_ite (fun hb => ?_) (fun hb => ?_)
    · have e : n = "str" := by
        unfold isK at hb
        simpa using hb
      subst e
      obtain ⟨z, rfl⟩ := kn_str_inv hk
      have hl := hz z rfl
      walk_at "go"
      refine v_lenS hl ?_
      walk_at "go"
      refine w_dec (fun h1 => ?_) (fun h1 => ?_)
      · walk_at "go"
        refine ⟨_, rfl, fun D nD => lc_map walk_str (fun i => .bl (isBit (z.cps.toList.getD i 0))) hl nD (fun _ _ => True.intro) (fun i x H1 H2 hi e1 y R hR => ?_) (fun H1 e1 hD => ?_)⟩
        · obtain ⟨rfl, c, hc, rfl⟩ := y
          walk_at "go"
          refine ⟨rfl, ?_⟩
          walk_at "go"
          have e : z.cps.toList.getD i 0 = c := by simp [hc]
          rw [in01, ← e]
          exact hR _ ex_refl
        · walk_at "go"
          have e : (List.range z.cps.size).map (fun i => V.bl (isBit (z.cps.toList.getD i 0))) = (z.cps.toList.map isBit).map V.bl := by
            have := map_at z.cps.toList (fun c => V.bl (isBit c))
            rw [Array.length_toList] at this
            rw [this, List.map_map]
            rfl
          rw [e] at hD
          refine v_all (sl_of hD) ?_
          have e2 : bits (.str z) m = (z.cps.toList.map isBit).all id := by simp [bits, h1]
          rw [← e2]
          exact q H1 e1
      · have e2 : bits (.str z) m = false := by simp [bits, h1]
        rw [← e2]
        exact q H ex_refl
    · have e2 : bits x m = false := by
        cases x with
        | str i => rw [kn_of_str hk] at hb; cases hb
        | _ => rfl
      rw [← e2]
      exact q H ex_refl
end
end K37
namespace K37
open PySem PySem.Spec PyProof.Rows L2 LW SX
section
variable {P : Program} {w : World} {K : PySem.W.Frag} {mg : Str → Option Value} {base : Heap}
theorem ok__law_taken (T : Txt K mg) : Dk P w K mg base (L2.CX P w) 1 "_law_taken" (spTaken K) := by
  obtain ⟨fd, F⟩ := T.f__law_taken
  refine ⟨_, fd, ["row", "many"], F.ok sc__law_taken (fun vs H Q E h => ?_) (fun cdv A outer s H vs Q E hr h => ⟨_, (pss_cons (ps_if (pt_cmpR LW.o_gt (pe_ix LW.ix_list (pv 0) pe_int (fun _ _ => rfl)) pe_int (nomark _))
    (pss_cons (ps_set (i := 2) sc__law_taken.nd rfl (Or.inl rfl) (pe_op LW.o_mod (pe_callTy LW.c_int (by rfl) T.b_int (by decide +kernel) (pa_cons (pe_ix LW.ix_list (pv 0) pe_int (fun _ _ => rfl)) pa_nil)) (pv 1)))
    (pss_cons (ps_asg (pe_op LW.o_fdiv (pe_ix LW.ix_list (pv 0) pe_int (fun _ _ => rfl)) (pv 1)) (pg_sub (pv 0) pe_int LW.set_l))
    (pss_one (ps_ret (pv 2))))) pss_nil)
    (pss_cons (ps_asg (pe_op LW.o_add (pe_ix LW.ix_list (pv 0) pe_int (fun _ _ => rfl)) pe_int) (pg_sub (pv 0) pe_int LW.set_l))
    (pss_cons (ps_if (pt_cmpR LW.o_gt (pe_ix LW.ix_list (pv 0) pe_int (fun _ _ => rfl)) (pe_callB LW.c_lenQ (by rfl) T.b_len (by decide +kernel) (pa_cons (pe_ix LW.ix_list (pv 0) pe_int (fun _ _ => rfl)) pa_nil)) (nomark _))
    (pss_cons (ps_asg (pe_op LW.o_mod (pe_callTy LW.c_int (by rfl) T.b_int (by decide +kernel) (pa_cons (pe_op LW.o_add (pe_op LW.o_mul (pe_ix LW.ix_list (pv 0) pe_int (fun _ _ => rfl)) pe_int) pe_int) pa_nil)) pe_int) (pg_sub (pv 0) pe_int LW.set_l))
    (pss_one (ps_ret (pe_op LW.o_mod (pe_callTy LW.c_int (by rfl) T.b_int (by decide +kernel) (pa_cons (pe_op LW.o_fdiv (pe_ix LW.ix_list (pv 0) pe_int (fun _ _ => rfl)) pe_int) pa_nil)) (pv 1))))) pss_nil)
    (pss_cons (ps_set (i := 3) sc__law_taken.nd rfl (Or.inl rfl) (pe_ix LW.ix_list (pe_ix LW.ix_list (pv 0) pe_int (fun _ _ => rfl)) (pe_op LW.o_sub (pe_ix LW.ix_list (pv 0) pe_int (fun _ _ => rfl)) pe_int) (fun _ _ => rfl)))
    (pss_cons (ps_asg (pe_op LW.o_mod (pe_callTy LW.c_int (by rfl) T.b_int (by decide +kernel) (pa_cons (pe_op LW.o_add (pe_op LW.o_add (pe_op LW.o_mul (pe_ix LW.ix_list (pv 0) pe_int (fun _ _ => rfl)) pe_int) (pv 3)) pe_int) pa_nil)) pe_int) (pg_sub (pv 0) pe_int LW.set_l))
    (pss_cons (ps_if (pt_cmpR LW.o_ge (pv 3) (pe_op LW.o_pow pe_int pe_int) (nomark _))
    (pss_one (ps_asg (pe_op LW.o_fdiv (pv 3) (pv 1)) (pg_sub (pv 0) pe_int LW.set_l))) pss_nil)
    (pss_one (ps_ret (pe_op LW.o_mod (pe_callTy LW.c_int (by rfl) T.b_int (by decide +kernel) (pa_cons (pv 3) pa_nil)) (pv 1)))))))))), ?_⟩), T.g__law_taken, F.kp, F.bindsN fun _ _ _ _ _ _ us hl => match us, hl with | [_, _], _ => rfl⟩
  · obtain ⟨r, sc, many, rfl, _⟩ := h
    rfl
  · obtain ⟨r, ⟨a, ns⟩, many, rfl, ⟨i, m, c, R⟩, h0, h62, q⟩ := h
    obtain ⟨hr0, sq, few, i0, m0, c0⟩ := R
    have pos : (0 : Int) < many := by omega
    have lt64 : (0 : Int) < many ∧ (many : Int) < 2 ^ 64 := ⟨pos, by omega⟩
    have modN : ∀ z : Int, ∃ v : Nat, z % many = (v : Int) ∧ v < many := fun z => ⟨(z % many).toNat, by rw [Int.toNat_of_nonneg (Int.emod_nonneg _ (by omega))], by have := Int.emod_nonneg z (show (many : Int) ≠ 0 by omega); have := Int.emod_lt_of_pos z pos; omega⟩
    walk_at "go"
    refine v_ixL (sl_of hr0) (show _ = some (.int c) by rfl) ?_
    walk_at "go"
    refine w_dec (fun hc => ?_) (fun hc => ?_)
    · walk_at "go"
      refine v_ixL (sl_of hr0) (show _ = some (.int c) by rfl) ?_
      walk_at "go"
      refine v_mod pos ?_
      walk_at "go"
      refine v_ixL (sl_of hr0) (show _ = some (.int c) by rfl) ?_
      walk_at "go"
      refine v_divS lt64 ?_
      walk_at "go"
      refine v_setL hr0 (show _ = some 3 by rfl) ?_
      refine g_put fun H1 e1 h1 => ?_
      walk_at "go"
      obtain ⟨v, e, hv⟩ := modN c
      rw [e]
      exact q v H1 hv e1 ⟨i, m, c / many, h1, row_sq sq hr0 e1, few, i0, m0, Int.ediv_nonneg c0 (by omega)⟩
    · walk_at "go"
      refine v_ixL (sl_of hr0) (show _ = some (.int i) by rfl) ?_
      walk_at "go"
      refine v_setL hr0 (show _ = some 1 by rfl) ?_
      refine g_put fun H1 e1 h1 => ?_
      have sq1 := row_sq sq hr0 e1
      walk_at "go"
      refine v_ixL (sl_of h1) (show _ = some (.int (i + 1)) by rfl) ?_
      walk_at "go"
      refine v_ixL (sl_of h1) (show _ = some (.ref a) by rfl) ?_
      walk_at "go"
      refine v_lenL sq1 ?_
      walk_at "go"
      refine w_dec (fun hi => ?_) (fun hi => ?_)
      · walk_at "go"
        refine v_ixL (sl_of h1) (show _ = some (.int m) by rfl) ?_
        walk_at "go"
        refine v_mulS (by omega) (by omega) ?_
        walk_at "go"
        refine v_mod (by omega) ?_
        walk_at "go"
        refine v_setL h1 (show _ = some 2 by rfl) ?_
        refine g_put fun H2 e2 h2 => ?_
        walk_at "go"
        refine v_ixL (sl_of h2) (show _ = some (.int ((m * 48271 + 11) % 2147483647)) by rfl) ?_
        walk_at "go"
        refine v_divS (by omega) ?_
        walk_at "go"
        refine v_mod pos ?_
        obtain ⟨v, e, hv⟩ := modN ((m * 48271 + 11) % 2147483647 / 7)
        rw [e]
        exact q v H2 hv (e1.trans e2) ⟨i + 1, (m * 48271 + 11) % 2147483647, c, h2, row_sq sq1 h1 e2, few, by omega, by omega, c0⟩
      · walk_at "go"
        refine v_ixL (sl_of h1) (show _ = some (.ref a) by rfl) ?_
        walk_at "go"
        refine v_ixL (sl_of h1) (show _ = some (.int (i + 1)) by rfl) ?_
        walk_at "go"
        rw [List.length_map] at hi
        obtain ⟨z, hz⟩ : ∃ z, ns[i.toNat]? = some z := ⟨_, List.getElem?_eq_getElem (by omega)⟩
        have ei : (i + 1 - 1 : Int) = (i.toNat : Int) := by omega
        rw [ei]
        refine v_ixL sq1 (atI_nat (v := .int z) (by rw [List.getElem?_map, hz]; rfl)) ?_
        walk_at "go"
        refine v_ixL (sl_of h1) (show _ = some (.int m) by rfl) ?_
        walk_at "go"
        refine v_mulS (by omega) (by omega) ?_
        walk_at "go"
        refine v_mod (by omega) ?_
        walk_at "go"
        refine v_setL h1 (show _ = some 2 by rfl) ?_
        refine g_put fun H2 e2 h2 => ?_
        have sq2 := row_sq sq1 h1 e2
        have m2 := Int.emod_nonneg (m * 48271 + z + 11) (show (2147483647 : Int) ≠ 0 by decide)
        have m3 := Int.emod_lt_of_pos (m * 48271 + z + 11) (show (0 : Int) < 2147483647 by decide)
        obtain ⟨v, e, hv⟩ := modN z
        walk_at "go"
        refine v_I (C := CPow) (show CPow 10 18 from ⟨by decide, by decide, by decide⟩) ?_
        walk_at "go"
        refine w_dec (fun hz => ?_) (fun hz => ?_)
        · walk_at "go"
          refine v_divS lt64 ?_
          walk_at "go"
          refine v_setL h2 (show _ = some 3 by rfl) ?_
          refine g_put fun H3 e3 h3 => ?_
          walk_at "go"
          refine v_mod pos ?_
          rw [e]
          exact q v H3 hv ((e1.trans e2).trans e3) ⟨i + 1, _, z / many, h3, row_sq sq2 h2 e3, few, by omega, ⟨m2, m3⟩, Int.ediv_nonneg (Int.le_trans (by decide +kernel) hz) (by omega)⟩
        · walk_at "go"
          refine v_mod pos ?_
          rw [e]
          exact q v H2 hv (e1.trans e2) ⟨i + 1, _, c, h2, sq2, few, by omega, ⟨m2, m3⟩, c0⟩
theorem ok__law_pick (T : Txt K mg) (D__law_taken : Dk P w K mg base (L2.CX P w) 1 "_law_taken" (spTaken K)) : Dk P w K mg base (L2.CX P w) 2 "_law_pick" (spPick K) := by
  obtain ⟨fd, F⟩ := T.f__law_pick
  refine ⟨_, fd, ["row", "some"], F.ok sc__law_pick (fun vs H Q E h => ?_) (fun cdv A outer s H vs Q E hr h => ⟨_, (pss_one (ps_ret (pe_ix LW.ix_lt (pv 1) (LW.pe_d D__law_taken hr (by omega) (by rfl) passL (pa_cons (pv 0) (pa_cons (pe_callB LW.c_lenQ (by rfl) T.b_len (by decide +kernel) (pa_cons (pv 1) pa_nil)) pa_nil))) (fun _ _ => rfl)))), ?_⟩), T.g__law_pick, F.kp, F.bindsN fun _ _ _ _ _ _ us hl => match us, hl with | [_, _], _ => rfl⟩
  · obtain ⟨r, l, sc, ys, rfl, _⟩ := h
    rfl
  · obtain ⟨r, l, sc, ys, rfl, hrow, hl, hne, hlen, q⟩ := h
    have h0 : 0 < ys.length := List.length_pos_iff.mpr hne
    have go : ∀ (v : Nat) H', v < ys.length → Exc r H H' → RowOk K sc H' r → rIxL K (.ref l) (.int (v : Int)) H' Q ∨ rIxT K (.ref l) (.int (v : Int)) H' Q := fun v H' hv e ro => by
      obtain ⟨y, hy⟩ : ∃ y, ys[v]? = some y := ⟨_, List.getElem?_eq_getElem hv⟩
      have hm := List.mem_of_getElem? hy
      rcases hl with ⟨hl, ne⟩ | hl
      · exact .inl (v_ixL (sl_of (e l _ ne hl)) (atI_nat hy) (q y hm H' e ro))
      · exact .inr (v_ixT (st_of (hrow.keep e hl (fun _ z => by cases z))) (atI_nat hy) (q y hm H' e ro))
    walk_at "go"
    have hl2 : SqL K H l ys ∨ SqT K H l ys := by
      rcases hl with ⟨hl, _⟩ | hl
      · exact .inl (sl_of hl)
      · exact .inr (st_of hl)
    refine ⟨l, ys, rfl, hl2, ?_⟩
    walk_at "go"
    exact ⟨r, sc, ys.length, rfl, hrow, h0, by omega, go⟩
end
end K37
namespace K37
open PySem PySem.Spec PyProof.Rows L2 LW SX
section
variable {P : Program} {w : World} {K : PySem.W.Frag} {mg : Str → Option Value} {base : Heap}
theorem alike_step (T : Txt K mg) (n : Nat) (D__law_alike : Dk P w K mg base (L2.CX P w) n "_law_alike" (spAlike K n)) : Dk P w K mg base (L2.CX P w) (n + 1) "_law_alike" (spAlike K (n + 1)) := by
  obtain ⟨fd, F⟩ := T.f__law_alike
  refine ⟨_, fd, ["found", "due"], F.ok sc__law_alike (fun vs H Q E h => ?_) (fun cdv A outer s H vs Q E hr h => ⟨_, (pss_cons (ps_if (pt_val (pe_callB LW.c_isiT (by rfl) T.b_isinstance (by decide +kernel) (pa_cons (pv 1) (pa_cons (LW.pe_tp (pa_cons (pe_bltn (v := .ty "tuple") (by rfl) T.b_tuple (by decide +kernel) rfl) (pa_cons (pe_bltn (v := .ty "list") (by rfl) T.b_list (by decide +kernel) rfl) pa_nil))) pa_nil))))
    (pss_cons (ps_if (PW.pt (pw_or (pt_not (pt_val (pe_callB LW.c_isiT (by rfl) T.b_isinstance (by decide +kernel) (pa_cons (pv 0) (pa_cons (LW.pe_tp (pa_cons (pe_bltn (v := .ty "tuple") (by rfl) T.b_tuple (by decide +kernel) rfl) (pa_cons (pe_bltn (v := .ty "list") (by rfl) T.b_list (by decide +kernel) rfl) pa_nil))) pa_nil))))) (pw_or1 (pt_cmpR LW.o_ne (pe_callB LW.c_isi (by rfl) T.b_isinstance (by decide +kernel) (pa_cons (pv 0) (pa_cons (pe_bltn (v := .ty "list") (by rfl) T.b_list (by decide +kernel) rfl) pa_nil))) (pe_callB LW.c_isi (by rfl) T.b_isinstance (by decide +kernel) (pa_cons (pv 1) (pa_cons (pe_bltn (v := .ty "list") (by rfl) T.b_list (by decide +kernel) rfl) pa_nil))) (nomark _)))))
    (pss_one (ps_ret pe_bl)) pss_nil)
    (pss_cons (ps_if (pt_cmpR LW.o_ne (pe_callB LW.c_lenQ (by rfl) T.b_len (by decide +kernel) (pa_cons (pv 0) pa_nil)) (pe_callB LW.c_lenQ (by rfl) T.b_len (by decide +kernel) (pa_cons (pv 1) pa_nil)) (nomark _))
    (pss_one (ps_ret pe_bl)) pss_nil)
    (pss_one (ps_ret (pe_cmpR (LW.o_dEq hr.units) (pe_lc (own := [("k", 2)]) (by rfl) sc__law_alike.nd (pi_range1 (by rfl) T.b_range (pa_cons (pe_callB LW.c_lenQ (by rfl) T.b_len (by decide +kernel) (pa_cons (pv 1) pa_nil)) pa_nil)) (blkOk_by (own := [("k", 2)]) (N := ["found", "due", "k", "key"]) (sc := defScope s__law_alike) (by decide +kernel)) (fun _ _ _ _ _ => (pg_name (i := 2) sc__law_alike.nd rfl (Or.inl rfl))) (fun _ _ _ _ _ => (pts_one (pt_not (pt_val (LW.pe_d D__law_alike hr (by omega) (by rfl) passL (pa_cons (pe_ix (LW.ix_ltK (K := K)) (pv 0) (pv 2) (fun _ _ => rfl)) (pa_cons (pe_ix (LW.ix_ltK (K := K)) (pv 1) (pv 2) (fun _ _ => rfl)) pa_nil))))))) (fun _ _ _ _ _ => (pv 2))) (LW.pe_ls pa_nil) (nomark _)))))) pss_nil)
    (pss_cons (ps_if (pt_val (pe_callB LW.c_isi (by rfl) T.b_isinstance (by decide +kernel) (pa_cons (pv 1) (pa_cons (pe_bltn (v := .ty "dict") (by rfl) T.b_dict (by decide +kernel) rfl) pa_nil))))
    (pss_cons (ps_if (PW.pt (pw_or (pt_not (pt_val (pe_callB LW.c_isi (by rfl) T.b_isinstance (by decide +kernel) (pa_cons (pv 0) (pa_cons (pe_bltn (v := .ty "dict") (by rfl) T.b_dict (by decide +kernel) rfl) pa_nil))))) (pw_or1 (pt_cmpR (LW.o_dNe hr.units) (pe_callTy LW.c_list (by rfl) T.b_list (by decide +kernel) (pa_cons (pv 0) pa_nil)) (pe_callTy LW.c_list (by rfl) T.b_list (by decide +kernel) (pa_cons (pv 1) pa_nil)) (nomark _)))))
    (pss_one (ps_ret pe_bl)) pss_nil)
    (pss_one (ps_ret (pe_cmpR (LW.o_dEq hr.units) (pe_lc (own := [("key", 3)]) (by rfl) sc__law_alike.nd (pi_list (pv 1)) (blkOk_by (own := [("key", 3)]) (N := ["found", "due", "k", "key"]) (sc := defScope s__law_alike) (by decide +kernel)) (fun _ _ _ _ _ => (pg_name (i := 3) sc__law_alike.nd rfl (Or.inl rfl))) (fun _ _ _ _ _ => (pts_one (pt_not (pt_val (LW.pe_d D__law_alike hr (by omega) (by rfl) passL (pa_cons (pe_ix (LW.ix_ltK (K := K)) (pv 0) (pv 3) (fun _ _ => rfl)) (pa_cons (pe_ix (LW.ix_ltK (K := K)) (pv 1) (pv 3) (fun _ _ => rfl)) pa_nil))))))) (fun _ _ _ _ _ => (pv 3))) (LW.pe_ls pa_nil) (nomark _))))) pss_nil)
    (pss_cons (ps_if (PW.pt (pw_or (pt_cmpR LW.o_isN (pv 1) pe_non (by rfl)) (pw_or1 (pt_val (pe_callB LW.c_isi (by rfl) T.b_isinstance (by decide +kernel) (pa_cons (pv 1) (pa_cons (pe_bltn (v := .ty "str") (by rfl) T.b_str (by decide +kernel) rfl) pa_nil)))))))
    (pss_one (ps_ret (pe_and (pe_cmpR LW.o_eq (pv 0) (pv 1) (nomark _)) (pe_one (pe_cmpR LW.o_eq (pe_callB LW.c_isi (by rfl) T.b_isinstance (by decide +kernel) (pa_cons (pv 0) (pa_cons (pe_bltn (v := .ty "str") (by rfl) T.b_str (by decide +kernel) rfl) pa_nil))) (pe_callB LW.c_isi (by rfl) T.b_isinstance (by decide +kernel) (pa_cons (pv 1) (pa_cons (pe_bltn (v := .ty "str") (by rfl) T.b_str (by decide +kernel) rfl) pa_nil))) (nomark _)))))) pss_nil)
    (pss_one (ps_ret (pe_and (pe_callB LW.c_isi (by rfl) T.b_isinstance (by decide +kernel) (pa_cons (pv 0) (pa_cons (pe_bltn (v := .ty "int") (by rfl) T.b_int (by decide +kernel) rfl) pa_nil))) (pe_and (pe_cmpR LW.o_eq (pe_callB LW.c_isi (by rfl) T.b_isinstance (by decide +kernel) (pa_cons (pv 0) (pa_cons (pe_bltn (v := .ty "bool") (by rfl) T.b_bool (by decide +kernel) rfl) pa_nil))) (pe_callB LW.c_isi (by rfl) T.b_isinstance (by decide +kernel) (pa_cons (pv 1) (pa_cons (pe_bltn (v := .ty "bool") (by rfl) T.b_bool (by decide +kernel) rfl) pa_nil))) (nomark _)) (pe_one (pe_cmpR LW.o_eq (pv 0) (pv 1) (nomark _)))))))))), ?_⟩), T.g__law_alike, F.kp, F.bindsN fun _ _ _ _ _ _ us hl => match us, hl with | [_, _], _ => rfl⟩
  · obtain ⟨x, y, d, rfl, _⟩ := h
    rfl
  · obtain ⟨x, y, d, rfl, hx, hy, hd, q⟩ := h
    have kind : (∃ (nm : String) (a b : Addr) (xs ys : List V) (ds : List PyData) (n' : Nat), (nm = "list" ∨ nm = "tuple") ∧ Kn K H (.ref a) nm ∧ Kn K H (.ref b) nm ∧ (SqL K H a xs ∨ SqT K H a xs) ∧ (SqL K H b ys ∨ SqT K H b ys) ∧
        DpAll K H xs ds ∧ DpAll K H ys ds ∧ n = n' + 1 ∧ ds.length ≤ 100000 ∧ okds n' ds = true ∧ x = .ref a ∧ y = .ref b) ∨ (x = .non ∧ y = .non) ∨ (∃ z, x = .str z ∧ y = .str z) ∨ (∃ z, x = .int z ∧ y = .int z) ∨ (∃ z, x = .bl z ∧ y = .bl z) := by
      cases d with
      | none =>
        cases hx
        cases hy
        exact .inr (.inl ⟨rfl, rfl⟩)
      | str z =>
        cases hx
        cases hy
        exact .inr (.inr (.inl ⟨_, rfl, rfl⟩))
      | int z =>
        cases hx
        cases hy
        exact .inr (.inr (.inr (.inl ⟨_, rfl, rfl⟩)))
      | bool z =>
        cases hx
        cases hy
        exact .inr (.inr (.inr (.inr ⟨_, rfl, rfl⟩)))
      | list ds =>
        cases n with
        | zero => cases hd
        | succ n' =>
          simp only [okd, Bool.and_eq_true, decide_eq_true_eq] at hd
          cases hx with
          | lst sa da =>
            cases hy with
            | lst sb db => exact .inl ⟨"list", _, _, _, _, ds, n', .inl rfl, kn_sqL sa, kn_sqL sb, .inl sa, .inl sb, da, db, rfl, hd.1, hd.2, rfl, rfl⟩
      | tuple ds =>
        cases n with
        | zero => cases hd
        | succ n' =>
          simp only [okd, Bool.and_eq_true, decide_eq_true_eq] at hd
          cases hx with
          | tup sa da =>
            cases hy with
            | tup sb db => exact .inl ⟨"tuple", _, _, _, _, ds, n', .inr rfl, kn_sqT sa, kn_sqT sb, .inr sa, .inr sb, da, db, rfl, hd.1, hd.2, rfl, rfl⟩
      | dict ds => cases hx
    rcases kind with ⟨nm, a, b, xs, ys, ds, n', hnm, ka, kb, sa, sb, da, db, rfl, hlen, hok, rfl, rfl⟩ | ⟨rfl, rfl⟩ | ⟨z, rfl, rfl⟩ | ⟨z, rfl, rfl⟩ | ⟨z, rfl, rfl⟩
    · have lx := dpAll_len da
      have ly := dpAll_len db
      walk_at "go"
      refine w_new (by simp) fun p H1 np e1 hp => ?_
      walk_at "go"
      refine v_isiT (up_k e1 kb) (by decide) (by decide) hp ?_
      have ht : (isK nm "tuple" || isK nm "list") = true := by rcases hnm with rfl | rfl <;> rfl
      rw [ht]
      walk_at "go"
      refine w_new (by simp) fun p2 H2 np2 e2 hp2 => ?_
      walk_at "go"
      refine v_isiT (up_k (e1.trans e2) ka) (by decide) (by decide) hp2 ?_
      rw [ht]
      refine v_bl ?_
      refine iteF' ?_
      walk_at "go"
      refine v_isi (T := "list") (up_k (e1.trans e2) ka) (by decide) ?_
      walk_at "go"
      refine v_isi (T := "list") (up_k (e1.trans e2) kb) (by decide) ?_
      walk_at "go"
      refine w_ndec (fun z => absurd rfl z) (fun _ => ?_)
      walk_at "go"
      have up : ∀ {H' : Hp} {c : Addr} {zs : List V}, Ex H H' → (SqL K H c zs ∨ SqT K H c zs) → (SqL K H' c zs ∨ SqT K H' c zs) := fun e h => h.elim (fun h => .inl (up_l e h)) fun h => .inr (up_t e h)
      have e12 := e1.trans e2
      refine ⟨a, xs, rfl, up e12 sa, ?_⟩
      walk_at "go"
      refine ⟨b, ys, rfl, up e12 sb, ?_⟩
      walk_at "go"
      refine w_ndec (fun z => absurd (by rw [lx, ly]) z) (fun _ => ?_)
      walk_at "go"
      refine ⟨b, ys, rfl, up e12 sb, ?_⟩
      walk_at "go"
      refine ⟨_, rfl, by omega, by omega, fun D nD => ?_⟩
      rw [Int.toNat_natCast]
      refine lc_filter walk_range (fun _ => false) (fun _ => .non) (by omega) nD (fun _ _ => True.intro) (fun i x H3 H4 hi e3 y R hR1 hR2 => ?_) (fun H3 e3 hD => ?_)
      · obtain ⟨rfl, rfl⟩ := y
        obtain ⟨d, hd⟩ : ∃ d, ds[i]? = some d := ⟨_, List.getElem?_eq_getElem (by omega)⟩
        obtain ⟨u, hu, du⟩ := dpAll_at da hd
        obtain ⟨u2, hu2, du2⟩ := dpAll_at db hd
        have e13 := e12.trans e3
        have ix : ∀ {c : Addr} {zs : List V} {v : V} {Q : VK}, (SqL K H c zs ∨ SqT K H c zs) → zs[i]? = some v → Q v H4 → rIxLT K (.ref c) (.int (0 + (i : Nat))) H4 Q := fun h hv hQ => by
          rw [Int.zero_add]
          rcases up e13 h with h | h
          · exact .inl (v_ixL h (atI_nat hv) hQ)
          · exact .inr (v_ixT h (atI_nat hv) hQ)
        walk_at "go"
        refine ⟨rfl, ?_⟩
        walk_at "go"
        refine ix sa hu ?_
        walk_at "go"
        refine ix sb hu2 ?_
        walk_at "go"
        refine ⟨u, u2, d, rfl, up_d e13 _ _ du, up_d e13 _ _ du2, okds_mem hok d (List.mem_of_getElem? hd), fun H5 e5 => ?_⟩
        walk_at "go"
        exact hR2 _ e5 rfl
      · have e : ((List.range ys.length).filter fun _ => false) = [] := List.filter_eq_nil_iff.mpr (fun _ _ z => by cases z)
        rw [e] at hD
        walk_at "go"
        refine w_new (by simp) fun p3 H4 np3 e4 hp3 => ?_
        walk_at "go"
        refine ⟨.list [], .list [], .lst (sl_of (e4 _ _ hD)) .nil, .lst (sl_of hp3) .nil, by decide, by decide, ?_⟩
        exact q H4 ((e12.trans e3).trans e4)
    · walk_at "go"
      refine w_new (by simp) fun p H1 np e1 hp => ?_
      walk_at "go"
      refine v_isiT (T := "tuple") (U := "list") kn_non (by decide) (by decide) hp ?_
      refine v_bl ?_
      refine iteF' ?_
      walk_at "go"
      refine v_isi (T := "dict") kn_non (by decide) ?_
      refine v_bl ?_
      refine iteF' ?_
      walk_at "go"
      refine w_dec (fun _ => ?_) (fun z => absurd rfl z)
      walk_at "go"
      refine ⟨rfl, ?_⟩
      refine v_bl ?_
      refine w_dec (fun _ => ?_) (fun z => absurd rfl z)
      walk_at "go"
      refine v_isi (T := "str") kn_non (by decide) ?_
      walk_at "go"
      refine v_isi (T := "str") kn_non (by decide) ?_
      walk_at "go"
      exact q H1 e1
    · walk_at "go"
      refine w_new (by simp) fun p H1 np e1 hp => ?_
      walk_at "go"
      refine v_isiT (T := "tuple") (U := "list") kn_str (by decide) (by decide) hp ?_
      refine v_bl ?_
      refine iteF' ?_
      walk_at "go"
      refine v_isi (T := "dict") kn_str (by decide) ?_
      refine v_bl ?_
      refine iteF' ?_
      walk_at "go"
      refine w_dec (fun z => by cases z) (fun _ => ?_)
      walk_at "go"
      refine v_isi (T := "str") kn_str (by decide) ?_
      refine v_bl ?_
      refine iteT' ?_
      walk_at "go"
      refine w_dec (fun _ => ?_) (fun z => absurd rfl z)
      walk_at "go"
      refine v_isi (T := "str") kn_str (by decide) ?_
      walk_at "go"
      refine v_isi (T := "str") kn_str (by decide) ?_
      walk_at "go"
      exact q H1 e1
    · walk_at "go"
      refine w_new (by simp) fun p H1 np e1 hp => ?_
      walk_at "go"
      refine v_isiT (T := "tuple") (U := "list") kn_int (by decide) (by decide) hp ?_
      refine v_bl ?_
      refine iteF' ?_
      walk_at "go"
      refine v_isi (T := "dict") kn_int (by decide) ?_
      refine v_bl ?_
      refine iteF' ?_
      walk_at "go"
      refine w_dec (fun z => by cases z) (fun _ => ?_)
      walk_at "go"
      refine v_isi (T := "str") kn_int (by decide) ?_
      refine v_bl ?_
      refine iteF' ?_
      walk_at "go"
      refine v_isi (T := "int") kn_int (by decide) ?_
      refine v_bl ?_
      refine iteT' ?_
      walk_at "go"
      refine v_isi (T := "bool") kn_int (by decide) ?_
      walk_at "go"
      refine v_isi (T := "bool") kn_int (by decide) ?_
      walk_at "go"
      refine w_dec (fun _ => ?_) (fun z => absurd rfl z)
      walk_at "go"
      rw [decide_eq_true rfl]
      exact q H1 e1
    · walk_at "go"
      refine w_new (by simp) fun p H1 np e1 hp => ?_
      walk_at "go"
      refine v_isiT (T := "tuple") (U := "list") kn_bl (by decide) (by decide) hp ?_
      refine v_bl ?_
      refine iteF' ?_
      walk_at "go"
      refine v_isi (T := "dict") kn_bl (by decide) ?_
      refine v_bl ?_
      refine iteF' ?_
      walk_at "go"
      refine w_dec (fun z => by cases z) (fun _ => ?_)
      walk_at "go"
      refine v_isi (T := "str") kn_bl (by decide) ?_
      refine v_bl ?_
      refine iteF' ?_
      walk_at "go"
      refine v_isi (T := "int") kn_bl (by decide) ?_
      refine v_bl ?_
      refine iteT' ?_
      walk_at "go"
      refine v_isi (T := "bool") kn_bl (by decide) ?_
      walk_at "go"
      refine v_isi (T := "bool") kn_bl (by decide) ?_
      walk_at "go"
      refine w_dec (fun _ => ?_) (fun z => absurd rfl z)
      walk_at "go"
      rw [decide_eq_true rfl]
      exact q H1 e1
theorem alike_all (T : Txt K mg) : ∀ n, Dk P w K mg base (L2.CX P w) n "_law_alike" (spAlike K n)
  | 0 => by
    obtain ⟨fd, F⟩ := T.f__law_alike
    exact ⟨_, fd, ["found", "due"], ⟨fun _ _ _ _ h => h.elim, fun _ _ _ _ _ _ _ _ _ _ _ _ _ h => h.elim⟩, T.g__law_alike, F.kp, F.bindsN fun _ _ _ _ _ _ us hl => match us, hl with | [_, _], _ => rfl⟩
  | n + 1 => alike_step T n (alike_all T n)
end
end K37
namespace K37
open PySem PySem.Spec PyProof.Rows L2 LW SX M37
abbrev lamT (K : PySem.W.Frag) : List (Addr × Str) := [((He.cT K ("law", none)).2, (("law" : Str) ++ (".<locals>." : Str)) ++ ("<lambda>" : Str))]
section
variable {P : Program} {w : World} {K : PySem.W.Frag} {mg : Str → Option Value} {base : Heap}
theorem tabs_put {T : List (Addr × Str)} {H H' : Hp} {l : Addr} {ys : List V} (t : LamX.Tabs T H) (hl : H l = some (.lst ys)) (e : Exc l H H') : LamX.Tabs T H' := fun p hp => by
  obtain ⟨ps, h1, h2, h3⟩ := t p hp
  refine ⟨ps, e _ _ (fun z => by rw [z, hl] at h1; cases h1) h1, h2, fun pos cv hc => ?_⟩
  obtain ⟨c, e1, e2⟩ := h3 pos cv hc
  exact ⟨c, e1, e _ _ (fun z => by rw [z, hl] at e2; cases e2) e2⟩
theorem graph_put {K : PySem.W.Frag} {H H' : Hp} {l g : Addr} {ys : List V} {W : Nat} {G : Gr} {st : Rf} (h : GrAt K H g W G st) (hl : H l = some (.lst ys)) (e : Exc l H H') : GrAt K H' g W G st := by
  obtain ⟨dx, fs, t, rs, sv, h1, h2, h3, h4, h5, h6, h7⟩ := h.ins
  exact ⟨⟨dx, fs, t, rs, sv, e _ _ (fun z => by rw [z, hl] at h1; cases h1) h1, h2, h3, h4, tup_put hl e _ _ h5, h6.mono (tup_put hl e), h7.mono (tup_put hl e)⟩, h.ok, h.st, h.w, h.few⟩
theorem lam_ref2 {Good : V → Hp → Prop} {H : Hp} {σ : L2.St} {TT : List (Addr × Str)} {L : List (Str × Str)} {end_ : V} {tl : XK → TE} {Q : VK} {word : Str} (hT : LamX.Tabs TT H)
    (hcall : ∀ H1, ExtN H H1 → LamX.Tabs TT H1 → ∀ R Q' : VK, (∀ v t H3, Ex H1 H3 → H3 t = some (.tup [.str word, v]) → Good v H3 → R (.ref t) H3) → tl (refX K L R) σ H1 Q')
    (q : ∀ v t H', ExtN H H' → LamX.Tabs TT H' → H' t = some (.tup [.str word, v]) → Good v H' → Q (.ref t) H') : LamX.tLam TT (TTref K L end_) tl σ H Q :=
  ⟨hT, fun H1 e1 t1 => hcall H1 e1 t1 Q _ fun v t H3 e3 h3 g => q v t H3 (e1.trans e3.n) (t1.ext e3) h3 g⟩
theorem refV_dT {H : Hp} {v : V} {r : Rf} (h : refV H v r) : DpT K H v (refD r) := by
  obtain ⟨q, rfl, a⟩ := h
  exact .tup (st_of a) (.cons (.int _) (.cons (.int _) .nil))
theorem refV_sd {H : Hp} {v : V} {r : Rf} (h : refV H v r) : Sd K H v (refD r) := .inl ⟨h.dp, rfl⟩
/-- ("graph", (thing, start)), two data of one kind -/
theorem sd_two {H : Hp} {t tt : Addr} {z : Str} {v sv : V} {d : PyData} {r : Rf} (h1 : H t = some (.tup [.str z, .ref tt])) (h2 : H tt = some (.tup [v, sv])) (hd : Sd K H v d) (hs : refV H sv r) : Sd K H (.ref t) (.tuple [.str z, .tuple [d, refD r]]) := by
  rcases hd with ⟨hd, nd⟩ | hd
  · refine .inl ⟨.tup (st_of h1) (.cons (.str _) (.cons (.tup (st_of h2) (.cons hd (.cons hs.dp .nil))) .nil)), ?_⟩
    show (false || ((d.hasDict || ((refD r).hasDict || false)) || false)) = false
    rw [nd]
    rfl
  · exact .inr (.tup (st_of h1) (.cons (.str _) (.cons (.tup (st_of h2) (.cons hd (.cons (refV_dT hs) .nil))) .nil)))
/-- .. of two data without dicts -/
theorem sd_flat {H : Hp} {t tt : Addr} {z : Str} {v sv : V} {d e : PyData} (h1 : H t = some (.tup [.str z, .ref tt])) (h2 : H tt = some (.tup [v, sv])) (hd : Dp K H v d) (he : Dp K H sv e) (nd : d.hasDict = false) (ne : e.hasDict = false) : Sd K H (.ref t) (.tuple [.str z, .tuple [d, e]]) := by
  refine .inl ⟨.tup (st_of h1) (.cons (.str _) (.cons (.tup (st_of h2) (.cons hd (.cons he .nil))) .nil)), ?_⟩
  show (false || ((d.hasDict || (e.hasDict || false)) || false)) = false
  rw [nd, ne]
  rfl
/-- a start that is none -/
inductive OddAt (K : PySem.W.Frag) (H : Hp) (many : Int) : V → PyData → Prop
  | kind {v : V} {d : PyData} (n : String) : Kn K H v n → n ≠ "tuple" → Dp K H v d → d.hasDict = false → slim d → OddAt K H many v d
  | size {a : Addr} {xs : List V} {d : PyData} : H a = some (.tup xs) → xs.length ≠ 2 → Dp K H (.ref a) d → d.hasDict = false → slim d → OddAt K H many (.ref a) d
  | ref {a : Addr} {k v : V} {m1 m2 : String} {d : PyData} : H a = some (.tup [k, v]) → Kn K H k m1 → Kn K H v m2 → refB k v many = false → Dp K H (.ref a) d → d.hasDict = false → slim d → OddAt K H many (.ref a) d
theorem OddAt.extn {H H' : Hp} {m : Int} {v : V} {d : PyData} (e : ExtN H H') (h : OddAt K H m v d) : OddAt K H' m v d := by
  cases h with
  | kind n k ne hd nd hs => exact .kind n (kn_extn e k) ne (extn_d e _ _ hd) nd hs
  | size ha hne hd nd hs => exact .size (tup_extn e _ _ ha) hne (extn_d e _ _ hd) nd hs
  | ref ha k1 k2 hr hd nd hs => exact .ref (tup_extn e _ _ ha) (kn_extn e k1) (kn_extn e k2) hr (extn_d e _ _ hd) nd hs
theorem OddAt.sd {H : Hp} {m : Int} {v : V} {d : PyData} (h : OddAt K H m v d) : Dp K H v d ∧ d.hasDict = false ∧ slim d := by
  cases h with
  | kind n k ne hd nd hs => exact ⟨hd, nd, hs⟩
  | size ha hne hd nd hs => exact ⟨hd, nd, hs⟩
  | ref ha k1 k2 hr hd nd hs => exact ⟨hd, nd, hs⟩
theorem okds_nodes : ∀ G : Gr, okds 2 (G.map ndD) = true
  | [] => rfl
  | nd :: G => by
    show (okd 2 (ndD nd) && okds 2 (G.map ndD)) = true
    rw [okds_nodes G]
    rfl
/-- the looks at an address told by its number -/
def looks (G : Gr) (st : Rf) (W k : Nat) : Nat := (wk G (bitsL k W) G.length st 0).2
theorem most_is {W : Nat} {G : Gr} {st : Rf} (ok : okG (W : Int) G) (hst : okRf G G.length (-1) st) {m : Nat} (h1 : ∀ j, j < 2 ^ W → looks G st W j ≤ m) (h2 : m = 0 ∨ ∃ j, m = looks G st W j) : m = dep G G.length st := by
  have up : m ≤ dep G G.length st := by
    rcases h2 with h | ⟨j, h⟩
    · omega
    · have := wk_le G (bitsL j W) G.length st 0
      unfold looks at h
      omega
  obtain ⟨l, l1, l2, _, l4⟩ := wk_ge ok G.length st (-1) (rank_live hst.live) (fun h => by
    rcases hst with ⟨z, _⟩ | ⟨_, h0, _, nd, e, hp⟩
    · rw [h] at z; cases z
    · exact ⟨h0, nd, e, hp⟩) (List.replicate W 48) 0 (by simp) (fun c hc => .inl (List.eq_of_mem_replicate hc))
  have lb : l.all isBit = true := List.all_eq_true.mpr fun c hc => by
    rcases l2 c hc with z | z <;> rw [z] <;> rfl
  obtain ⟨k, hk, e⟩ := all_told l lb
  rw [l1] at hk e
  have := h1 k hk
  unfold looks at this
  rw [e, l4] at this
  omega
theorem ok_law (T : Txt K mg) (TBs : LamX.TabB base mg (He.cT K ("law", none)).1 (He.cT K ("law", none)).2)
    (D__law_taken : Dk P w K mg base (L2.CX P w) 1 "_law_taken" (spTaken K)) (D__law_pick : Dk P w K mg base (L2.CX P w) 2 "_law_pick" (spPick K)) (D__law_alike : Dk P w K mg base (L2.CX P w) 5 "_law_alike" (spAlike K 5))
    (D__law_every : Dk P w K mg base (L2.CX P w) 2 "_law_every" spEvery) (D__law_walk : Dk P w K mg base (L2.CX P w) 1 "_law_walk" (spWalk K)) (D__law_reference : Dk P w K mg base (L2.CX P w) 3 "_law_reference" (spLawRef K))
    (D__law_node : Dk P w K mg base (L2.CX P w) 4 "_law_node" (spLawNode K)) (D__law_is_lean : Dk P w K mg base (L2.CX P w) 1 "_law_is_lean" (spLawLean K)) (D__law_bad_nodes : Dk P w K mg base (L2.CX P w) 1 "_law_bad_nodes" (spBadNodes K))
    (MK_Graph : Mkk P w K mg base (L2.CX P w) 6 "Graph" (spGraphInit K)) (D_led_by : Dk P w K mg base (L2.CX P w) 4 "led_by" (spLedBy K)) (D_most_looks : Dk P w K mg base (L2.CX P w) 4 "most_looks" (spMostLooks K)) (D_is_least_graph : Dk P w K mg base (L2.CX P w) 4 "is_least_graph" (spLean K))
    {fd : FuncData} (F : FunD K "law" "law" (defArgs s_law) (defBody s_law) (defScope s_law) [] [] (He.fAd K ("law", none)) fd) : FnG P w K mg base (L2.CX P w) 10 (He.ga K "law") fd ["script"] (spLaw K (lamT K)) := by
  obtain ⟨fdR, FR⟩ := T.f__law_refused
  have bR : L2.Binds K fdR ["ask"] [] := FR.bindsN fun _ _ _ _ _ _ us hl => match us, hl with | [_], _ => rfl
  have kpR := FR.kp
  obtain ⟨ocR, odR, dVR, kVR, docR, pmR, anR, cdvR, ctR, oslR, rfl, lkR, hcdR, _, _⟩ := FR.ex
  have HG : ∀ {X : Cx} {g : Addr} {cdg : Value} {q : Str}, X.K = K → X.mg = mg → LamX.GivesTo X ["ask", "e"] "_law_refused" (defScope s__law_refused) g cdg (defBody s__law_refused) "ask" q (TTref K errs .non) := by
    intro X g cdg q e1 e2
    subst e1 e2
    exact refused_gives T
  refine LW.FunD.okG F sc_law (fun vs H Q E h => ?_) (fun cdv A outer s H vs Q E hgu hr hcd lk hcv h => ?_)
  · obtain ⟨a, ns, rfl, _⟩ := h
    rfl
  · obtain ⟨c, rfl⟩ : ∃ c, cdv = .ref c := by
      cases cdv with
      | ref c => exact ⟨c, rfl⟩
      | _ => cases hcd
    obtain ⟨oc, od, osl, lk⟩ := lk
    have ec : He.codeOf K ("law", none) = c := He.codeOf_eq lk hcv
    have TB : LamX.TabB base mg c (He.cT K ("law", none)).2 := by
      have := TBs
      show LamX.TabB base mg c _
      rw [← ec]
      exact this
    have HC : Value.ref c = Value.ref c := rfl
    have HM : ((He.cT K ("law", none)).2, ((("law" : Str) ++ (".<locals>." : Str)) ++ ("<lambda>" : Str))) ∈ lamT K := List.mem_singleton.mpr rfl
    have HU : ∀ p ∈ lamT K, p.1 = (He.cT K ("law", none)).2 → p.2 = ((("law" : Str) ++ (".<locals>." : Str)) ++ ("<lambda>" : Str)) := fun p hp _ => by rw [List.mem_singleton.mp hp]
    refine ⟨_, (pss_cons (ps_set (i := 1) sc_law.nd rfl (Or.inl rfl) (LW.pe_ls (pa_cons (pv 0) (pa_cons pe_int (pa_cons pe_int (pa_cons pe_int pa_nil))))))
    (pss_cons (ps_asg (LW.pe_tp (pa_cons (pe_op LW.o_add pe_int (LW.pe_d D__law_taken hr (by omega) (by rfl) passL (pa_cons (pv 1) (pa_cons pe_int pa_nil)))) (pa_cons (LW.pe_ls pa_nil) pa_nil))) (pg_tup rfl (pgs_cons (pg_name (i := 2) sc_law.nd rfl (Or.inr rfl)) (pgs_cons (pg_name (i := 3) sc_law.nd rfl (Or.inr rfl)) pgs_nil))))
    (pss_cons (ps_for (passes_of rfl) rfl (pi_range1 (by rfl) T.b_range (pa_cons (LW.pe_d D__law_taken hr (by omega) (by rfl) passL (pa_cons (pv 1) (pa_cons pe_int pa_nil))) pa_nil)) (pg_name (i := 4) sc_law.nd rfl (Or.inl rfl))
    (pss_one (ps_expr (pe_bm PySem.F.plainAttrs_list PySem.F.slot_list_append PySem.F.type_list_append LW.m_append (pv 3) (pa_cons (LW.pe_d D__law_node hr (by omega) (by rfl) passL (pa_cons (pv 1) (pa_cons (pv 2) (pa_cons (pv 3) pa_nil)))) pa_nil)))))
    (pss_cons (ps_set (i := 5) sc_law.nd rfl (Or.inr rfl) (LW.pe_d D__law_reference hr (by omega) (by rfl) passL (pa_cons (pv 1) (pa_cons (pe_op LW.o_sub pe_int pe_int) (pa_cons (pv 3) pa_nil)))))
    (pss_cons (ps_set (i := 6) sc_law.nd rfl (Or.inl rfl) (pe_callTy LW.c_list (by rfl) T.b_list (by decide +kernel) (pa_cons (pv 3) pa_nil)))
    (pss_cons (ps_set (i := 7) sc_law.nd rfl (Or.inl rfl) (LW.pe_mkK (K := K) MK_Graph hr (by omega) (by rfl) passL (pa_cons (pv 2) (pa_cons (pv 6) (pa_cons (pv 5) pa_nil)))))
    (pss_cons (ps_expr (pe_bm PySem.F.plainAttrs_list PySem.F.slot_list_append PySem.F.type_list_append LW.m_append (pv 6) (pa_cons pe_non pa_nil)))
    (pss_cons (ps_if (pt_not (pt_val (LW.pe_d D__law_alike hr (by omega) (by rfl) passL (pa_cons (LW.pe_ls (pa_cons (pe_fld (pv 7) rfl) (pa_cons (pe_fld (pv 7) rfl) (pa_cons (pe_fld (pv 7) rfl) pa_nil)))) (pa_cons (LW.pe_ls (pa_cons (pv 2) (pa_cons (pe_callTy LW.c_tuple (by rfl) T.b_tuple (by decide +kernel) (pa_cons (pv 3) pa_nil)) (pa_cons (pv 5) pa_nil)))) pa_nil)))))
    (pss_one (ps_ret pe_bl)) pss_nil)
    (pss_cons (ps_set (i := 8) sc_law.nd rfl (Or.inl rfl) pe_int)
    (pss_cons (ps_for (passes_of rfl) rfl (pi_list (LW.pe_d D__law_every hr (by omega) (by rfl) passL (pa_cons (pv 2) pa_nil))) (pg_name (i := 9) sc_law.nd rfl (Or.inl rfl))
    (pss_cons (ps_set (i := 10) sc_law.nd rfl (Or.inl rfl) (LW.pe_d D__law_walk hr (by omega) (by rfl) passL (pa_cons (pv 3) (pa_cons (pv 5) (pa_cons (pv 9) pa_nil)))))
    (pss_cons (ps_set (i := 8) sc_law.nd rfl (Or.inl rfl) (pe_callB (LW.c_max2 rfl) (by rfl) T.b_max (by decide +kernel) (pa_cons (pv 8) (pa_cons (pe_ix LW.ix_tup (pv 10) pe_int (fun _ _ => rfl)) pa_nil))))
    (pss_one (ps_if (pt_not (pt_val (LW.pe_d D__law_alike hr (by omega) (by rfl) passL (pa_cons (LW.pe_d D_led_by hr (by omega) (by rfl) passL (pa_cons (pv 7) (pa_cons (pv 9) pa_nil))) (pa_cons (pv 10) pa_nil)))))
    (pss_one (ps_ret pe_bl)) pss_nil)))))
    (pss_cons (ps_if (pt_not (pt_val (LW.pe_d D__law_alike hr (by omega) (by rfl) passL (pa_cons (LW.pe_ls (pa_cons (LW.pe_d D_most_looks hr (by omega) (by rfl) passL (pa_cons (pv 7) pa_nil)) (pa_cons (LW.pe_d D_is_least_graph hr (by omega) (by rfl) passL (pa_cons (pv 7) pa_nil)) pa_nil))) (pa_cons (LW.pe_ls (pa_cons (pv 8) (pa_cons (LW.pe_d D__law_is_lean hr (by omega) (by rfl) passL (pa_cons (pv 3) (pa_cons (pv 5) pa_nil))) pa_nil))) pa_nil)))))
    (pss_one (ps_ret pe_bl)) pss_nil)
    (pss_cons (ps_for (passes_of rfl) rfl (pi_list (LW.pe_d D__law_bad_nodes hr (by omega) (by rfl) passL (pa_cons (pv 1) (pa_cons (pv 2) (pa_cons (pv 3) pa_nil))))) (pg_name (i := 11) sc_law.nd rfl (Or.inr rfl))
    (pss_one (ps_if (pt_cmpR LW.o_ne (pe_callB (LW.c_reprU hgu hr) (by rfl) T.b_repr (by decide +kernel) (pa_cons (LamX.pe_lamcall (T := lamT K) (TT := TTref K errs .non) (by rfl) T.g__law_refused kpR lkR hcdR bR sc__law_refused rfl (Or.inl rfl) (HG rfl rfl) TB HC (by exact HM) (by exact HU) hr (LamX.lamS_by (sc := defScope s_law) (by decide +kernel)) rfl (fun _ _ _ _ _ => rfl) (fun _ _ _ _ _ _ _ hr => (LW.pe_mkK (K := K) MK_Graph hr (by omega) (by rfl) (passes_call (takes_of rfl rfl rfl rfl) (fun _ _ _ _ h => h)) (pa_cons (pv 2) (pa_cons (pv 11) (pa_cons (pv 5) pa_nil)))))) pa_nil)) (pe_callB (LW.c_reprU hgu hr) (by rfl) T.b_repr (by decide +kernel) (pa_cons (LW.pe_tp (pa_cons pe_str (pa_cons (LW.pe_tp (pa_cons (pv 11) (pa_cons (pv 5) pa_nil))) pa_nil))) pa_nil)) (nomark _))
    (pss_one (ps_ret pe_bl)) pss_nil)))
    (pss_cons (ps_for (passes_of rfl) rfl (pi_list (LW.pe_ls (pa_cons (LW.pe_tp (pa_cons pe_int (pa_cons (pe_callB LW.c_lenQ (by rfl) T.b_len (by decide +kernel) (pa_cons (pv 3) pa_nil)) pa_nil))) (pa_cons (LW.pe_tp (pa_cons pe_int (pa_cons pe_int pa_nil))) (pa_cons (LW.pe_tp (pa_cons pe_int (pa_cons pe_int pa_nil))) (pa_cons pe_non (pa_cons (LW.pe_ls (pa_cons pe_int (pa_cons pe_int pa_nil))) (pa_cons (LW.pe_tp (pa_cons pe_int pa_nil)) (pa_cons (LW.pe_tp (pa_cons pe_bl (pa_cons pe_int pa_nil))) (pa_cons (LW.pe_tp (pa_cons pe_int (pa_cons (pe_op LW.o_sub pe_int pe_int) pa_nil))) (pa_cons (LW.pe_tp (pa_cons pe_int (pa_cons pe_non pa_nil))) pa_nil))))))))))) (pg_name (i := 12) sc_law.nd rfl (Or.inr rfl))
    (pss_one (ps_if (pt_cmpR LW.o_ne (pe_callB (LW.c_reprU hgu hr) (by rfl) T.b_repr (by decide +kernel) (pa_cons (LamX.pe_lamcall (T := lamT K) (TT := TTref K errs .non) (by rfl) T.g__law_refused kpR lkR hcdR bR sc__law_refused rfl (Or.inl rfl) (HG rfl rfl) TB HC (by exact HM) (by exact HU) hr (LamX.lamS_by (sc := defScope s_law) (by decide +kernel)) rfl (fun _ _ _ _ _ => rfl) (fun _ _ _ _ _ _ _ hr => (LW.pe_mkK (K := K) MK_Graph hr (by omega) (by rfl) (passes_call (takes_of rfl rfl rfl rfl) (fun _ _ _ _ h => h)) (pa_cons (pv 2) (pa_cons (pv 3) (pa_cons (pv 12) pa_nil)))))) pa_nil)) (pe_callB (LW.c_reprU hgu hr) (by rfl) T.b_repr (by decide +kernel) (pa_cons (LW.pe_tp (pa_cons pe_str (pa_cons (LW.pe_tp (pa_cons (pv 3) (pa_cons (pv 12) pa_nil))) pa_nil))) pa_nil)) (nomark _))
    (pss_one (ps_ret pe_bl)) pss_nil)))
    (pss_cons (ps_set (i := 13) sc_law.nd rfl (Or.inr rfl) (LW.pe_d D__law_pick hr (by omega) (by rfl) passL (pa_cons (pv 1) (pa_cons (LW.pe_ls (pa_cons pe_int (pa_cons pe_int (pa_cons pe_non (pa_cons pe_bl (pa_cons pe_str pa_nil)))))) pa_nil))))
    (pss_one (ps_ret (pe_cmpR LW.o_eq (pe_callB (LW.c_reprU hgu hr) (by rfl) T.b_repr (by decide +kernel) (pa_cons (LamX.pe_lamcall (T := lamT K) (TT := TTref K errs .non) (by rfl) T.g__law_refused kpR lkR hcdR bR sc__law_refused rfl (Or.inl rfl) (HG rfl rfl) TB HC (by exact HM) (by exact HU) hr (LamX.lamS_by (sc := defScope s_law) (by decide +kernel)) rfl (fun _ _ _ _ _ => rfl) (fun _ _ _ _ _ _ _ hr => (LW.pe_mkK (K := K) MK_Graph hr (by omega) (by rfl) (passes_call (takes_of rfl rfl rfl rfl) (fun _ _ _ _ h => h)) (pa_cons (pv 13) (pa_cons pe_non (pa_cons pe_non pa_nil)))))) pa_nil)) (pe_callB (LW.c_reprU hgu hr) (by rfl) T.b_repr (by decide +kernel) (pa_cons (LW.pe_tp (pa_cons pe_str (pa_cons (pv 13) pa_nil))) pa_nil)) (nomark _)))))))))))))))))), ?_⟩
    obtain ⟨a, ns, rfl, hsq, hfew, hbig, hT, q⟩ := h
    walk_at "go"
    refine w_new (by simp) fun r H1 n1 e1 h1 => ?_
    walk_at "go"
    have row1 : RowOk K (a, ns) H1 r := ⟨0, 757, 0, h1, up_l e1 hsq, hfew, by decide, by decide, by decide⟩
    have T1 := hT.ext e1
    refine ⟨r, (a, ns), 7, rfl, row1, by decide, by decide, fun u2 H2 hu2 e2 row2 => ?_⟩
    have T2 := tabs_exc T1 row1 e2
    walk_at "go"
    have eW : ((1 : Int) + (u2 : Int)) = ((1 + u2 : Nat) : Int) := by omega
    rw [eW]
    obtain ⟨W, hW⟩ : ∃ W, W = 1 + u2 := ⟨_, rfl⟩
    rw [← hW]
    have hW1 : 1 ≤ W := by omega
    have hW7 : W ≤ 7 := by omega
    clear eW
    refine w_new (by simp) fun n H3' n3 e3' hn3' => ?_
    have nr : n ≠ r := row2.ne n3
    walk_at "go"
    refine w_new (by simp) fun p3 H3 np3 e33 hp3 => ?_
    have e3 := e3'.trans e33
    have hn3 := e33 _ _ hn3'
    have row3 := row2.ex e3
    have T3 := T2.ext e3
    refine w_gtup (st_of hp3) rfl ?_
    walk_at "go"
    refine ⟨r, (a, ns), 9, rfl, row3, by decide, by decide, fun u4 H4 hu4 e4 row4 => ?_⟩
    have T4 := tabs_exc T3 row3 e4
    have hn4 := e4 _ _ nr hn3
    walk_at "go"
    refine ⟨_, rfl, by omega, by omega, ?_⟩
    rw [Int.toNat_natCast]
    refine for_x walk_range (fun i σ H' => ∃ (gs : List V) (G : Gr) (v4 : Option V), σ = [some (.ref a), some (.ref r), some (.int (W : Int)), some (.ref n), v4, none, none, none, none, none, none, none, none, none] ∧ H' n = some (.lst gs) ∧ Nds H' gs G ∧ okG (W : Int) G ∧ G.length = i ∧ RowOk K (a, ns) H' r ∧ LamX.Tabs (lamT K) H')
      ⟨[], [], none, rfl, hn4, .nil, fun i nd z => (by simp at z), rfl, row4, T4⟩ (fun _ _ _ _ _ => True.intro) (fun i x σ H5 H6 hi p y => ?_) (fun σ H5 p => ?_)
    · obtain ⟨gs, G, v4, rfl, hn5, hG5, ok, hlen, row5, T5⟩ := p
      obtain ⟨rfl, rfl⟩ := y
      walk_at "go"
      refine ⟨ty_list hn5, ?_⟩
      walk_at "go"
      refine ⟨r, n, (a, ns), W, gs, G, rfl, row5, nr, hn5, hG5, ok, hW1, by omega, by omega, fun v nd H7 hv oknd e7 row7 => ?_⟩
      have T7 := tabs_exc T5 row5 e7
      have hn7 := e7 _ _ nr hn5
      walk_at "go"
      refine v_app hn7 (by rw [hG5.len]; omega) ?_
      refine g_put fun H8 e8 h8 => ?_
      walk_at "go"
      have t8 := tup_put hn7 e8
      refine ⟨gs ++ [v], G ++ [nd], _, rfl, h8, nds_snoc (hG5.mono ((tup_row row5 e7).trans t8)) (hv.mono t8), ok.snoc oknd, by rw [List.length_append, hlen]; rfl, ?_, tabs_put T7 hn7 e8⟩
      exact RowOk.new row2 n3 row7 e8
    · obtain ⟨gs, G, v4, rfl, hn5, hG5, ok, hlen, row5, T5⟩ := p
      have row5b := row5
      walk_at "go"
      refine ⟨r, n, (a, ns), _, (W : Int), gs, G, rfl, row5, nr, hn5, hG5, ok, by omega, fun c6 st H6 hc6 okst e6 row6 => ?_⟩
      have T6 := tabs_exc T5 row5 e6
      have hn6 := e6 _ _ nr hn5
      have hG6 := hG5.mono (tup_row row5 e6)
      have okst : okRf G G.length (-1) st := okst
      walk_at "go"
      refine ⟨n, gs, rfl, .inl (sl_of hn6), fun hd nhd => ?_⟩
      refine g_new nhd fun H7 e7 hhd => ?_
      walk_at "go"
      intro x dx H8 nx e8 hx
      have e68 := e7.trans e8
      refine ⟨x, .int (W : Int), .ref hd, .ref c6, "int", dx, rfl, hx, kn_int, .inr ⟨W, rfl, hW1, by omega, .inl ⟨hd, gs, G, st, rfl, e8 _ _ hhd, hG6.mono (tup_ex e68), ok, ⟨c6, rfl, e68 _ _ hc6⟩, okst, by omega, fun H9 e9 hg9 => ⟨rfl, ?_⟩⟩⟩⟩
      have e79 : Ex H7 H9 := e9.ex e8 nx
      have e69 := e7.trans e79
      have hhd9 := e79 _ _ hhd
      walk_at "go"
      refine ⟨ty_list hhd9, ?_⟩
      walk_at "go"
      have hlg := hG5.len
      refine v_app hhd9 (by omega) ?_
      refine g_put fun H10 e10 h10 => ?_
      have e6A : Ex H6 H10 := e10.ex e69 nhd
      have hgA : GrAt K H10 x W G st := graph_put hg9 hhd9 e10
      have rowA := row6.ex e6A
      have TA := T6.ext e6A
      have hnA := e6A _ _ hn6
      have hcA := e6A _ _ hc6
      have hGA := hG6.mono (tup_ex e6A)
      clear hgA row5 T5 T6 hn5 hG5 T4 T3 T2 T1 row1 row2 row3 row4
      have hgA : GrAt K H10 x W G st := graph_put hg9 hhd9 e10
      obtain ⟨dx2, fs, t0, rs, sv, g1, g2, g3, g4, g5, g6, g7⟩ := hgA.ins
      obtain ⟨c7, rfl, hc7⟩ := id g7
      walk_at "go"
      refine ⟨x, _, dx2, fs, _, rfl, g1, T.k_Graph, T.n_Graph_width, g2, ?_⟩
      walk_at "go"
      refine ⟨x, _, dx2, fs, _, rfl, g1, T.k_Graph, T.n_Graph_nodes, g3, ?_⟩
      walk_at "go"
      refine ⟨x, _, dx2, fs, _, rfl, g1, T.k_Graph, T.n_Graph_start, g4, ?_⟩
      refine w_new (by simp) fun l11 H11 n11 e11 h11 => ?_
      walk_at "go"
      refine v_tupL (sl_of (e11 _ _ hnA)) fun t12 H12 n12 e12 h12 => ?_
      walk_at "go"
      refine w_new (by simp) fun l13 H13 n13 e13 h13 => ?_
      walk_at "go"
      have e1013 := (e11.trans e12).trans e13
      have e1213 := e12.trans e13
      refine ⟨.ref l11, .ref l13, .list [.int (W : Int), .tuple (G.map ndD), refD st], rfl,
        .lst (sl_of (e1213 _ _ h11)) (.cons (.int _) (.cons (.tup (st_of (e1013 _ _ g5)) (g6.mono (tup_ex e1013)).dp) (.cons (g7.mono (tup_ex e1013)).dp .nil))),
        .lst (sl_of h13) (.cons (.int _) (.cons (.tup (st_of (e13 _ _ h12)) (hGA.mono (tup_ex e1013)).dp) (.cons (refV.dp ⟨c6, rfl, e1013 _ _ hcA⟩) .nil))), ?_, fun H14 e14 => ?_⟩
      · have k1 : (G.map ndD).length ≤ 100000 := by rw [List.length_map]; omega
        show (true && (true && ((decide ((G.map ndD).length ≤ 100000) && okds 2 (G.map ndD)) && (okd 3 (refD st) && true)))) = true
        rw [decide_eq_true k1, okds_nodes]
        rfl
      have e10E := e1013.trans e14
      have rowE := rowA.ex e10E
      have TE := TA.ext e10E
      have hnE := e10E _ _ hnA
      have hcE := e10E _ _ hcA
      have hGE := hGA.mono (tup_ex e10E)
      have hgE := hgA.ex e10E
      walk_at "go"
      refine iteF' ?_
      walk_at "go"
      refine ⟨W, rfl, hW7, fun D H15 nD e15 hD => ?_⟩
      walk_at "go"
      refine ⟨D, rfl, ⟨_, sl_of hD⟩, ?_⟩
      have lenE : (everyV W).length = 2 ^ W := by unfold everyV; rw [List.length_map, List.length_range]
      refine for_x (walk_list (xs := everyV W)) (fun i σ H' => ∃ (m : Nat) (v9 v10 : Option V), σ = [some (.ref a), some (.ref r), some (.int (W : Int)), some (.ref n), v4, some (.ref c6), some (.ref hd), some (.ref x), some (.int (m : Int)), v9, v10, none, none, none] ∧ Ex H15 H' ∧ (∀ j, j < i → looks G st W j ≤ m) ∧ (m = 0 ∨ ∃ j, m = looks G st W j))
        ⟨0, none, none, rfl, ex_refl, fun j hj => absurd hj (Nat.not_lt_zero _), .inl rfl⟩ (fun i σ H' _ p => by obtain ⟨_, _, _, _, e, _⟩ := p; exact sl_of (e _ _ hD)) (fun i y σ H16 H17 hi p yy => ?_) (fun σ H16 p => ?_)
      · obtain ⟨m, v9, v10, rfl, e16, hm1, hm2⟩ := p
        obtain ⟨rfl, hy⟩ := yy
        have hi2 : i < 2 ^ W := by rw [← lenE]; exact hi
        have ey : y = .str (S (bitsL i W)) := by
          unfold everyV at hy
          rw [List.getElem?_map, List.getElem?_range hi2] at hy
          exact (Option.some.inj hy).symm
        subst ey
        have eE := e15.trans e16
        walk_at "go"
        refine ⟨n, gs, .ref c6, W, G, st, bitsL i W, rfl, eE _ _ hnE, hGE.mono (tup_ex eE), ok, ⟨c6, rfl, eE _ _ hcE⟩, okst.live, by omega, by omega, bitsL_len _ _, bitsL_all _ _, fun t17 H17 n17 e17 h17 => ?_⟩
        walk_at "go"
        refine v_ixT (st_of h17) (show _ = some (.int ((wk G (bitsL i W) G.length st 0).2 : Int)) by rfl) ?_
        walk_at "go"
        refine ⟨x, W, G, st, bitsL i W, rfl, (hgE.ex eE).ex e17, bitsL_len _ _, bitsL_all _ _, fun t18 H18 n18 e18 h18 => ?_⟩
        walk_at "go"
        refine ⟨.ref t18, .ref t17, .tuple [.int (wk G (bitsL i W) G.length st 0).1, .int ((wk G (bitsL i W) G.length st 0).2 : Int)], rfl, .tup (st_of h18) (.cons (.int _) (.cons (.int _) .nil)), .tup (st_of (e18 _ _ h17)) (.cons (.int _) (.cons (.int _) .nil)), rfl, fun H19 e19 => ?_⟩
        walk_at "go"
        refine iteF' ?_
        walk_at "go"
        have eF := ((e16.trans e17).trans e18).trans e19
        have eL : (wk G (bitsL i W) G.length st 0).2 = looks G st W i := rfl
        rw [eL]
        by_cases hgt : (looks G st W i : Int) > (m : Int)
        · rw [if_pos hgt]
          refine ⟨looks G st W i, _, _, rfl, eF, fun j hj => ?_, .inr ⟨i, rfl⟩⟩
          by_cases hji : j = i
          · rw [hji]; exact Nat.le_refl _
          · have := hm1 j (by omega)
            omega
        · rw [if_neg hgt]
          refine ⟨m, _, _, rfl, eF, fun j hj => ?_, hm2⟩
          by_cases hji : j = i
          · rw [hji]; omega
          · exact hm1 j (by omega)
      · obtain ⟨m, v9, v10, rfl, e16, hm1, hm2⟩ := p
        have em : m = dep G G.length st := most_is ok okst (fun j hj => hm1 j (by rw [lenE]; exact hj)) hm2
        have eE := e15.trans e16
        walk_at "go"
        refine ⟨x, W, G, st, rfl, hgE.ex eE, fun H17 e17 => ?_⟩
        walk_at "go"
        refine ⟨x, W, G, st, rfl, (hgE.ex eE).ex e17, fun H18 e18 => ?_⟩
        refine w_new (by simp) fun l19 H19 n19 e19 h19 => ?_
        walk_at "go"
        have eG := ((eE.trans e17).trans e18).trans e19
        refine ⟨n, gs, .ref c6, W, G, st, rfl, eG _ _ hnE, hGE.mono (tup_ex eG), ok, ⟨c6, rfl, eG _ _ hcE⟩, okst.live, by omega, fun H20 e20 => ?_⟩
        refine w_new (by simp) fun l21 H21 n21 e21 h21 => ?_
        walk_at "go"
        refine ⟨.ref l19, .ref l21, .list [.int (m : Int), .bool (lean G st)], rfl, .lst (sl_of ((e20.trans e21) _ _ h19)) (.cons (by rw [← em]; exact .int _) (.cons (.bl _) .nil)), .lst (sl_of h21) (.cons (.int _) (.cons (.bl _) .nil)), rfl, fun H22 e22 => ?_⟩
        have eH := ((eG.trans e20).trans e21).trans e22
        have rowH := rowE.ex eH
        have TH := TE.ext eH
        have hnH := eH _ _ hnE
        have hcH := eH _ _ hcE
        have hGH := hGE.mono (tup_ex eH)
        walk_at "go"
        refine iteF' ?_
        walk_at "go"
        refine ⟨.ref r, W, n, gs, G, rfl, hnH, hGH, ok, hW1, by omega, by omega, fun D2 ts H23 nD2 e23 hD2 hts htl => ?_⟩
        have hts : ∀ v ∈ ts, ∃ d, Thing K H23 (W : Int) v d := fun v hv => (hts v hv).imp fun _ t => t.extn mk_back.n
        walk_at "go"
        refine ⟨D2, rfl, ⟨_, sl_of hD2⟩, ?_⟩
        refine for_x (walk_list (xs := ts)) (fun i σ H' => ∃ (v11 : Option V), σ = [some (.ref a), some (.ref r), some (.int (W : Int)), some (.ref n), v4, some (.ref c6), some (.ref hd), some (.ref x), some (.int (m : Int)), v9, v10, v11, none, none] ∧ H' D2 = some (.lst ts) ∧ (∀ v ∈ ts, ∃ d, Thing K H' (W : Int) v d) ∧ RowOk K (a, ns) H' r ∧ LamX.Tabs (lamT K) H' ∧ H' n = some (.lst gs) ∧ Nds H' gs G ∧ H' c6 = some (.tup [.int st.1, .int st.2]))
          ⟨none, rfl, hD2, hts, rowH.ex e23, TH.ext e23, e23 _ _ hnH, hGH.mono (tup_ex e23), e23 _ _ hcH⟩ (fun i σ H' _ p => by obtain ⟨_, _, h, _⟩ := p; exact sl_of h) (fun i y σ H24 H25 hi p yy => ?_) (fun σ H24 p => ?_)
        · obtain ⟨v11, rfl, hD24, ht24, row24, T24, hn24, hG24, hc24⟩ := p
          obtain ⟨rfl, hy⟩ := yy
          obtain ⟨d, hth⟩ := ht24 y (List.mem_of_getElem? hy)
          walk_at "go"
          refine lam_ref2 (L := errs) (word := "graph") (Good := fun v H => ∃ tt, v = .ref tt ∧ H tt = some (.tup [y, .ref c6])) T24 (fun H25 e25 t25 R Q' hR => ?_) (fun v t26 H26 e26 T26 h26 good => ?_)
          · walk_at "go"
            intro x2 dx3 H27 nx2 e27 hx2
            have th2 := hth.extn (e25.trans e27.n)
            refine ⟨x2, .int (W : Int), y, .ref c6, "int", dx3, rfl, hx2, kn_int, .inr ⟨W, rfl, hW1, by omega, .inr ⟨?_, fun tt dd H28 nt keep ht nd hdd => ?_⟩⟩⟩
            · cases th2 with
              | other n' k n1 n2 s hs => exact .inl ⟨n', k, n1, n2⟩
              | rows hl hG ok hz bad hd nd hs => exact .inr (.inl ⟨_, _, _, _, _, rfl, hl, hG, ok, hz, bad⟩)
            · have e2528 : Ex H25 H28 := fun b o hb => keep b o (fun z => by rw [z, nx2] at hb; cases hb) (e27 b o hb)
              exact ⟨("BadGraph", "graph"), dd, .ref tt, by simp [errs], rfl, rfl, hdd, fun t3 H3 _ e3 h3 => hR (.ref tt) t3 H3 (e2528.trans e3) h3 ⟨tt, rfl, e3 _ _ ht⟩⟩
          · obtain ⟨tt, rfl, htt⟩ := good
            have th26 := hth.extn e26
            obtain ⟨sd26, sl26⟩ := th26.sd
            have hst26 : refV H26 (.ref c6) st := ⟨c6, rfl, tup_extn e26 _ _ hc24⟩
            have fineD : fine (.tuple [.str "graph", .tuple [d, refD st]]) = true := fine_two (by decide +kernel) sl26 (slim_refD okst (by omega))
            walk_at "go"
            refine v_reprU (d := .tuple [.str "graph", .tuple [d, refD st]]) (sd_two h26 htt sd26 hst26) fineD ?_
            walk_at "go"
            refine w_new (by simp) fun t27 H27 n27 e27 h27 => ?_
            refine w_new (by simp) fun t28 H28 n28 e28 h28 => ?_
            walk_at "go"
            have e2628 := e27.trans e28
            refine v_reprU (d := .tuple [.str "graph", .tuple [d, refD st]]) (sd_two h28 (e28 _ _ h27) (sd26.extn (Ex.n e2628)) (hst26.mono (tup_ex e2628))) fineD ?_
            walk_at "go"
            generalize PyData.shown (.tuple [.str "graph", .tuple [d, refD st]]) = sh
            refine w_ndec (fun z => absurd rfl z) (fun _ => ?_)
            walk_at "go"
            have eN := e26.trans (Ex.n e2628)
            exact ⟨_, rfl, eN _ _ hD24 (fun _ z => by cases z), fun v hv => (ht24 v hv).imp fun _ t => t.extn eN, row24.extn eN, T26.ext e2628, eN _ _ hn24 (fun _ z => by cases z), hG24.mono (tup_extn eN), tup_extn eN _ _ hc24⟩
        · obtain ⟨v11, rfl, hD24, ht24, row24, T24, hn24, hG24, hc24⟩ := p
          walk_at "go"
          refine v_lenL (sl_of hn24) ?_
          walk_at "go"
          refine w_new (by simp) fun o31 H31 no31 e31 h31 => ?_
          walk_at "go"
          refine w_new (by simp) fun o32 H32 no32 e32 h32 => ?_
          walk_at "go"
          refine w_new (by simp) fun o33 H33 no33 e33 h33 => ?_
          walk_at "go"
          refine w_new (by simp) fun o34 H34 no34 e34 h34 => ?_
          walk_at "go"
          refine w_new (by simp) fun o35 H35 no35 e35 h35 => ?_
          walk_at "go"
          refine w_new (by simp) fun o36 H36 no36 e36 h36 => ?_
          walk_at "go"
          refine w_new (by simp) fun o37 H37 no37 e37 h37 => ?_
          walk_at "go"
          refine w_new (by simp) fun o38 H38 no38 e38 h38 => ?_
          walk_at "go"
          refine w_new (by simp) fun D3 H39 nD3 e39 hD3 => ?_
          walk_at "go"
          have e2439 : Ex H24 H39 := ((((((((e31.trans e32).trans e33).trans e34).trans e35).trans e36).trans e37).trans e38).trans e39)
          have todd : ∀ v ∈ ([.ref o31, .ref o32, .ref o33, .non, .ref o34, .ref o35, .ref o36, .ref o37, .ref o38] : List V), ∃ d, OddAt K H39 (G.length : Int) v d := by
            have hlg2 := hG24.len
            intro v hv
            simp only [List.mem_cons, List.not_mem_nil, or_false] at hv
            rcases hv with rfl | rfl | rfl | rfl | rfl | rfl | rfl | rfl | rfl
            · exact ⟨.tuple [.int 1, .int (gs.length : Int)], .ref ((((((((e32.trans e33).trans e34).trans e35).trans e36).trans e37).trans e38).trans e39) _ _ h31) kn_int kn_int (by rw [hlg2]; exact far G) (.tup (st_of ((((((((e32.trans e33).trans e34).trans e35).trans e36).trans e37).trans e38).trans e39) _ _ h31)) (.cons (.int _) (.cons (.int _) .nil))) rfl ⟨by simp [tame, tames] <;> omega, show 1 ≤ 20 by decide, show 17 ≤ 40000 by decide⟩⟩
            · exact ⟨.tuple [.int 0, .int 1000], .ref (((((((e33.trans e34).trans e35).trans e36).trans e37).trans e38).trans e39) _ _ h32) kn_int kn_int (far2 _) (.tup (st_of (((((((e33.trans e34).trans e35).trans e36).trans e37).trans e38).trans e39) _ _ h32)) (.cons (.int _) (.cons (.int _) .nil))) rfl ⟨by simp [tame, tames] <;> omega, show 1 ≤ 20 by decide, show 17 ≤ 40000 by decide⟩⟩
            · exact ⟨.tuple [.int 2, .int 0], .ref ((((((e34.trans e35).trans e36).trans e37).trans e38).trans e39) _ _ h33) kn_int kn_int (by simp [refB]) (.tup (st_of ((((((e34.trans e35).trans e36).trans e37).trans e38).trans e39) _ _ h33)) (.cons (.int _) (.cons (.int _) .nil))) rfl ⟨by simp [tame, tames] <;> omega, show 1 ≤ 20 by decide, show 17 ≤ 40000 by decide⟩⟩
            · exact ⟨.none, .kind "NoneType" kn_non (by decide) .non rfl ⟨rfl, show 0 ≤ 20 by decide, show 4 ≤ 40000 by decide⟩⟩
            · exact ⟨.list [.int 0, .int 1], .kind "list" (kn_lst (((((e35.trans e36).trans e37).trans e38).trans e39) _ _ h34)) (by decide) (.lst (sl_of (((((e35.trans e36).trans e37).trans e38).trans e39) _ _ h34)) (.cons (.int _) (.cons (.int _) .nil))) rfl ⟨by simp [tame, tames] <;> omega, show 1 ≤ 20 by decide, show 16 ≤ 40000 by decide⟩⟩
            · exact ⟨.tuple [.int 0], .size ((((e36.trans e37).trans e38).trans e39) _ _ h35) (show 1 ≠ 2 by decide) (.tup (st_of ((((e36.trans e37).trans e38).trans e39) _ _ h35)) (.cons (.int _) .nil)) rfl ⟨by simp [tame, tames] <;> omega, show 1 ≤ 20 by decide, show 10 ≤ 40000 by decide⟩⟩
            · exact ⟨.tuple [.bool true, .int 0], .ref (((e37.trans e38).trans e39) _ _ h36) kn_bl kn_int rfl (.tup (st_of (((e37.trans e38).trans e39) _ _ h36)) (.cons (.bl _) (.cons (.int _) .nil))) rfl ⟨by simp [tame, tames] <;> omega, show 1 ≤ 20 by decide, show 17 ≤ 40000 by decide⟩⟩
            · exact ⟨.tuple [.int 1, .int (0 - 1)], .ref ((e38.trans e39) _ _ h37) kn_int kn_int (by simp [refB, within]) (.tup (st_of ((e38.trans e39) _ _ h37)) (.cons (.int _) (.cons (.int _) .nil))) rfl ⟨by simp [tame, tames] <;> omega, show 1 ≤ 20 by decide, show 17 ≤ 40000 by decide⟩⟩
            · exact ⟨.tuple [.int 0, .none], .ref (e39 _ _ h38) kn_int kn_non (by simp [refB, within]) (.tup (st_of (e39 _ _ h38)) (.cons (.int _) (.cons (.non) .nil))) rfl ⟨by simp [tame, tames] <;> omega, show 1 ≤ 20 by decide, show 16 ≤ 40000 by decide⟩⟩
          generalize hos : ([.ref o31, .ref o32, .ref o33, .non, .ref o34, .ref o35, .ref o36, .ref o37, .ref o38] : List V) = os at hD3 todd
          have row39 := row24.ex e2439
          have T39 := T24.ext e2439
          have hn39 := e2439 _ _ hn24
          have hG39 := hG24.mono (tup_ex e2439)
          refine ⟨D3, rfl, ⟨_, sl_of hD3⟩, ?_⟩
          refine for_x (walk_list (xs := os)) (fun i σ H' => ∃ (v12 : Option V), σ = [some (.ref a), some (.ref r), some (.int (W : Int)), some (.ref n), v4, some (.ref c6), some (.ref hd), some (.ref x), some (.int (m : Int)), v9, v10, v11, v12, none] ∧ H' D3 = some (.lst os) ∧ (∀ v ∈ os, ∃ d, OddAt K H' (G.length : Int) v d) ∧ RowOk K (a, ns) H' r ∧ LamX.Tabs (lamT K) H' ∧ H' n = some (.lst gs) ∧ Nds H' gs G)
            ⟨none, rfl, hD3, todd, row39, T39, hn39, hG39⟩ (fun i σ H' _ p => by obtain ⟨_, _, h, _⟩ := p; exact sl_of h) (fun i y σ H40 H41 hi p yy => ?_) (fun σ H40 p => ?_)
          · obtain ⟨v12, rfl, hD40, ht40, row40, T40, hn40, hG40⟩ := p
            obtain ⟨rfl, hy⟩ := yy
            obtain ⟨d, hodd⟩ := ht40 y (List.mem_of_getElem? hy)
            walk_at "go"
            refine lam_ref2 (L := errs) (word := "graph") (Good := fun v H => ∃ tt, v = .ref tt ∧ H tt = some (.tup [.ref n, y])) T40 (fun H41 e41 t41 R Q' hR => ?_) (fun v t42 H42 e42 T42 h42 good => ?_)
            · walk_at "go"
              intro x2 dx3 H43 nx2 e43 hx2
              have e40 := e41.trans e43.n
              have th2 := hodd.extn e40
              refine ⟨x2, .int (W : Int), .ref n, y, "int", dx3, rfl, hx2, kn_int, .inr ⟨W, rfl, hW1, by omega, .inr ⟨.inr (.inr ⟨n, gs, G, rfl, e40 _ _ hn40 (fun _ z => by cases z), hG40.mono (tup_extn e40), ok, by omega, ?_⟩), fun tt dd H44 nt keep ht nd hdd => ?_⟩⟩⟩
              · cases th2 with
                | kind n' k ne hd nd hs => exact .inl ⟨n', k, ne⟩
                | size ha hne hd nd hs => exact .inr (.inl ⟨_, _, rfl, st_of ha, hne⟩)
                | ref ha k1 k2 hr hd nd hs => exact .inr (.inr ⟨_, _, _, _, _, rfl, st_of ha, k1, k2, hr⟩)
              · have e4144 : Ex H41 H44 := fun b o hb => keep b o (fun z => by rw [z, nx2] at hb; cases hb) (e43 b o hb)
                exact ⟨("BadGraph", "graph"), dd, .ref tt, by simp [errs], rfl, rfl, hdd, fun t3 H3 _ e3 h3 => hR (.ref tt) t3 H3 (e4144.trans e3) h3 ⟨tt, rfl, e3 _ _ ht⟩⟩
            · obtain ⟨tt, rfl, htt⟩ := good
              have th42 := hodd.extn e42
              obtain ⟨dp42, nd42, sl42⟩ := th42.sd
              have hn42 := e42 _ _ hn40 (fun _ z => by cases z)
              have hG42 := hG40.mono (tup_extn e42)
              have dn : PyData.hasDict (.list (G.map ndD)) = false := dict_nodes G
              have sln : slim (.list (G.map ndD)) := by
                have := slim_rows (W := (W : Int)) (G := G) (bds := []) (by omega) ok (by omega) rfl (show 0 ≤ 10 by decide) (show 0 ≤ 1000 by decide)
                rw [List.append_nil] at this
                exact this
              have fineD : fine (.tuple [.str "graph", .tuple [.list (G.map ndD), d]]) = true := fine_two (by decide +kernel) sln sl42
              have dpn : Dp K H42 (.ref n) (.list (G.map ndD)) := .lst (sl_of hn42) hG42.dp
              walk_at "go"
              refine v_reprU (d := .tuple [.str "graph", .tuple [.list (G.map ndD), d]]) (sd_flat h42 htt dpn dp42 dn nd42) fineD ?_
              walk_at "go"
              refine w_new (by simp) fun t43 H43 n43 e43 h43 => ?_
              refine w_new (by simp) fun t44 H44 n44 e44 h44 => ?_
              walk_at "go"
              have e4244 := e43.trans e44
              refine v_reprU (d := .tuple [.str "graph", .tuple [.list (G.map ndD), d]]) (sd_flat h44 (e44 _ _ h43) (up_d e4244 _ _ dpn) (up_d e4244 _ _ dp42) dn nd42) fineD ?_
              walk_at "go"
              generalize PyData.shown (.tuple [.str "graph", .tuple [.list (G.map ndD), d]]) = sh
              refine w_ndec (fun z => absurd rfl z) (fun _ => ?_)
              walk_at "go"
              have eN := e42.trans (Ex.n e4244)
              exact ⟨_, rfl, eN _ _ hD40 (fun _ z => by cases z), fun v hv => (ht40 v hv).imp fun _ t => t.extn eN, row40.extn eN, T42.ext e4244, eN _ _ hn40 (fun _ z => by cases z), hG40.mono (tup_extn eN)⟩
          · obtain ⟨v12, rfl, hD40, ht40, row40, T40, hn40, hG40⟩ := p
            walk_at "go"
            refine w_new (by simp) fun l45 H45 n45 e45 h45 => ?_
            walk_at "go"
            refine ⟨r, l45, (a, ns), _, rfl, row40.ex e45, .inl ⟨h45, row40.ne n45⟩, by simp, by simp, fun bad hbad H46 e46 row46 => ?_⟩
            have T46 := tabs_exc (T40.ext e45) (row40.ex e45) e46
            have hw : ∃ d, Dp K H46 bad d ∧ d.hasDict = false ∧ slim d ∧ within bad 1 64 = false := by
              simp only [List.mem_cons, List.not_mem_nil, or_false] at hbad
              rcases hbad with rfl | rfl | rfl | rfl | rfl
              · exact ⟨.int 0, .int _, rfl, ⟨rfl, show 0 ≤ 20 by decide, show 5 ≤ 40000 by decide⟩, rfl⟩
              · exact ⟨.int 65, .int _, rfl, ⟨rfl, show 0 ≤ 20 by decide, show 5 ≤ 40000 by decide⟩, rfl⟩
              · exact ⟨.none, .non, rfl, ⟨rfl, show 0 ≤ 20 by decide, show 4 ≤ 40000 by decide⟩, rfl⟩
              · exact ⟨.bool true, .bl _, rfl, ⟨rfl, show 0 ≤ 20 by decide, show 5 ≤ 40000 by decide⟩, rfl⟩
              · exact ⟨.str "3", .str _, rfl, ⟨rfl, by decide, by decide +kernel⟩, rfl⟩
            clear hbad
            obtain ⟨d, hd46, nd46, sl46, hout⟩ := hw
            have fineD : fine (.tuple [.str "width", d]) = true := fine_one (by decide +kernel) sl46
            have ndD' : PyData.hasDict (.tuple [.str "width", d]) = false := by
              show (false || (d.hasDict || false)) = false
              rw [nd46]
              rfl
            walk_at "go"
            refine lam_ref (L := errs) (word := "width") (v := bad) T46 (fun H47 e47 t47 R Q' hR => ?_) (fun t48 H48 e48 T48 h48 => ?_)
            · walk_at "go"
              intro x2 dx3 H49 nx2 e49 hx2
              obtain ⟨nm, kn⟩ := dp_kn (extn_d (e47.trans e49.n) _ _ hd46)
              refine ⟨x2, bad, .non, .non, nm, dx3, rfl, hx2, kn, .inl ⟨hout, ?_⟩⟩
              exact rz_ref (by simp [errs]) (fun t3 H3 e3 h3 => hR t3 H3 (e49.trans e3) h3)
            · have hd48 := extn_d e48 _ _ hd46
              walk_at "go"
              refine v_reprU (d := .tuple [.str "width", d]) (.inl ⟨.tup (st_of h48) (.cons (.str _) (.cons hd48 .nil)), ndD'⟩) fineD ?_
              walk_at "go"
              refine w_new (by simp) fun t49 H49 n49 e49 h49 => ?_
              walk_at "go"
              refine v_reprU (d := .tuple [.str "width", d]) (.inl ⟨.tup (st_of h49) (.cons (.str _) (.cons (up_d e49 _ _ hd48) .nil)), ndD'⟩) fineD ?_
              walk_at "go"
              generalize PyData.shown (.tuple [.str "width", d]) = sh
              rw [decide_eq_true rfl]
              exact q _
end
end K37
namespace K37
open PySem PySem.Spec PyProof.Rows L2 LW SX M37
section
variable {P : Program} {w : World} {K : PySem.W.Frag} {mg : Str → Option Value} {base : Heap}
theorem xk (T : Txt K mg) {x : Str} (hx : LW.XcF K mg "RouteError" x) : Xk P w K mg base "RouteError" x := by
  obtain ⟨fd, F⟩ := T.f_RouteError_init
  have e : (("RouteError" : Str) ++ (".__init__" : Str)) = ("RouteError.__init__" : Str) := by kernel_rfl
  rw [← e] at F
  exact ⟨hx, fd, init_ok (B := "RouteError") (st := s_RouteError_init) F sc_RouteError_init rfl (fun _ => rfl) (Or.inl rfl) (Or.inl rfl), init_binds (B := "RouteError") (st := s_RouteError_init) F (fun T kV doc pm an cdv ct us its h1 h2 => match us, h1, its, h2 with | [_, _], _, [_], _ => ⟨_, rfl, rfl⟩)⟩
theorem all (T : Txt K mg) (TBs : LamX.TabB base mg (He.cT K ("law", none)).1 (He.cT K ("law", none)).2)
    {fd : FuncData} (F : FunD K "law" "law" (defArgs s_law) (defBody s_law) (defScope s_law) [] [] (He.fAd K ("law", none)) fd) : FnG P w K mg base (L2.CX P w) 10 (He.ga K "law") fd ["script"] (spLaw K (lamT K)) := by
  have d1 := ok_is_integer (P := P) (w := w) (base := base) T
  have d2 := ok_is_within T d1
  have d3 := ok_is_bits (P := P) (w := w) (base := base) T
  have d4 := ok_need_width T d2 (xk T T.e_BadWidth)
  have d5 := ok_is_row (P := P) (w := w) (base := base) T
  have d6 := ok_is_hop T d2
  have d7 := ok_is_pair (P := P) (w := w) (base := base) T
  have d8 := ok_is_reference T d7 d1 d6 d2
  have d9 := ok_are_nodes T d2 d8
  have d10 := ok_Graph_init T d4 d5 d9 d8 (xk T T.e_BadGraph)
  have d11 := ok_need_graph (P := P) (w := w) (base := base) T (xk T T.e_BadGraph)
  have d12 := ok_led_by T d11 d3 (xk T T.e_BadAddress)
  have d13 := ok_most_looks T d11
  have d14 := ok_is_least_graph T d11
  have l1 := ok__law_taken (P := P) (w := w) (base := base) T
  have l2 := ok__law_pick T l1
  have l3 := alike_all (P := P) (w := w) (base := base) T 5
  have l4 := ok__law_binary (P := P) (w := w) (base := base) T
  have l5 := ok__law_every T l4
  have l6 := ok__law_walk (P := P) (w := w) (base := base) T
  have l7 := ok__law_reference T l1 l2
  have l8 := ok__law_node T l1 l2 l7
  have l9 := ok__law_is_lean (P := P) (w := w) (base := base) T
  have l10 := ok__law_bad_nodes (P := P) (w := w) (base := base) T
  exact ok_law T TBs l1 l2 l3 l5 l6 l7 l8 l9 l10 d10 d12 d13 d14 F
end
theorem end_F (w : World) (mg : Str → Option Value) (f : Addr) (h : Heap) (K : PySem.W.Frag) (P : Program) (KX : K.In h) (G : h.Ns mainGlobals mg) (c : He.SaysX fa fn [] tf exB w h K) (hf : mg "law" = some (.ref f)) :
    ∃ fd : FuncData, (∀ (s : Shared) (u : Value), BindsTo s fd ⟨[u], []⟩ [("script", u)]) ∧
      ∀ base : Heap, K.In base → base.Ns mainGlobals mg → (∀ p ∈ tf, LamX.TabB base mg (He.cT K p).1 (He.cT K p).2) →
        FnG P w K mg base (L2.CX P w) 10 f fd ["script"] (spLaw K (tf.map fun p => ((He.cT K p).2, (p.1 ++ ".<locals>.") ++ "<lambda>"))) := by
  have T := txt_of KX G c
  obtain ⟨fd, F⟩ := T.f_law
  have e := hf.symm.trans T.g_law
  cases e
  have b := FunD.bindsA (ps := ["script"]) F fun _ _ _ _ _ _ us hl => match us, hl with | [_], _ => rfl
  exact ⟨fd, fun s u => b s [u] rfl, fun base _ _ TB => all T (TB _ (List.mem_singleton.mpr rfl)) F⟩
end K37
open PySem PySem.W PySem.Calls PyProof.Rows
theorem PySem.Challenge.cw_leastroutes_k37_graphs_made_holds : PySem.Challenge.rw_leastroutes_k37_graphs_made.Holds := by
  w_on; o_law
  refine HandSHeadRun.head_any (r := OpenLaw.row PySem.Challenge.rw_leastroutes_k37_graphs_made) (q := view (OpenLaw.row PySem.Challenge.rw_leastroutes_k37_graphs_made).prog [38]) (H := K37.hk) (ob := K37.ob) (M := 8000) (loose := K37.loose) (d := HandSHeadRun.topDef (OpenLaw.row PySem.Challenge.rw_leastroutes_k37_graphs_made).prog 38) (kwd := []) K37.ob_eq
    (by kernel_rfl) (fun s => by kernel_rfl) K37.run (by kernel_rfl) (by kernel_rfl) (by kernel_rfl) (by rfl) (by first | assumption | decide +kernel) (by decide +kernel) ⟨rfl, rfl, rfl, rfl, rfl, by decide +kernel⟩ ?hw ?hc
  case hw => w_witness2
  case hc =>
    refine LW.walk_law (l := PySem.Challenge.rw_leastroutes_k37_graphs_made) (n := 5) (k := 10) (x := "script") rfl (by kernel_rfl) ⟨rfl, by decide, by decide⟩ ?F
    intro w mg f h K KX G c hf
    have hmg : mg ("law" : PySem.Str) = some (.ref f) := by
      have e : (HandSHeadRun.topDef (OpenLaw.row PySem.Challenge.rw_leastroutes_k37_graphs_made).prog 38).name = ("law" : PySem.Str) := by kernel_rfl
      rw [← e]
      exact hf
    exact K37.end_F w mg f h K _ KX G c hmg
