import PyProof.Rows.All
import Wide.All
import OpenK.AllK
import Wide.FinOn
import HandS.ForExc
import HandS.TryMany
import HandS.ExcField
import HandS.ExcInit
import HandS.ClsMeth
import HandS.IsInst
import HandS.ExcIs
import KE.KExcIs
import HandS.HeadEnd
import PyProof.ReprLen
import PyProof.ReprRoads
import HandS.ForMost
import KE.KDictWalk
import PyProof.InstNe
import KE.KStateDown
import HandS.Defaults
import HandS.Head0
import HandS.Head1
import HandS.Head2
import HandS.HeadHook1
import HandS.HeadHook2
import HandS.HeadHook3
import PyProof.EqKinds
import PyProof.FactsAll.dict
import PyProof.FactsAll.subtypes
import HandS.ExcOwn
import HandS.Conv
import HandS.Flow
import HandS.FStr
import HandS.Text
import HandS.WordsExc
import HandS.Deep
import HandS.Dict
import HandS.Style
import PySem.Challenge.RW_sievemarks_k51_rules_told_and_refused
set_option Elab.async false
set_option linter.all false
set_option maxRecDepth 100000
set_option maxHeartbeats 4000000
/-! SvTry: a try with several clauses, some of them with a name (all the same one), some without. -/
namespace Sv
open PySem PySem.Spec PyProof.Rows L2
/-- a clause's suite, told from the caught exception, its class, its own dict -/
abbrev Suite := Addr → Value → Option Addr → TS
/-- what stands behind a suite whose clause has a name: the name's slot is emptied -/
def endsOut (i : Nat) (D : Ends) : Ends :=
  { nx := fun σ H => D.nx (σ.set i none) H, rt := D.rt, bk := fun σ H => D.bk (σ.set i none) H, ct := fun σ H => D.ct (σ.set i none) H }
/-- the clauses' wish of an exception, one behind the other; true: the clause has the name of slot i -/
def wCl (K : PySem.W.Frag) (i : Nat) (Wout : WX) (D : Ends) : List (Bool × Value × Suite) → WX
  | [] => Wout
  | (nm, c, ts) :: r => fun cls d σ H => ∃ b, PySem.W.exmOne K cls c = some b ∧
      (b = true → ∀ a, H a = none → cond nm (ts a cls d (endsOut i D) (σ.set i (some (.ref a))) H) (ts a cls d D σ H)) ∧
      (b = false → wCl K i Wout D r cls d σ H)
/-- the clauses as they stand in the text -/
inductive ClOk (X : Cx) (n : Str) : List ExceptHandler → List (Bool × Value × Suite) → Prop
  | nil : ClOk X n [] []
  | named {x : Str} {c : Value} {ts : Suite} {b₀ : Stmt} {suite : List Stmt} {np p2 : Pos} {hds : List ExceptHandler} {l : List (Bool × Value × Suite)}
      (hc : Names X x c)
      (hsu : ∀ a oe cls d pn, Zc cls d oe → (∃ vs, oe.data = .fields vs) → PSs (X.suite a ((a, oe) :: pn)) (b₀ :: suite) (ts a cls d))
      (r : ClOk X n hds l) : ClOk X n (.ExceptHandler (some (.Name x np)) (some n) (b₀ :: suite) p2 :: hds) ((true, c, ts) :: l)
  | bare {x : Str} {c : Value} {ts : Suite} {b₀ : Stmt} {suite : List Stmt} {np p2 : Pos} {hds : List ExceptHandler} {l : List (Bool × Value × Suite)}
      (hc : Names X x c)
      (hsu : ∀ a oe cls d pn, Zc cls d oe → (∃ vs, oe.data = .fields vs) → PSs (X.suite a ((a, oe) :: pn)) (b₀ :: suite) (ts a cls d))
      (r : ClOk X n hds l) : ClOk X n (.ExceptHandler (some (.Name x np)) none (b₀ :: suite) p2 :: hds) ((false, c, ts) :: l)
section
variable {X : Cx} {n : Str} {i : Nat} {body : List Stmt} {h₀ : ExceptHandler} {hds : List ExceptHandler} {l : List (Bool × Value × Suite)} {pos : Pos} {tb : WX → TS} {Wout : WX}
theorem ps_try_cl (hs : X.stack = X.env :: X.outer) (hf : X.env.frame = some X.env.locals) (hN : X.N.Nodup) (hi : X.N[i]? = some n) (hln : X.env.kindOf n = some .local) (tk : Takes X Wout)
    (hb : ∀ (W : WX) (pn : List (Addr × Obj)) (xe : Value → Shared → Prop), Takes (X.tr pn xe) W → PassesOwn (model X.prog X.w) X.A X.env xe → PSs (X.tr pn xe) body (tb W))
    (hh : ClOk X n (h₀ :: hds) l) : PS X (.Try body (h₀ :: hds) [] [] pos) (fun D σ H => tb (wCl X.K i Wout D l) D σ H) := by
  refine ⟨fun pins s σ H D I h => ?_⟩
  have ok := I.ok
  have hfr : X.A.frames = some (X.env :: X.outer) := by rw [ok.frames, hs]
  have hloc : Loc X.env.scope n := .inl hln
  refine wpAny_Try_except ?_
  refine wpAny_mono ((hb (wCl X.K i Wout D l) (X.pn ++ pins) (fun e s₁ => wpAny (model X.prog X.w) X.A (noteFrame e X.env)
    (fun _ s₂ => wpAny (model X.prog X.w) X.A (setFlight e none) (fun _ s₃ => wpAny (model X.prog X.w) X.A (handleBy e X.env (h₀ :: hds)) (SP X pins D) X.xe s₃) X.xe s₂) X.xe s₁)
    (fun u s' xx => ?caught) PassesOwn.looking).run [] s σ H D (I.toTry _) h) (fun f s1 hsp => ?fine) (fun e s1 he => he)
  case caught =>
    obtain ⟨a, B, sI, pins', σ', H', cls, d, rfl, J', nb, up, sky, na, os, ag, w⟩ := xx
    have J : Inv X pins σ' H' sI := J'.ofTry ok
    show wpAny (model X.prog X.w) X.A (noteFrame (.ref a) X.env) _ _ _
    refine Sky.land Zc.steady hfr hf (hs ▸ sky) fun h3 fl3 up3 => ?_
    have J3 : Inv X pins σ' H' { s' with heap := h3 } := J.landed nb fl3.1 (up.trans up3) os ag
    obtain ⟨oe3, vs3, he3, hz3, hd3⟩ := fl3.there
    have nfr : a ∉ frs (X.env :: X.outer) := fun hm => by
      obtain ⟨_, o', e', hnf⟩ := fl3.2.2.1.mem hm
      rw [he3] at e'
      cases e'
      exact hnf _ hd3
    have nL : a ≠ X.env.locals := fun z => nfr (List.mem_filterMap.mpr ⟨X.env, List.mem_cons_self, by rw [hf, z]⟩)
    have nF : a ∉ X.fs := fun hm => by
      obtain ⟨e, he, q⟩ := List.mem_filterMap.mp hm
      exact nfr (List.mem_filterMap.mpr ⟨e, List.mem_cons_of_mem _ he, q⟩)
    have S3 := J3.suite he3 hd3 na nL nF
    have LT : PySem.W.Looks (model X.prog X.w) h3 (typeOf (.ref a)) cls := fun A Q E s k q => wpAny_typeOf_ref (k _ _ he3) (by rw [hz3.1]; exact q)
    have test : ∀ {x : Str} {c : Value} {np : Pos} {Q E : Value → Shared → Prop}, Names X x c → Q c { s' with heap := h3 } →
        wpAny (model X.prog X.w) (X.A.mark (some (.ref a))) (eval (.Name x np) X.env) Q E { s' with heap := h3 } := by
      intro x c np Q E hc q
      obtain ⟨hg, hdbg, hm | ⟨hm, hv, hnn⟩⟩ := hc
      · exact ld_glob (X := X.suite a ((a, oe3) :: (X.pn ++ pins))) S3 hg hm q hdbg
      · exact ld_blt (X := X.suite a ((a, oe3) :: (X.pn ++ pins))) S3 hg hm hv q hnn hdbg
    have go : ∀ {hds' : List ExceptHandler} {l' : List (Bool × Value × Suite)}, ClOk X n hds' l' → wCl X.K i Wout D l' cls d σ' H' →
        wpAny (model X.prog X.w) X.A (handleBy (.ref a) X.env hds') (SP X pins D) X.xe { s' with heap := h3 } := by
      intro hds' l' hk
      induction hk with
      | nil =>
        intro w
        refine wpAny_handleBy_nil ?_
        obtain ⟨k1, k2, k3, oe, vs, T, oT, ts', he, hz, hd, h1, hr⟩ := id fl3
        unfold PySem.passOn
        refine wpAny_bind (wpAny_field he hd h1 ?_)
        rw [if_neg (show ¬ ((Value.ref T == Value.none) = true) from by simp)]
        have fin : wpAny (model X.prog X.w) X.A (setFlight (.ref a) X.env.frame) (fun _ s4 => wpAny (model X.prog X.w) X.A (throw (.ref a) : Sem Flow) (SP X pins D) X.xe s4) X.xe { s' with heap := h3 } := by
          rw [hf]
          refine HandSPX.setFlight_upZ fl3 fun h4 hh4 up4 => wpAny_throw (tk _ _ ?_)
          exact ⟨a, B, sI, pins, σ', H', cls, d, rfl, J, nb, (up.trans up3).trans up4, .inr (.inr (by rw [hs]; exact hh4)), na, os, ag, w⟩
        first
          | exact wpAny_bind (wpAny_pure (wpAny_bind fin))
          | exact wpAny_bind fin
      | @named x c ts b₀ suite np p2 hds2 l2 hc hsu r ih =>
        intro w
        obtain ⟨b, hb1, hyes, hno⟩ := w
        refine wpAny_handleBy_cons (codeAny_handlers_test ?_) (by intro q; cases q)
        refine test hc ((PySem.W.exm_one (M := model X.prog X.w) J3.kIn LT hb1).here ?_)
        cases b with
        | true =>
          refine codeAny_handlers_suite_as ?_
          refine HandSPX.lands_againZ fl3 fun h4 fl4 up4 => ?_
          have J4 : Inv X pins σ' H' { s' with heap := h4 } := J.landed nb fl4.1 ((up.trans up3).trans up4) os ag
          obtain ⟨oe4, vs4, he4, hz4, hd4⟩ := fl4.there
          have S4 := J4.suite he4 hd4 na nL nF
          refine store_ok (X := X.suite a ((a, oe4) :: (X.pn ++ pins))) (v := .ref a) S4 hN hi hloc rfl (fun s5 S5 => ?_) (.inr hln)
          refine wpAny_mono ((hsu a oe4 cls d (X.pn ++ pins) hz4 ⟨_, hd4⟩).run [] s5 _ H' _ S5 (hyes rfl a na)) (fun f s6 hsp => ?_) (fun _ _ z => False.elim z)
          have out : ∀ {σ6 : L2.St} {H6 : Hp} {Q : Shared → Prop}, Inv (X.suite a ((a, oe4) :: (X.pn ++ pins))) [] σ6 H6 s6 → (∀ s7, Inv X pins (σ6.set i none) H6 s7 → Q s7) →
              wpAny (model X.prog X.w) X.A (do bindName X.env n .none; unbindBehindTheSuite X.env n p2) (fun _ s7 => Q s7) X.xe s6 :=
            fun S6 hq => gone_ok (S6.unsuite ok) hN hi hln hq
          cases f with
          | next => exact let ⟨_, _, S6, q6⟩ := hsp; out S6 fun s7 J7 => ⟨_, _, J7, q6⟩
          | brk => exact let ⟨_, _, S6, q6⟩ := hsp; out S6 fun s7 J7 => ⟨_, _, J7, q6⟩
          | cont => exact let ⟨_, _, S6, q6⟩ := hsp; out S6 fun s7 J7 => ⟨_, _, J7, q6⟩
          | ret u => exact let ⟨_, _, _, S6, r6, q6⟩ := hsp; out S6 fun s7 J7 => ⟨_, _, _, J7, r6, q6⟩
        | false =>
          show wpAny _ X.A (handleBy (.ref a) X.env hds2) _ _ _
          exact ih (hno rfl)
      | @bare x c ts b₀ suite np p2 hds2 l2 hc hsu r ih =>
        intro w
        obtain ⟨b, hb1, hyes, hno⟩ := w
        refine wpAny_handleBy_cons (codeAny_handlers_test ?_) (by intro q; cases q)
        refine test hc ((PySem.W.exm_one (M := model X.prog X.w) J3.kIn LT hb1).here ?_)
        cases b with
        | true =>
          refine codeAny_handlers_suite ?_
          refine HandSPX.lands_againZ fl3 fun h4 fl4 up4 => ?_
          have J4 : Inv X pins σ' H' { s' with heap := h4 } := J.landed nb fl4.1 ((up.trans up3).trans up4) os ag
          obtain ⟨oe4, vs4, he4, hz4, hd4⟩ := fl4.there
          have S4 := J4.suite he4 hd4 na nL nF
          refine wpAny_mono ((hsu a oe4 cls d (X.pn ++ pins) hz4 ⟨_, hd4⟩).run [] _ _ H' _ S4 (hyes rfl a na)) (fun f s6 hsp => ?_) (fun _ _ z => False.elim z)
          cases f with
          | next => exact let ⟨_, _, S6, q6⟩ := hsp; ⟨_, _, S6.unsuite ok, q6⟩
          | brk => exact let ⟨_, _, S6, q6⟩ := hsp; ⟨_, _, S6.unsuite ok, q6⟩
          | cont => exact let ⟨_, _, S6, q6⟩ := hsp; ⟨_, _, S6.unsuite ok, q6⟩
          | ret u => exact let ⟨_, _, _, S6, r6, q6⟩ := hsp; ⟨_, _, _, S6.unsuite ok, r6, q6⟩
        | false =>
          show wpAny _ X.A (handleBy (.ref a) X.env hds2) _ _ _
          exact ih (hno rfl)
    exact go hh w
  case fine =>
   cases f with
   | next => exact let ⟨_, _, J', q⟩ := hsp; wpAny_execs_nil ⟨_, _, J'.ofTry ok, q⟩
   | brk => exact let ⟨_, _, J', q⟩ := hsp; ⟨_, _, J'.ofTry ok, q⟩
   | cont => exact let ⟨_, _, J', q⟩ := hsp; ⟨_, _, J'.ofTry ok, q⟩
   | ret u => exact let ⟨_, _, _, J', r, q⟩ := hsp; ⟨_, _, _, J'.ofTry ok, r, q⟩
end
end Sv
set_option Elab.async false
set_option linter.all false
set_option maxRecDepth 100000
set_option maxHeartbeats 4000000
/-! SvExc: an own base class's __init__ called by its name; isinstance of a caught exception that has fields. -/
namespace Sv
open PySem PySem.Spec PyProof.Rows L2
section
variable {X : Cx} {e : Expr} {es : List Expr} {ta : TA} {x : Str} {D : Addr} {p1 p2 pos : Pos}
/-- Base.__init__(self, ..), Base an own class without an __init__ of its own, over ValueError -/
theorem pe_baseinit {pl : Sem Bool} (hg : Gl X x) (hm : X.mg x = some (.ref D)) (R : ClX.CRead X.K D (.type "type"))
    (hv : PySem.W.findCls X.K (.ref D) (.type "type") "__init__" = some (.val (.builtin "ValueError.__init__"))) (ha : PA X (e :: es) ta)
    (hdb : (x == ("__debug__" : Str)) = false := by decide)
    (hc : eval (.Call (.Attribute (.Name x p1) "__init__" p2) (e :: es) [] pos) X.env = (do
      let u ← eval (.Name x p1) X.env
      standAt p2.atName
      let (g, first) ← holding [u] (getMethod u "__init__" pl)
      callWith pos g first (backTo pos (starEach (e :: es) X.env)) (backToKw pos (keywordEach [] X.env))) := by rfl)
    (he : starEach (e :: es) X.env = (false, eval e X.env) :: starEach es X.env := by rfl)
    (hpl : (backTo pos (starEach es X.env)).any (·.1) = false := by rfl) :
    PE X (.Call (.Attribute (.Name x p1) "__init__" p2) (e :: es) [] pos) (tVeI X.K ta) := by
  refine ⟨fun pins s σ H Q I h => ?_⟩
  refine PySem.W.methodCall_KW (ld_glob I hg hm ?_ hdb) hc
  refine PySem.W.method_cls I.kIn R.ga (PySem.W.cls_value I.kIn R.rd hv (by decide +kernel) ?_)
  show wpAny _ _ (callWith pos (Value.builtin "ValueError.__init__") [] (backTo pos (starEach (e :: es) X.env)) []) _ _ _
  refine PyProof.Rows.callWith_method1 (thn (ha.run pos pins _ σ H _ (I.tok _) h) fun us s1 hh => ?_) he hpl
  obtain ⟨vs, H1, I1, r1, a, C, ws, ev, hl, T, ea, q⟩ := hh
  subst ev
  cases r1 with
  | cons ra rw' =>
    cases ra
    have hlen := Paired.length rw'
    exact oinit_ok T I1 ea (by rw [sizeLine_eq]; omega) fun s' J => ⟨.non, H1, J, rfl, q⟩
end

/-- isinstance(e, c), e the exception that the suite holds: its class at D, its dict told -/
def rIsX (K : PySem.W.Frag) (a : Addr) (cls : Value) (d : Option Addr) : List V → Hp → VK → Prop := fun xs H Q =>
  ∃ (D dd : Addr) (fs : List (Str × V)) (c : V) (cv : Value) (b : Bool), cls = .ref D ∧ d = some dd ∧ ExcC K D ∧ H dd = some (.xd fs) ∧ xs = [.ref a, c] ∧
    (∀ u, RelV c u → u = cv) ∧ PySem.W.kitOne K (.ref D) cv = some b ∧ Q (.bl b) H
theorem call_isX {X : Cx} {a : Addr} {oe : Obj} {cls : Value} {d : Option Addr} {pn : List (Addr × Obj)} (hz : Zc cls d oe) (hf : ∃ vs, oe.data = .fields vs) :
    CallR (X.suite a ((a, oe) :: pn)) (.builtin "isinstance") (rIsX X.K a cls d) := by
  intro pins s σ H xs us Q I r h
  obtain ⟨D, dd, fs, c, cv, b, rfl, rfl, C, hx, rfl, hcv, e, q⟩ := h
  cases r with
  | cons rx rr =>
    cases rr with
    | cons rt rr =>
      cases rr
      cases rx
      obtain rfl := hcv _ rt
      have hget := (I.pin (a, oe) (List.mem_append.mpr (.inl List.mem_cons_self))).1
      obtain ⟨vs, hv⟩ := hf
      have hxd : ObjOk X.prog X.w H s.heap dd (.xd fs) := I.hok dd _ hx
      obtain ⟨mA, ⟨od, es, ep, hod, -, -⟩, -⟩ := hxd
      have J : PySem.W.InstAt s.heap a oe D (some od) := by
        obtain ⟨oc, odd, oda, osl⟩ := oe
        obtain ⟨h1, h2⟩ := hz
        dsimp only at h1 h2 hv
        subst h1 h2 hv
        exact ⟨hget, rfl, rfl, hod⟩
      have hcl : (PySem.W.clsIn X.K D).isSome = true := by
        obtain ⟨cd, hc, _⟩ := PySem.W.any_some C.hd
        rw [hc]
        rfl
      exact PySem.W.kia_one (PySem.W.kitx_exc hcl C.hg C.hk C.hs C.ha C.hn C.ht C.hm) I.kIn J e (fun z => nomatch z) fun tk => ⟨.bl b, H, I.kept (t' := tk) fun _ _ z => z, rfl, q⟩
end Sv
set_option Elab.async false
set_option linter.all false
set_option maxRecDepth 100000
set_option maxHeartbeats 4000000
/-! SvG: defs that are called where no repr is under way (the guards of the stack are known to be none), and repr of data there. -/
namespace Sv
open PySem PySem.Spec PyProof.Rows L2
/-- a def keeps its promise wherever no guard stands on the stack -/
structure FnG (P : Program) (w : World) (K : PySem.W.Frag) (mg : Str → Option Value) (base : Heap) (CX : CXT) (k : Nat) (f : Addr) (fd : FuncData) (ps : List Str) (sp : Sp) : Prop where
  len : ∀ vs H Q E, sp vs H Q E → vs.length = ps.length
  run : ∀ (A : Around) (outer : List Env) (s : Shared) (H : Hp) (args : Args) (us : List Value) (vs : List V) (Q : VK) (E : XK), A.guards = some [] → Room k A →
    Env0 P w K mg base A outer s H → BindsTo s fd args (ps.zip us) → Vals vs us → sp vs H Q E → codeAny (model P w) A (.call (.ref f) args) (CR CX outer P w H s Q E) s
section
variable {P : Program} {w : World} {K : PySem.W.Frag} {mg : Str → Option Value} {base : Heap} {CX : CXT} {k : Nat} {f : Addr} {fd : FuncData} {N ps : List Str} {sp : Sp}
/-- the body of such a def: as Fun.ok, the guards told -/
theorem okG {x qual : Str} {st : Stmt} (F : Fun K x qual st f fd) (S : FnScope N ps (defScope st)) (len : ∀ vs H Q E, sp vs H Q E → vs.length = ps.length)
    (hbody : ∀ (cdv : Value) (A : Around) (outer : List Env) (s : Shared) (H : Hp) (vs : List V) (Q : VK) (E : XK), A.guards = some [] →
      Room k (A.deeper (envOfC qual (defScope st) s.heap.objs.size f cdv)) → sp vs H Q E →
      ∃ t, PSs (cxOf CX0 P w K mg base N qual (defScope st) f cdv A outer s H E).nox (defBody st) t ∧ t { nx := fun _ H' => Q .non H', rt := Q } (start N vs) H) :
    FnG P w K mg base CX0 (k + 1) f fd ps sp := by
  obtain ⟨oc, od, kV, doc, pm, an, cdv, ct, osl, rfl, lk, hcd⟩ := F.ex
  refine ⟨len, fun A outer s H args us vs Q E hg hr e0 hb r hsp => ?_⟩
  -- the def's own rule, at this one place
  have lim : s.heap.NoLimit := e0.mod.nolimit.keeps fun b o e => (e0.bs b o e).1
  have KX : K.In s.heap := e0.mod.kin.keeps fun b o e => (e0.bs b o e).1
  have hl := len _ _ _ _ hsp
  have hkind : ∀ y ∈ ps.zip us, (defScope st).names.lookup y.1 = some .local ∨
      ((defScope st).names.lookup y.1 = some .cell ∧ ((cellsFrom (s.heap.objs.size + 1) (defScope st).names []).lookup y.1).isSome = true) := by
    intro y hy
    obtain ⟨n, v⟩ := y
    rcases S.par n (List.of_mem_zip hy).1 with q | q
    · exact .inl q
    · exact .inr ⟨q, PySem.W.cellsFrom_some _ _ _ (.inl q)⟩
  refine codeAny_call_function hr.depth (KX _ _ lk) rfl S.co S.gen rfl (PySem.W.codeRec_of KX hcd) (hb _ _ _ _ (wpAny_newFunctionEnv_cells S.kind hkind fun env he s1 x => ?_))
  subst he
  refine ⟨lim.keeps x.toInCall.keep, codeAny_func ?_⟩
  obtain ⟨t, ht, hq⟩ := hbody cdv A outer s H vs Q E hg (hr.deeper _) hsp
  have I : Inv (cxOf CX0 P w K mg base N qual (defScope st) f cdv A outer s H E) [] (start N vs) H s1 := inv_start S hr.hd e0 hl r x
  refine wpAny_mono (ht.nox.run [] s1 (start N vs) H _ I hq) (fun fl s' hs => ?_) fun e s' hs => hs
  cases fl with
  | ret u => exact let ⟨v, _, H', J, rv, q⟩ := hs; ⟨v, H', J.os, J.bare, J.base, J.hok, rv, q⟩
  | next => exact let ⟨_, H', J, q⟩ := hs; ⟨.non, H', J.os, J.bare, J.base, J.hok, rfl, q⟩
  | brk => exact let ⟨_, _, _, q⟩ := hs; False.elim q
  | cont => exact let ⟨_, _, _, q⟩ := hs; False.elim q
theorem FnG.mono {j : Nat} (F : FnG P w K mg base CX j f fd ps sp) (h : j ≤ k) : FnG P w K mg base CX k f fd ps sp :=
  ⟨F.len, fun A outer s H args us vs Q E hg hr => F.run A outer s H args us vs Q E hg (hr.mono h)⟩
end
section
variable {X : Cx} {CX : CXT} {k : Nat} {f : Addr} {fd : FuncData} {ps : List Str} {sp : Sp} {dvs : List V} {ds : List Value} {E : XK} {x : Str} {p pos : Pos} {e : Expr} {es : List Expr} {t : TA}
theorem runG {pins : List (Addr × Obj)} {σ : L2.St} {H : Hp} {s : Shared} {Q : VK} {us : List Value} {vs : List V} (F : FnG X.prog X.w X.K X.mg X.base CX k f fd ps sp) (hG : X.A.guards = some [])
    (hr : Room k X.A) (hb : Binds X.K fd ps ds) (hd : Vals dvs ds) (hx : Passes CX X E) (I : Inv X pins σ H s) (r : Vals vs us) (h : sp (vs ++ dvs) H Q E) :
    wpAny (model X.prog X.w) X.A (call (.ref f) us) (EP X pins σ Q) X.xe s := by
  have r2 := r.append hd
  have hl : (us ++ ds).length = ps.length := r2.length.symm.trans (F.len _ _ _ _ h)
  refine wpAny_call (codeAny_mono (F.run X.A X.stack s H ⟨us, []⟩ (us ++ ds) (vs ++ dvs) Q E hG hr I.env0 (hb s us I.kIn hl) r2 h) fun r s' hq => ?_)
  cases r with
  | error e => exact hx pins σ H s e s' I hq
  | ok fl =>
    cases fl with
    | ret u => exact I.after hq
    | next => exact False.elim hq
    | brk => exact False.elim hq
    | cont => exact False.elim hq
theorem pe_callG (F : FnG X.prog X.w X.K X.mg X.base CX k f fd ps sp) (hG : X.A.guards = some []) (hr : Room k X.A) (hg : Gl X x) (hm : X.mg x = some (.ref f)) (hk : PySem.W.keepIn X.K (.ref f) = true)
    (hb : Binds X.K fd ps ds) (hd : Vals dvs ds) (hx : Passes CX X E) (ha : PA X (e :: es) t) (hdb : (x == ("__debug__" : Str)) = false := by decide)
    (he : starEach (e :: es) X.env = (false, eval e X.env) :: starEach es X.env := by rfl) (hpl : (backTo pos (starEach es X.env)).any (·.1) = false := by rfl) :
    PE X (.Call (.Name x p) (e :: es) [] pos) (tCall sp dvs E t) := by
  refine ⟨fun pins s σ H Q I h => wpAny_Call_Name_kw (ld_glob I hg hm ?_ hdb)⟩
  refine PySem.W.callWith_K (h₀ := X.base) I.ok.mod.kin hk (thn (ha.run pos pins s σ H _ I h) fun us s1 hh => ?_) he hpl
  obtain ⟨vs, H1, I1, r, q⟩ := hh
  exact ⟨I1.kIn, runG F hG hr hb hd hx I1 r q⟩
theorem pe_callG0 (F : FnG X.prog X.w X.K X.mg X.base CX k f fd ps sp) (hG : X.A.guards = some []) (hr : Room k X.A) (hg : Gl X x) (hm : X.mg x = some (.ref f)) (hk : PySem.W.keepIn X.K (.ref f) = true)
    (hb : Binds X.K fd ps ds) (hd : Vals dvs ds) (hx : Passes CX X E) (hdb : (x == ("__debug__" : Str)) = false := by decide) : PE X (.Call (.Name x p) [] [] pos) (tCall sp dvs E tNil) :=
  ⟨fun pins s σ H Q I h => wpAny_Call_Name_kw (ld_glob I hg hm (PySem.W.callWith_K0 I.kIn hk (runG (us := []) F hG hr hb hd hx I .nil h)) hdb)⟩
end
/-! ### the law's own call -/
theorem lawG {P : Program} {w : World} {K : PySem.W.Frag} {mg mb : Str → Option Value} {k : Nat} {fa a : Addr} {fd : FuncData} {x : Str} {sp : Sp} {s₁ : Shared} {vs : List Value} {ns : List Int}
    (KX : K.In s₁.heap) (hns : s₁.heap.Ns mainGlobals mg) (hb : s₁.heap.Ns builtinsNs mb) (hbb : ∀ x : Str, x ≠ "__name__" → mb x = bootBuiltins x) (hlim : s₁.heap.NoLimit) (hg : s₁.gens = #[])
    (ha : s₁.heap.get? a = some { cls := .type "list", data := .seq vs.toArray }) (hi : IntsAre vs ns) (hl : ns.length ≤ sizeLine) (hr : Room k callerA)
    (F : ∀ base : Heap, K.In base → base.Ns mainGlobals mg → FnG P w K mg base CX0 k fa fd [x] sp) (hbind : ∀ (s : Shared) (u : Value), BindsTo s fd ⟨[u], []⟩ [(x, u)])
    (hsp : ∀ H : Hp, Only H → SqL K H a (ns.map V.int) → sp [.ref a] H (fun v _ => v = .bl true) fun _ _ _ => False) :
    codeAny (model P w) callerA (.call (.ref fa) ⟨[.ref a], []⟩) (fun r s' => r = .ok (.ret (.bool true)) ∧ OldK s₁.heap s'.heap ∧ s'.os = s₁.os ∧ AllBare s'.gens) s₁ := by
  have rv := vals_ints hi
  have core : ∀ H : Hp, Only H → SqL K H a (ns.map V.int) → HOk P w H s₁.heap → (∀ b, H b ≠ none → b = a) → (H a ≠ none → K.lookup a = none) →
      codeAny (model P w) callerA (.call (.ref fa) ⟨[.ref a], []⟩) (fun r s' => r = .ok (.ret (.bool true)) ∧ OldK s₁.heap s'.heap ∧ s'.os = s₁.os ∧ AllBare s'.gens) s₁ := by
    intro H hO hS hok hA hK
    have dictFree : ∀ {b : Addr} {o : Obj} {es : Array DictEntry} {ep : Nat}, s₁.heap.get? b = some o → o.data = .dict es ep → H b = none := by
      intro b o es ep e d
      by_cases q : H b = none
      · exact q
      · obtain rfl := hA b q
        rw [ha] at e
        cases e
        cases d
    have nsK : ∀ {b : Addr} {m : Str → Option Value}, s₁.heap.Ns b m → (hidT s₁.heap H).Ns b m := by
      rintro b m ⟨o, es, ep, e, d, r⟩
      exact ⟨o, es, ep, hidT_get e (dictFree e d), d, r⟩
    have hKb : K.In (hidT s₁.heap H) := by
      intro b o e
      refine hidT_get (KX b o e) ?_
      by_cases q : H b = none
      · exact q
      · obtain rfl := hA b q
        rw [hK q] at e
        cases e
    obtain ⟨mc, l1, l2⟩ := hlim
    have hM : Mod K mg (hidT s₁.heap H) := ⟨hKb, nsK hns, ⟨mb, nsK hb, hbb⟩, ⟨mc, nsK l1, l2⟩⟩
    have e0 : Env0 P w K mg (hidT s₁.heap H) callerA [] s₁ H :=
      ⟨rfl, hM, fun b o e => of_hidT e, Nat.le_of_eq (hidT_size _ _), trivial, fun b hb => absurd (show b ∈ ([] : List Addr) from hb) (by simp), hok, .of_eq hg⟩
    refine codeAny_mono ((F _ hKb (nsK hns)).run callerA [] s₁ H ⟨[.ref a], []⟩ [.ref a] [.ref a] _ _ rfl hr e0 (hbind s₁ (.ref a)) (.cons rfl .nil) (hsp H hO hS)) fun r s' h => ?_
    cases r with
    | error e => exact False.elim h
    | ok fl =>
      cases fl with
      | next => exact False.elim h
      | brk => exact False.elim h
      | cont => exact False.elim h
      | ret u =>
        obtain ⟨v, H', os, bare, un, hok', r', q⟩ := h
        have q' : v = .bl true := q
        subst q'
        obtain rfl : u = Value.bool true := r'
        refine ⟨rfl, OldK.of_keep fun b o e => ?_, os, bare⟩
        rcases hO b with z | ⟨ob, xs, z⟩
        · exact un.keep b o e z (by intro y; exact absurd (show b ∈ ([] : List Addr) from y) (by simp)) (by simp)
        · have e1 := (hok b _ z).1
          have e2 := (hok' b _ (un.frzs b ob _ z)).1
          rw [e] at e1
          cases e1
          exact e2
  by_cases hk : K.lookup a = none
  · refine core (fun b => if b = a then some (.frz { cls := .type "list", data := .seq vs.toArray } (.lst (ns.map V.int))) else none) (fun b => ?_)
      (.inl (.inr ⟨{ cls := .type "list", data := .seq vs.toArray }, if_pos rfl⟩)) (fun b u z => ?_) (fun b z => ?_) fun _ => hk
    · by_cases hb : b = a
      · exact .inr ⟨_, _, if_pos hb⟩
      · exact .inl (if_neg hb)
    · by_cases hb : b = a
      · have z' := (if_pos hb).symm.trans z
        cases z'
        subst hb
        exact ⟨ha, by rw [List.length_map]; exact hl, vs, _, rv, ha⟩
      · cases (if_neg hb).symm.trans z
    · by_cases hb : b = a
      · exact hb
      · exact absurd (if_neg hb) z
  · obtain ⟨o, hk⟩ := Option.ne_none_iff_exists'.mp hk
    have e := KX a o hk
    rw [ha] at e
    cases e
    exact core (fun _ => none) (fun _ => .inl rfl) (.inr ⟨_, vs.toArray, _, hk, rfl, rfl, rfl, by rw [List.size_toArray, hi.length]; exact hl, by simpa using rv⟩)
      (fun b u z => by cases (show (none : Option HO) = some u from z)) (fun b z => absurd rfl z) fun z => absurd rfl z
/-- the goal that the head leaves, from the law's promise (the written part told by any Hook) -/
theorem walkG {l : PySem.W.OpenLaw} {n k : Nat} {q : Program} {loose : List Str} {XP : (Str → Option Value) → Heap → Prop} {YP : World → Heap → Prop} {d : DefRec} {x : Str}
    (hn : l.most = some n) (hn2 : n ≤ sizeLine) (hdf : d.params.defaults = []) (hr : Room k callerA)
    (F : ∀ (w : World) (mg : Str → Option Value) (fa : Addr) (h : Heap), YP w h → h.Ns mainGlobals mg → mg d.name = some (.ref fa) →
      ∃ (K : PySem.W.Frag) (fd : FuncData) (sp : Sp), K.In h ∧ (∀ (s : Shared) (u : Value), BindsTo s fd ⟨[u], []⟩ [(x, u)]) ∧
        (∀ (H : Hp) (a : Addr) (ns : List Int), ns.length ≤ n → Only H → SqL K H a (ns.map V.int) → sp [.ref a] H (fun v _ => v = .bl true) fun _ _ _ => False) ∧
        ∀ base : Heap, K.In base → base.Ns mainGlobals mg → FnG l.prog w K mg base CX0 k fa fd [x] sp) :
    PySem.W.WalkO q loose XP YP l.row.toRowW d [] (fun f vs => PySem.call f vs) := by
  refine Att.attach_call hn hdf fun w s₀ s₁ mg mb fa o pm cd doc a vs ns G Y ho hd hcd hmg hobj hints hlen hg => ?_
  obtain ⟨K, fd, sp, KX, hb, hsp, hF⟩ := F w mg fa _ Y G.T.g hmg
  exact lawG KX G.T.g G.T.b G.T.builtins G.T.nolimit hg hobj hints (Nat.le_trans hlen hn2) hr hF hb fun H hO hS => hsp H a ns hlen hO hS
end Sv
set_option Elab.async false
set_option linter.all false
set_option maxRecDepth 100000
set_option maxHeartbeats 4000000
/-! SvRepr: repr of data (lists and tuples at any depth; dicts of flat things, and tuples over them). -/
namespace Sv
open PySem PySem.Spec PyProof.Rows L2
/-- a flat thing as data -/
inductive Flat1 : V → PyData → Prop
  | non : Flat1 .non .none
  | bl (b : Bool) : Flat1 (.bl b) (.bool b)
  | int (i : Int) : Flat1 (.int i) (.int i)
  | str (x : Str) : Flat1 (.str x) (.str x)
theorem Flat1.reads {h : Heap} {v : V} {d : PyData} {u : Value} (f : Flat1 v d) (r : RelV v u) : Reads h u d [] := by
  cases f with
  | non => cases r; exact .none
  | bl b => cases r; exact .bool b
  | int i => obtain ⟨t, rfl⟩ := r; exact .int i t
  | str x => obtain ⟨t, rfl⟩ := r; exact .str x t
def keyD : Key → PyData
  | .inl i => .int i
  | .inr x => .str x
mutual
/-- flat things, dicts of flat things, tuples of these: no list among them -/
inductive Dz (K : PySem.W.Frag) (H : Hp) : V → PyData → Prop
  | flat {v : V} {d : PyData} : Flat1 v d → Dz K H v d
  | dict {a : Addr} {kvs : List (Key × V)} {ds : List PyData} : H a = some (.dK kvs) → Paired Flat1 (kvs.map (·.2)) ds → Dz K H (.ref a) (.dict ((kvs.map fun p => keyD p.1).zip ds))
  | tup {a : Addr} {xs : List V} {ds : List PyData} : SqT K H a xs → DzAll K H xs ds → Dz K H (.ref a) (.tuple ds)
inductive DzAll (K : PySem.W.Frag) (H : Hp) : List V → List PyData → Prop
  | nil : DzAll K H [] []
  | cons {v : V} {vs : List V} {d : PyData} {ds : List PyData} : Dz K H v d → DzAll K H vs ds → DzAll K H (v :: vs) (d :: ds)
end
theorem readsAll_flat {h : Heap} : ∀ {vs : List V} {ds : List PyData} {us : List Value}, Paired Flat1 vs ds → Vals vs us → ReadsAll h us ds []
  | _, _, _, .nil, .nil => .nil
  | _, _, _, .cons f t, .cons r q => by
    have := ReadsAll.cons (f.reads (h := h) r) (readsAll_flat t q)
    simpa using this
theorem readsAll_keys {P : Program} {w : World} {h : Heap} : ∀ {es : List DictEntry} {kvs : List (Key × Value)}, Pairs (mixKind P w) es kvs → ReadsAll h (es.map (·.key)) (kvs.map fun p => keyD p.1) []
  | _, _, .nil => .nil
  | _, _, .cons (e := e) (kv := kv) hk _ t => by
    have one : Reads h e.key (keyD kv.1) [] := by
      rcases keyIs_shape (show keyIs kv.1 _ = true from hk) with ⟨i, u, e1, e2⟩ | ⟨x, u, e1, e2⟩
      · rw [e1, e2]; exact .int i u
      · rw [e1, e2]; exact .str x u
    have := ReadsAll.cons one (readsAll_keys t)
    simpa using this
theorem pairs_vals {P : Program} {w : World} : ∀ {es : List DictEntry} {kvs : List (Key × Value)}, Pairs (mixKind P w) es kvs → es.map (·.val) = kvs.map (·.2)
  | _, _, .nil => rfl
  | _, _, .cons _ hv t => by rw [List.map_cons, List.map_cons, hv, pairs_vals t]
theorem kv_split : ∀ {kvs : List (Key × V)} {vs : List (Key × Value)}, KV kvs vs → kvs.map (·.1) = vs.map (·.1) ∧ Vals (kvs.map (·.2)) (vs.map (·.2))
  | _, _, .nil => ⟨rfl, .nil⟩
  | _, _, .cons r t => by
    obtain ⟨h1, h2⟩ := kv_split t
    exact ⟨by rw [List.map_cons, List.map_cons, r.1, h1], .cons r.2 h2⟩
section
variable {X : Cx} {pins : List (Addr × Obj)} {σ : L2.St} {H : Hp} {s : Shared}
mutual
theorem Dz.reads (I : Inv X pins σ H s) : ∀ {v : V} {d : PyData} {u : Value}, Dz X.K H v d → RelV v u → ∃ as, Reads s.heap u d as ∧ sysModules ∉ as
  | _, _, _, .flat f, r => ⟨[], f.reads r, by simp⟩
  | _, _, _, .dict (a := a) (kvs := kvs) (ds := ds) e hf, r => by
    cases r
    obtain ⟨hz, hns, vs, rk, o, es, ep, ho, hx, hd, hk, hp, -⟩ := I.hok a _ e
    obtain ⟨k1, k2⟩ := kv_split rk
    have hl : (kvs.map fun p => keyD p.1).length = ds.length := by
      have := Paired.length hf
      simp only [List.length_map] at this ⊢
      exact this
    have hl2 : ds.length = (kvs.map fun p => keyD p.1).length := hl.symm
    refine ⟨[a], ?_, fun hm => ?_⟩
    · have e1 : ((kvs.map fun p => keyD p.1).zip ds).map (·.1) = vs.map fun p => keyD p.1 := by
        rw [List.map_fst_zip (by omega)]
        have h1 : (kvs.map (·.1)).map keyD = (vs.map (·.1)).map keyD := by rw [k1]
        rw [List.map_map, List.map_map] at h1
        exact h1
      have e2 : ((kvs.map fun p => keyD p.1).zip ds).map (·.2) = ds := List.map_snd_zip (by omega)
      have R := Reads.dict (h := s.heap) (kvs := (kvs.map fun p => keyD p.1).zip ds) (as := []) (bs := []) ho hx.1 hd (by rw [e1]; exact readsAll_keys hp) (by rw [e2, pairs_vals hp]; exact readsAll_flat hf k2)
      simpa using R
    · have : sysModules = a := by simpa using hm
      rw [this] at hns
      simp at hns
  | _, _, _, .tup hs ha, r => by
    cases r
    obtain ⟨its, rv, ⟨o, ho, hc, n, hd⟩, _⟩ := I.tuple hs
    obtain ⟨as, hr, hn⟩ := Dz.readsAll I ha rv
    exact ⟨as, Reads.tuple ho hc hd (by simpa using hr), hn⟩
theorem Dz.readsAll (I : Inv X pins σ H s) : ∀ {vs : List V} {ds : List PyData} {us : List Value}, DzAll X.K H vs ds → Vals vs us → ∃ as, ReadsAll s.heap us ds as ∧ sysModules ∉ as
  | _, _, _, .nil, .nil => ⟨[], .nil, by simp⟩
  | _, _, _, .cons h1 h2, .cons r1 r2 => by
    obtain ⟨as, q1, n1⟩ := Dz.reads I h1 r1
    obtain ⟨bs, q2, n2⟩ := Dz.readsAll I h2 r2
    exact ⟨as ++ bs, .cons q1 q2, fun z => (List.mem_append.mp z).elim n1 n2⟩
end
end
/-- data that repr shows within the line -/
structure Shw (d : PyData) : Prop where
  able : d.showable = true
  deep : d.depth ≤ 60
  short : d.shown.length ≤ sizeLine
theorem Shw.of {d : PyData} (h1 : d.showable = true) (h2 : d.depth ≤ 60) (h3 : d.leavesShort 64 = true) (h4 : d.weight ≤ 131072) : Shw d := by
  refine ⟨h1, h2, Nat.le_trans (PyData.shown_le 64 (by decide) d h3) ?_⟩
  rw [sizeLine_eq]
  omega
/-- repr(x) -/
def rRepr (K : PySem.W.Frag) : List V → Hp → VK → Prop := fun xs H Q => ∃ (x : V) (d : PyData), xs = [x] ∧ ((Dp K H x d ∧ d.hasDict = false) ∨ Dz K H x d) ∧ Shw d ∧ Q (.str d.shown) H
theorem call_repr {X : Cx} (hG : X.A.guards = some []) (hu : X.A.units + 100 < cLine) : CallR X (.builtin "repr") (rRepr X.K) := by
  intro pins s σ H xs us Q I r h
  obtain ⟨x, d, rfl, hd, hs, q⟩ := h
  obtain ⟨u, rfl, ru⟩ := vals1 r
  have R : ∃ as, Reads s.heap u d as ∧ (d.hasDict = true → sysModules ∉ as) := by
    rcases hd with ⟨h1, h2⟩ | h1
    · obtain ⟨as, hr⟩ := Dp.reads I d x u h1 ru
      exact ⟨as, hr, fun z => by rw [h2] at z; cases z⟩
    · obtain ⟨as, hr, hn⟩ := Dz.reads I h1 ru
      exact ⟨as, hr, fun _ => hn⟩
  obtain ⟨as, hr, hn⟩ := R
  have fin : ∀ (h' : Heap) (t : Tok) (tk : Nat), (∀ b o, s.heap.get? b = some o → h'.get? b = some o) → EP X pins σ Q (.str d.shown t) { s with heap := h', toks := tk } :=
    fun h' t tk k => ⟨.str d.shown, H, I.kept (t' := tk) k, ⟨t, rfl⟩, q⟩
  have hdp := hs.deep
  cases hr with
  | none => exact PySem.P.repr_of_none (fin s.heap _ _ fun _ _ z => z)
  | bool b =>
    refine PySem.P.repr_of_bool ?_
    have := fin s.heap s.toks (s.toks + 1) fun _ _ z => z
    simpa only [PyData.shown] using this
  | int i t =>
    refine PySem.P.repr_of_int (by have := hs.able; simpa [PyData.showable] using this) ?_
    have := fin s.heap s.toks (s.toks + 1) fun _ _ z => z
    simpa only [PyData.shown] using this
  | str z t =>
    refine PySem.P.repr_of_str ?_ (by have := hs.short; simpa only [PyData.shown] using this)
    have := fin s.heap s.toks (s.toks + 1) fun _ _ z => z
    simpa only [PyData.shown] using this
  | list h1 h2 h3 h4 => exact repr_of_reads' (Reads.list h1 h2 h3 h4) hs.able hn hG (by omega) (fun _ _ z => z) (fun h' t tk k => fin h' t tk k) hs.short
  | tuple h1 h2 h3 h4 => exact repr_of_reads' (Reads.tuple h1 h2 h3 h4) hs.able hn hG (by omega) (fun _ _ z => z) (fun h' t tk k => fin h' t tk k) hs.short
  | dict h1 h2 h3 h4 h5 => exact repr_of_reads' (Reads.dict h1 h2 h3 h4 h5) hs.able hn hG (by omega) (fun _ _ z => z) (fun h' t tk k => fin h' t tk k) hs.short
end Sv
set_option Elab.async false
set_option linter.all false
set_option maxRecDepth 100000
set_option maxHeartbeats 4000000
/-! SvWalk: the keys of a dict of the module's own, walked: texts. -/
namespace Sv
open PySem PySem.Spec PyProof.Rows L2
/-- at d a written dict with the keys ks, in their order -/
structure WKeys (K : PySem.W.Frag) (d : Addr) (ks : List Str) : Prop where
  low : (d == sysModules) = false
  at_ : ∃ o es ep, K.lookup d = some o ∧ o.ExactDict ∧ o.data = .dict es ep ∧ es.size = ks.length ∧ ∀ i k, ks[i]? = some k → ∃ (hi : i < es.size) (t : Tok), es[i].key = .str k t
def Itw (ks : List Str) : It := ⟨fun i _ => i < ks.length, fun i H x H' => H' = H ∧ ∃ k, ks[i]? = some k ∧ x = .str k, fun i _ => ks.length ≤ i⟩
section
variable {P : Program} {w : World} {K : PySem.W.Frag} {tg : Expr} {d : Addr} {ks : List Str}
theorem turn_w (it : Addr) {o : Obj} {es : Array DictEntry} {ep : Nat} (lk : K.lookup d = some o) (hx : o.ExactDict) (hd : o.data = .dict es ep) (hs : es.size = ks.length)
    (hk : ∀ i k, ks[i]? = some k → ∃ (hi : i < es.size) (t : Tok), es[i].key = .str k t) : Turn P w K tg (Itw ks) [it] it (fun i h => h.IsKeyIter it d i es.size ep) where
  mem := by simp
  obj := fun i h st b hb => by
    obtain rfl : b = it := by simpa using hb
    obtain ⟨oi, e, c, dd⟩ := st
    exact ⟨oi, e, fun v z => by rw [dd] at z; cases z⟩
  keep := fun i h h' st k => st.at fun oi e => k it (by simp) oi e
  item := by
    intro X hP hw hK hc i pins s σ H E I hf st hg
    subst hP hw hK
    have hg : i < ks.length := hg
    obtain ⟨f0, f1, f2, f3, f4, f5⟩ := hf it (by simp)
    have hr : s.heap.DictRaw d es ep := ⟨o, I.kIn d o lk, hx, hd⟩
    obtain ⟨hi, t, hkey⟩ := hk i _ (List.getElem?_eq_getElem hg)
    refine wpAny_pyNext_keys_item_raw st hr hi fun h' st' sb => ?_
    have I1 : Inv X pins σ H { s with heap := h' } := I.turned (t' := s.toks) (fun b ob hb e => (sb.2 b hb).trans e) f0 f1 f3 f4 f5
    obtain ⟨oi, e, c, dd⟩ := id st'
    exact ⟨_, rfl, go_of (s := { s with heap := h' }) e c dd (by decide) ⟨.str ks[i], H, I1, ⟨t, hkey⟩, ⟨rfl, _, List.getElem?_eq_getElem hg, rfl⟩, st', fun b hb => (hf b hb).1⟩⟩
  done := by
    intro X hP hw hK hc i pins s σ H E I hf st hg
    subst hP hw hK
    have hg : ks.length ≤ i := hg
    obtain ⟨f0, f1, f2, f3, f4, f5⟩ := hf it (by simp)
    exact next_key_end (I.ok.hd hc) st (I.kIn d o lk) hd rfl (by omega) fun h' eb => ⟨rfl, I.turned (t' := s.toks) (fun b ob hb e => eb b ob hb e) f0 f1 f3 f4 f5⟩
  self := fun A i s Q E st h => wpAny_pyIter_keyiter st h
end
def iWKeys (K : PySem.W.Frag) (td : TE) : TI := fun σ H R => td σ H fun x H1 => ∃ d ks, x = .ref d ∧ WKeys K d ks ∧ R (Itw ks) H1
theorem pi_wkeys {X : Cx} {tg e : Expr} {td : TE} (he : PE X e td) : PI X tg e (iWKeys X.K td) := by
  refine ⟨fun pins s σ H R I h => ?_⟩
  refine thn (he.run pins s σ H _ I h) fun u s1 ⟨x, H1, I1, rx, d, ks, ex, W, q⟩ => ?_
  subst ex
  obtain rfl : u = Value.ref d := rx
  obtain ⟨o, es, ep, lk, hx, hd, hs, hk⟩ := W.at_
  exact iter_keys W.low (I1.kIn d o lk) hx hd (pi_one (tk := s1.toks) I1 _ (turn_w _ lk hx hd hs hk) ⟨_, Heap.get?_push_size _ rfl, rfl, rfl⟩ q)
/-- a comprehension over n turns of anything: Pv, a word of the turn and the heap -/
theorem lc_n {J : It} {n : Nat} {g : TG} {tt : TT} {te : TE} {vs : List Nat} {σ : L2.St} {H1 : Hp} {D : Addr} {Qd : Hp → Prop} (Pv : Nat → Hp → Prop) (h0 : Pv 0 (upd H1 D (.lst [])))
    (hgo : ∀ i H, i < n → Pv i H → J.go i H) (hst : ∀ H, Pv n H → J.stop n H)
    (hs : ∀ i x H H', i < n → Pv i H → J.yld i H x H' → g x (wipe σ vs) H' fun σ2 H2 => wipe σ2 vs = wipe σ vs ∧ tt σ2 H2 fun b H3 =>
      if b = true then te σ2 H3 fun y H4 => ∃ acc, H4 D = some (.lst acc) ∧ acc.length < sizeLine ∧ Pv (i + 1) (upd H4 D (.lst (acc ++ [y]))) else Pv (i + 1) H3)
    (hd : ∀ H, Pv n H → Qd H) :
    ∃ W : Nat → Nat → Hp → Prop, (∃ m, W 0 m (upd H1 D (.lst []))) ∧ ∀ i m H, W i m H →
      (J.stop i H ∧ Qd H) ∨ (J.go i H ∧ ∃ Nx : Hp → Prop, (∀ H', Nx H' → ∃ m', m' < m ∧ W (i + 1) m' H') ∧ ∀ x H', J.yld i H x H' → g x (wipe σ vs) H' fun σ2 H2 => wipe σ2 vs = wipe σ vs ∧ tt σ2 H2 fun b H3 =>
        if b = true then te σ2 H3 fun y H4 => ∃ acc, H4 D = some (.lst acc) ∧ acc.length < sizeLine ∧ Nx (upd H4 D (.lst (acc ++ [y]))) else Nx H3) := by
  refine ⟨fun i m H => m = n - i ∧ i ≤ n ∧ Pv i H, ⟨n, by simp, Nat.zero_le _, h0⟩, ?_⟩
  rintro i m H ⟨rfl, hi, p⟩
  by_cases hlt : i < n
  · exact .inr ⟨hgo i H hlt p, Pv (i + 1), fun H' p' => ⟨n - (i + 1), by omega, rfl, hlt, p'⟩, fun x H' y => hs i x H H' hlt p y⟩
  · obtain rfl : i = n := by omega
    exact .inl ⟨hst H p, hd H p⟩
/-- a for over n turns of anything -/
theorem for_n {J : It} {n : Nat} {g : TG} {tb : TS} {D : Ends} {σ : L2.St} {H : Hp} (Pv : Nat → L2.St → Hp → Prop) (h0 : Pv 0 σ H)
    (hgo : ∀ i σ H, i < n → Pv i σ H → J.go i H) (hst : ∀ σ H, Pv n σ H → J.stop n H)
    (hs : ∀ i x σ H H', i < n → Pv i σ H → J.yld i H x H' → g x σ H' fun σ2 H2 => tb { D with nx := Pv (i + 1), ct := Pv (i + 1), bk := D.nx } σ2 H2)
    (hd : ∀ σ H, Pv n σ H → D.nx σ H) :
    ∃ W : Nat → Nat → L2.St → Hp → Prop, (∃ m, W 0 m σ H) ∧ ∀ i m σ H, W i m σ H →
      (J.stop i H ∧ D.nx σ H) ∨ (J.go i H ∧ ∃ N : L2.St → Hp → Prop, (∀ σ' H', N σ' H' → ∃ m', m' < m ∧ W (i + 1) m' σ' H') ∧ ∀ x H', J.yld i H x H' → g x σ H' fun σ2 H2 => tb { D with nx := N, ct := N, bk := D.nx } σ2 H2) := by
  refine ⟨fun i m σ H => m = n - i ∧ i ≤ n ∧ Pv i σ H, ⟨n, by simp, Nat.zero_le _, h0⟩, ?_⟩
  rintro i m σ H ⟨rfl, hi, p⟩
  by_cases hlt : i < n
  · exact .inr ⟨hgo i σ H hlt p, Pv (i + 1), fun σ' H' p' => ⟨n - (i + 1), by omega, rfl, hlt, p'⟩, fun x H' y => hs i x σ H H' hlt p y⟩
  · obtain rfl : i = n := by omega
    exact .inl ⟨hst σ H p, hd σ H p⟩
end Sv
set_option Elab.async false
set_option linter.all false
set_option maxRecDepth 100000
set_option maxHeartbeats 4000000
/-! SvEq: ==, != by an own __eq__ against anything; len by an own __len__. -/
namespace PySem.W
section
variable {prog : Program} {w : World} {A : Around} {E : Value → Shared → Prop} {s : Shared} {K : Frag} {x C f : Addr} {ox : Obj} {od : Option Obj} {b tb : Value}
theorem sv_ne_entry {Q : Fin → Shared → Prop} (X : K.In s.heap) (I : InstAt s.heap x ox C od) (hu : A.units < cLine) (he : findIn K (.ref C) "__eq__" = some (some (.ref f))) (hf : isFn K (.ref f) = true)
    (hcall : wpAny (model prog w) A (call (.ref f) [.ref x, b]) (fun v s' => ∃ r, v = .bool r ∧ Q (.done (.ret (.bool (!r)))) s') E s) :
    wpAny (model prog w) A (Builtin.«object.__ne__» ⟨[.ref x, b], []⟩) Q E s := by
  unfold Builtin.«object.__ne__»
  repeat (first
    | with_reducible refine wpAny_cRoomFor hu ?_
    | (refine wpAny_bind (m := callSpecialIfBound? (.ref x) (Str.ofString "__eq__") [b])
        (ifBound_K X I he hf (wpAny_mono hcall (fun v s' hr => by
          obtain ⟨r, rfl, hq⟩ := hr
          repeat (first | exact hq | exact wpAny_pure hq | exact wpAny_truthy_bool hq | (refine wpAny_bind (m := truthy (.bool _)) (wpAny_truthy_bool ?_)) | wp_step)) fun _ _ e => e)))
    | wp_step)
theorem sv_ifBound_B {M : Model} {name : Str} {id : String} {args : List Value} {Q : Option Value → Shared → Prop} (X : K.In s.heap) (I : InstAt s.heap x ox C od) (hs : findIn K (.ref C) name = some (some (.builtin id)))
    (hb : ∀ self, bindSpecial (.builtin id) self = pure (.builtin id, [self]))
    (h : wpAny M A (call (.builtin id) (.ref x :: args)) (fun v => Q (some v)) E s) : wpAny M A (callSpecialIfBound? (.ref x) name args) Q E s := by
  simp only [callSpecialIfBound?, bindSpecialIfBound?]
  refine wpAny_holding (wpAny_bind (wpAny_bind (wpAny_bind (I.type.here ((looks_findIn X hs).here ?_)))))
  simp only [hb]
  refine wpAny_bind (wpAny_askSetting (wpAny_ite ?_))
  have fin : wpAny M A (call (.builtin id) ([.ref x] ++ args) >>= fun v => pure (some v)) Q E s := wpAny_bind (wpAny_mono h (fun v s' h' => wpAny_pure h') fun _ _ h' => h')
  split
  · exact wpAny_bind (wpAny_pure (wpAny_pure fin))
  · exact wpAny_tryCatch (wpAny_bind (wpAny_pure (wpAny_pure fin)))
theorem sv_ne_K {Q : Value → Shared → Prop} (hu : A.units + 1 < cLine) (X : K.In s.heap) (I : InstAt s.heap x ox C od) (hb : Looks (model prog w) s.heap (typeOf b) tb) (hn : notFirst K C tb = true)
    (he : findIn K (.ref C) "__eq__" = some (some (.ref f))) (hf : isFn K (.ref f) = true) (hne : findIn K (.ref C) "__ne__" = some (some (.builtin "object.__ne__"))) (hm : mroIn K C (.type "object") = some true)
    (h : wpAny (model prog w) A.in1 (call (.ref f) [.ref x, b]) (fun v s' => ∃ r, v = .bool r ∧ Q (.bool (!r)) s') E s) : wpAny (model prog w) A (richCompare .NotEq (.ref x) b) Q E s := by
  have sub : Looks (model prog w) s.heap (isInstance (.ref x) (.type "object")) true := I.type.andThen (looks_mroIn X hm)
  have one : wpAny (model prog w) A (tryCompare (.ref x) (cmpInfo .NotEq).2.1 b) (fun r s' => ∃ v, r = some v ∧ Q v s') E s := by
    unfold tryCompare
    rw [cmpInfo_NotEq]
    refine wpAny_bind (sv_ifBound_B X I hne PySem.F.cmp_object.ne.bind (wpAny_call (codeAny_call_builtin PySem.F.cmp_object.ne.plain PySem.F.cmpEntry_ne
      (check_slot PySem.F.cmpKind_ne PySem.F.cmpSplit_ne sub (PySem.F.cmpArgs_ne _ _) (sv_ne_entry (A := A.in1) X I (by show A.units + 1 < cLine; omega) he hf (wpAny_mono h (fun v s' hv => ?_) fun _ _ e => e))))))
    obtain ⟨r, rfl, hq⟩ := hv
    first
      | exact ⟨r, rfl, wpAny_pure ⟨_, rfl, hq⟩⟩
      | exact ⟨r, rfl, wpAny_pure (wpAny_pure ⟨_, rfl, hq⟩)⟩
      | exact ⟨r, rfl, _, rfl, hq⟩
  unfold richCompare
  simp only [oneThing_ref]
  refine wpAny_holding (wpAny_bind (wpAny_cRoomFor (by omega) ?_))
  refine wpAny_bind (I.type.here (wpAny_bind (hb.here ?_)))
  split
  · rename_i q
    have e : subIn K tb (.ref C) = some false := by
      rcases Bool.or_eq_true_iff.mp hn with e | e
      · rw [beq_iff_eq.mp e] at q; simp at q
      · exact beq_iff_eq.mp e
    refine wpAny_bind ((looks_subIn X e).here ?_)
    simp only [Bool.false_eq_true, if_false]
    refine wpAny_bind (wpAny_mono one (fun r s' z => ?_) fun _ _ e => e)
    obtain ⟨v, rfl, hq⟩ := z
    exact wpAny_pure hq
  · refine wpAny_bind (wpAny_pure ?_)
    simp only [Bool.false_eq_true, if_false]
    refine wpAny_bind (wpAny_mono one (fun r s' z => ?_) fun _ _ e => e)
    obtain ⟨v, rfl, hq⟩ := z
    exact wpAny_pure hq
end
end PySem.W
namespace Sv
open PySem PySem.Spec PyProof.Rows L2
/-- what a class with an own __eq__ (at f) must say -/
structure EqC (K : PySem.W.Frag) (C f : Addr) : Prop where
  eq : PySem.W.findIn K (.ref C) "__eq__" = some (some (.ref f))
  fn : PySem.W.isFn K (.ref f) = true
  ne : PySem.W.findIn K (.ref C) "__ne__" = some (some (.builtin "object.__ne__"))
  ob : PySem.W.mroIn K C (.type "object") = some true
section
variable {X : Cx} {CX : CXT} {n : Nat} {C f : Addr} {fd : FuncData} {ps : List Str} {sp : Sp} {E : XK}
/-- a builtin's call of a def that keeps its promise, somewhere below the running body -/
theorem run_sub {A : Around} {pins : List (Addr × Obj)} {s : Shared} {σ : L2.St} {H : Hp} {us : List Value} {vs : List V} {Q : VK} (F : FnOk X.prog X.w X.K X.mg X.base CX n f fd ps sp) (hb : Binds X.K fd ps []) (hx : Passes CX X E)
    (hr : Room n A) (hA : A.frames = X.A.frames) (I : Inv X pins σ H s) (r : Vals vs us) (h : sp vs H Q E) : wpAny (model X.prog X.w) A (call (.ref f) us) (EP X pins σ Q) X.xe s := by
  have e := I.env0
  have e0 : Env0 X.prog X.w X.K X.mg X.base A X.stack s H := ⟨by rw [hA]; exact e.frames, e.mod, e.bs, e.bsz, e.funs, e.frf, e.hok, e.bare⟩
  have hl : (us ++ []).length = ps.length := by rw [List.append_nil, ← r.length]; exact F.len _ _ _ _ h
  have hbb := hb s us I.kIn hl
  rw [List.append_nil] at hbb
  refine wpAny_call (codeAny_mono (F.run A X.stack s H ⟨us, []⟩ us vs Q E hr e0 hbb r h) fun r s' hq => ?_)
  cases r with
  | error e => exact hx pins σ H s e s' I hq
  | ok fl =>
    cases fl with
    | ret u => exact I.after hq
    | next => exact False.elim hq
    | brk => exact False.elim hq
    | cont => exact False.elim hq
/-- x == y by x's own __eq__ -/
def rOwnEq (K : PySem.W.Frag) (C : Addr) (sp : Sp) (E : XK) (neg : Bool) : R2 := fun x y H Q => ∃ (a dx : Addr) (fs : List (Str × V)) (t : Value), x = .ref a ∧ H a = some (.ins C dx fs) ∧ TyX K H y t ∧ PySem.W.notFirst K C t = true ∧
  sp [.ref a, y] H (fun v H' => ∃ b, v = .bl b ∧ Q (.bl (neg != b)) H') E
theorem op_ownEq (T : EqC X.K C f) (F : FnOk X.prog X.w X.K X.mg X.base CX n f fd ps sp) (hr : Room n X.A) (hb : Binds X.K fd ps []) (hx : Passes CX X E) : OpR X (compareOp .Eq) (rOwnEq X.K C sp E false) := by
  intro pins s σ H x y v u Q I rx ry hq
  obtain ⟨a, dx, fs, t, rfl, ha, ty, hn, q⟩ := hq
  cases rx
  obtain ⟨mA, J, _⟩ := ins_get I.hok ha
  obtain ⟨od, J, _⟩ := J.look
  obtain ⟨m, hF⟩ := I.fr
  obtain ⟨P, kx, hp, _⟩ := kit_of I ry ty
  show wpAny (model X.prog X.w) X.A (richCompare .Eq (.ref a) u) (EP X pins σ Q) X.xe s
  refine PySem.W.cmp_K (op := .Eq) (tb := t) hr.units0 hF I.ok.mod.kin J (kx.ty _ _ I.kIn hp) hn T.eq T.fn ?_
  refine wpAny_mono (run_sub (vs := [.ref a, y]) F hb hx hr rfl I (.cons rfl (.cons ry .nil)) q) (fun r s' z => ?_) fun _ _ e => e
  obtain ⟨v, H', I', rv, b, rfl, q'⟩ := z
  cases rv
  have e : (false != b) = b := by cases b <;> rfl
  rw [e] at q'
  exact ⟨.bl b, H', I', rfl, q'⟩
theorem op_ownNe (T : EqC X.K C f) (F : FnOk X.prog X.w X.K X.mg X.base CX n f fd ps sp) (hr : Room (n + 1) X.A) (hb : Binds X.K fd ps []) (hx : Passes CX X E) : OpR X (compareOp .NotEq) (rOwnEq X.K C sp E true) := by
  intro pins s σ H x y v u Q I rx ry hq
  obtain ⟨a, dx, fs, t, rfl, ha, ty, hn, q⟩ := hq
  cases rx
  obtain ⟨mA, J, _⟩ := ins_get I.hok ha
  obtain ⟨od, J, _⟩ := J.look
  obtain ⟨P, kx, hp, _⟩ := kit_of I ry ty
  show wpAny (model X.prog X.w) X.A (richCompare .NotEq (.ref a) u) (EP X pins σ Q) X.xe s
  have hun := hr.un
  refine PySem.W.sv_ne_K (tb := t) (by omega) I.kIn J (kx.ty _ _ I.kIn hp) hn T.eq T.fn T.ne T.ob ?_
  refine wpAny_mono (run_sub (vs := [.ref a, y]) F hb hx hr.in1 rfl I (.cons rfl (.cons ry .nil)) q) (fun r s' z => ?_) fun _ _ e => e
  obtain ⟨v, H', I', rv, b, rfl, q'⟩ := z
  cases rv
  have e : (true != b) = !b := by cases b <;> rfl
  rw [e] at q'
  exact ⟨b, rfl, .bl (!b), H', I', rfl, q'⟩
/-- len(o) by o's own __len__ -/
def rOwnLen (C : Addr) (sp : Sp) (E : XK) : List V → Hp → VK → Prop := fun xs H Q => ∃ (a dx : Addr) (fs : List (Str × V)), xs = [.ref a] ∧ H a = some (.ins C dx fs) ∧
  sp [.ref a] H (fun v H' => ∃ k : Nat, v = .int k ∧ k ≤ sizeLine ∧ Q (.int k) H') E
theorem call_ownLen (hs : PySem.W.findIn X.K (.ref C) "__len__" = some (some (.ref f))) (hf : PySem.W.isFn X.K (.ref f) = true) (F : FnOk X.prog X.w X.K X.mg X.base CX n f fd ps sp) (hr : Room (n + 1) X.A) (hb : Binds X.K fd ps []) (hx : Passes CX X E) :
    CallR X (.builtin "len") (rOwnLen C sp E) := by
  intro pins s σ H xs us Q I r hq
  obtain ⟨a, dx, fs, rfl, ha, q⟩ := hq
  obtain ⟨u, rfl, ru⟩ := vals1 r
  cases ru
  obtain ⟨mA, J, _⟩ := ins_get I.hok ha
  obtain ⟨od, J, _⟩ := J.look
  obtain ⟨m, hF⟩ := I.fr
  refine PySem.W.len_K hF I.ok.mod.kin J hs hf ?_
  refine wpAny_mono (run_sub (vs := [.ref a]) F hb hx hr.in1 rfl I (.cons rfl .nil) q) (fun r s' z => ?_) fun _ _ e => e
  obtain ⟨v, H', I', rv, k, rfl, hk, q'⟩ := z
  obtain ⟨t, rfl⟩ := rv
  have hz : sizeLine < 2 ^ 62 := by rw [sizeLine_eq]; decide
  exact ⟨⟨by omega, by omega⟩, .int k, H', I'.tok _, ⟨_, rfl⟩, q'⟩
end
end Sv
set_option Elab.async false
set_option linter.all false
set_option maxRecDepth 100000
set_option maxHeartbeats 4000000
/-! SvHead: what the top leaves, told by facts that are looked at in one run: any test of the part that the names reach. -/
namespace Sv
open PySem PySem.Spec PyProof.Rows L2
abbrev FactB := PySem.W.Frag → Bool
def obsS (fs : List FactB) (fn : List He.DefD) (K : PySem.W.Frag) : He.AlD := ((fs.all fun f => f K) && fn.all fun d => d.ok K, fn.map fun d => He.fnW K d.at_)
def SaysS (fs : List FactB) (fn : List He.DefD) (K : PySem.W.Frag) : Prop := obsS fs fn K = He.valD fn
def obsSG (n : Nat) (fs : List FactB) (fn : List He.DefD) (g : Addr → Option Obj) : He.AlD := obsS fs fn (He.frG g (PySem.cStatics :: He.asD g n))
def hookS (n : Nat) (fs : List FactB) (fn : List He.DefD) : PySem.W.Hook where
  α := He.AlD
  obs := fun s => obsSG n fs fn s.heap.get?
  val := fun _ => He.valD fn
  says := fun _ h => ∃ K : PySem.W.Frag, K.In h ∧ SaysS fs fn K
  of := fun _ _ e => ⟨_, He.frG_in, e⟩
  keeps := fun _ _ _ ⟨K, hK, c⟩ k => ⟨K, PySem.W.Frag.In.keeps hK k, c⟩
theorem obsSG_eq {n : Nat} {fs : List FactB} {fn : List He.DefD} {g : Addr → Option Obj} {s : Shared} (h : ∀ a, g a = s.heap.get? a) : obsSG n fs fn g = (hookS n fs fn).obs s := by
  have e : g = s.heap.get? := funext h
  rw [e] <;> rfl
section
variable {fs : List FactB} {fn : List He.DefD} {K : PySem.W.Frag}
theorem SaysS.fact (c : SaysS fs fn K) (i : Nat) {f : FactB} (h : fs[i]? = some f := by rfl) : f K = true := by
  have c1 := (He.ba (show ((fs.all fun f => f K) && fn.all fun d => d.ok K) = true from congrArg (fun z : He.AlD => z.1) c)).1
  exact List.all_eq_true.mp c1 f (List.mem_of_getElem? h)
theorem SaysS.def_ (c : SaysS fs fn K) (i : Nat) {d : He.DefD} (h : fn[i]? = some d := by rfl) : ∃ fd, FunD K d.name d.qual d.params d.body d.scope (d.dvs K) (d.kws K) (He.fAd K d.at_) fd := by
  have c2 := (He.ba (show ((fs.all fun f => f K) && fn.all fun d => d.ok K) = true from congrArg (fun z : He.AlD => z.1) c)).2
  have e2 : (fn.map fun d => He.fnW K d.at_)[i]? = (fn.map He.DefD.val)[i]? := congrArg (fun z : He.AlD => z.2[i]?) c
  rw [List.getElem?_map, List.getElem?_map, h] at e2
  exact He.DefD.funD (Option.some.inj e2) (List.all_eq_true.mp c2 d (List.mem_of_getElem? h))
end
/-! ### facts -/
/-- a fact of the library's kinds -/
def fF (f : He.Fa) : FactB := fun K => f.ok K
/-- a dict of the module's with text keys -/
def keysB (x : Str) (ks : List Str) : FactB := fun K => !(He.ga K x == sysModules) && match K.lookup (He.ga K x) with
  | some ⟨.type c, none, .dict es _, sl⟩ => decide (c = "dict") && (sl.isEmpty && (decide (es.size = ks.length) && (es.toList.zip ks).all fun p => match p.1.key with
    | .str z _ => decide (z = p.2)
    | _ => false))
  | _ => false
theorem keysB_ok {K : PySem.W.Frag} {x : Str} {ks : List Str} (h : keysB x ks K = true) : WKeys K (He.ga K x) ks := by
  obtain ⟨h0, h⟩ := He.ba h
  refine ⟨by simpa using h0, ?_⟩
  cases q : K.lookup (He.ga K x) with
  | none =>
    rw [q] at h
    cases h
  | some o =>
    obtain ⟨oc, od, dt, osl⟩ := o
    rw [q] at h
    cases oc with
    | type c =>
      cases od with
      | none =>
        cases dt with
        | dict es n =>
          obtain ⟨h1, h⟩ := He.ba h
          obtain ⟨h2, h⟩ := He.ba h
          obtain ⟨h3, h4⟩ := He.ba h
          obtain rfl := of_decide_eq_true h1
          obtain rfl := Array.isEmpty_iff.mp h2
          have h3 := of_decide_eq_true h3
          refine ⟨_, es, n, rfl, ⟨rfl, rfl, rfl⟩, rfl, h3, fun i k hk => ?_⟩
          have hi : i < ks.length := (List.getElem?_eq_some_iff.mp hk).1
          have hi' : i < es.size := by omega
          have hz : (es.toList.zip ks)[i]? = some (es[i], k) := by
            rw [List.getElem?_zip_eq_some]
            exact ⟨by simp [hi'], hk⟩
          have h5 := List.all_eq_true.mp h4 _ (List.mem_of_getElem? hz)
          refine ⟨hi', ?_⟩
          dsimp only at h5
          split at h5
          · rename_i z t ez
            exact ⟨t, by rw [ez, of_decide_eq_true h5]⟩
          · cases h5
        | _ => cases h
      | some b => cases dt <;> cases h
    | _ => cases od <;> cases dt <;> cases h
/-- an own exception class, at any depth below ValueError -/
def oexB (x : Str) : FactB := fun K => (match K.lookup (He.ga K x) with
  | some ⟨.type c, _, .cls cd, sl⟩ => decide (c = "type") && (match cd.mro, sl.toList with
    | .ref C' :: bm, [_, _, _, _, some (.builtin n), _] => decide (C' = He.ga K x) && (decide (n = "ValueError.__new__") && (!cd.hasDel && (cd.hasDict && PySem.HandSPX.refsVE bm)))
    | _, _ => false)
  | _ => false) && (He.eqO (PySem.W.findIn K (.ref (He.ga K x)) "__setattr__") (some (some (.builtin "object.__setattr__"))) && (decide (PySem.W.subIn K (.ref (He.ga K x)) (.type "BaseException") = some true) &&
    (decide (PySem.W.typeIn K (.ref (He.ga K x)) = some (.type "type")) && PySem.W.keepIn K (.ref (He.ga K x)))))
theorem oexB_ok {K : PySem.W.Frag} {x : Str} (h : oexB x K = true) : OexC K (He.ga K x) := by
  obtain ⟨h0, h⟩ := He.ba h
  obtain ⟨h1, h⟩ := He.ba h
  obtain ⟨h2, h⟩ := He.ba h
  obtain ⟨h3, h4⟩ := He.ba h
  refine ⟨?_, He.eqO_ok h1, of_decide_eq_true h2, of_decide_eq_true h3, h4⟩
  cases q : K.lookup (He.ga K x) with
  | none =>
    rw [q] at h0
    cases h0
  | some o =>
    obtain ⟨oc, od, dt, ⟨osl⟩⟩ := o
    rw [q] at h0
    cases oc with
    | type c =>
      cases dt with
      | cls cd =>
        obtain ⟨k1, k2⟩ := He.ba h0
        obtain rfl := of_decide_eq_true k1
        obtain ⟨nm, bs, mro, ns, qn, hd, sn, sub, ab, col, del⟩ := cd
        dsimp only at k2
        split at k2
        · rename_i C' bm k0 k1' k2' k3 n k5 e1 e2
          obtain ⟨m1, m⟩ := He.ba k2
          obtain ⟨m2, m⟩ := He.ba m
          obtain ⟨m3, m⟩ := He.ba m
          obtain ⟨m4, m5⟩ := He.ba m
          obtain rfl := of_decide_eq_true m1
          obtain rfl := of_decide_eq_true m2
          have e3 : del = false := by simpa using m3
          subst e3
          subst m4
          exact ⟨_, _, _, _, _, _, _, _, _, _, _, _, _, _, _, rfl, m5⟩
        · cases k2
      | _ => cases h0
    | _ => cases dt <;> cases h0
/-- .. its __init__ is a def -/
def oinB (x : Str) : FactB := fun K => He.eqO (PySem.W.findIn K (.ref (He.ga K x)) "__init__") (some (some (.ref (He.ma K (He.ga K x) "__init__")))) && decide (PySem.W.typeIn K (.ref (He.ma K (He.ga K x) "__init__")) = some (.type "function"))
theorem oinB_ok {K : PySem.W.Frag} {x : Str} (h : oinB x K = true) : PySem.W.findIn K (.ref (He.ga K x)) "__init__" = some (some (.ref (He.ma K (He.ga K x) "__init__"))) ∧
    PySem.W.typeIn K (.ref (He.ma K (He.ga K x) "__init__")) = some (.type "function") := ⟨He.eqO_ok (He.ba h).1, of_decide_eq_true (He.ba h).2⟩
/-- .. its instances' fields are read, they are asked for their class -/
def xicB (x : Str) : FactB := fun K => xfB K (He.ga K x) && (He.eqO (PySem.W.findIn K (.ref (He.ga K x)) "__class__") (some (some (.builtin "object.__class__"))) &&
  (decide (PySem.W.specialIn K (.builtin "object.__class__") "__get__" = some (some (.builtin "getset_descriptor.__get__"))) && (decide (PySem.W.takesIn K (.builtin "object.__class__") = some true) && decide (PySem.W.mroIn K (He.ga K x) (.type "object") = some true))))
theorem xicB_ok {K : PySem.W.Frag} {x : Str} (h : xicB x K = true) : XfC K (He.ga K x) ∧ ExcC K (He.ga K x) := by
  obtain ⟨h0, h⟩ := He.ba h
  obtain ⟨h1, h⟩ := He.ba h
  obtain ⟨h2, h⟩ := He.ba h
  obtain ⟨h3, h4⟩ := He.ba h
  have X := xfB_ok h0
  exact ⟨X, ⟨X.ga, X.gg, X.exC, X.hdC, He.eqO_ok h1, of_decide_eq_true h2, of_decide_eq_true h3, of_decide_eq_true h4⟩⟩
/-- isinstance(.., c) where the class at x is asked -/
def kitB1 (x y : Str) (b : Bool) : FactB := fun K => decide (PySem.W.kitOne K (.ref (He.ga K x)) (.ref (He.ga K y)) = some b)
def kitB2 (t : String) (y : Str) (b : Bool) : FactB := fun K => decide (PySem.W.kitOne K (.type t) (.ref (He.ga K y)) = some b)
def kitB3 (x : Str) (t : String) (b : Bool) : FactB := fun K => decide (PySem.W.kitOne K (.ref (He.ga K x)) (.type t) = some b)
/-- an own base class that takes its __init__ from ValueError, called by its name -/
def ginB (x : Str) : FactB := fun K => PySem.W.readsIn K (He.ga K x) (.type "type") && (He.eqO (PySem.W.specialIn K (.ref (He.ga K x)) "__getattribute__") (some (some (.builtin "type.__getattribute__"))) &&
  (match PySem.W.findCls K (.ref (He.ga K x)) (.type "type") "__init__" with
  | some (.val (.builtin n)) => decide (n = "ValueError.__init__")
  | _ => false))
theorem ginB_ok {K : PySem.W.Frag} {x : Str} (h : ginB x K = true) : ClX.CRead K (He.ga K x) (.type "type") ∧ PySem.W.findCls K (.ref (He.ga K x)) (.type "type") "__init__" = some (.val (.builtin "ValueError.__init__")) := by
  obtain ⟨h0, h⟩ := He.ba h
  obtain ⟨h1, h2⟩ := He.ba h
  refine ⟨⟨h0, He.eqO_ok h1⟩, ?_⟩
  split at h2
  · rename_i n e
    rw [e, of_decide_eq_true h2]
  · cases h2
/-- own ==, own len -/
def eqcB (x : Str) : FactB := fun K => He.eqO (PySem.W.findIn K (.ref (He.ga K x)) "__eq__") (some (some (.ref (He.ma K (He.ga K x) "__eq__")))) && (PySem.W.isFn K (.ref (He.ma K (He.ga K x) "__eq__")) &&
  (He.eqO (PySem.W.findIn K (.ref (He.ga K x)) "__ne__") (some (some (.builtin "object.__ne__"))) && decide (PySem.W.mroIn K (He.ga K x) (.type "object") = some true)))
theorem eqcB_ok {K : PySem.W.Frag} {x : Str} (h : eqcB x K = true) : EqC K (He.ga K x) (He.ma K (He.ga K x) "__eq__") := by
  obtain ⟨h0, h⟩ := He.ba h
  obtain ⟨h1, h⟩ := He.ba h
  obtain ⟨h2, h3⟩ := He.ba h
  exact ⟨He.eqO_ok h0, h1, He.eqO_ok h2, of_decide_eq_true h3⟩
def lenB (x : Str) : FactB := fun K => He.eqO (PySem.W.findIn K (.ref (He.ga K x)) "__len__") (some (some (.ref (He.ma K (He.ga K x) "__len__")))) && PySem.W.isFn K (.ref (He.ma K (He.ga K x) "__len__"))
theorem lenB_ok {K : PySem.W.Frag} {x : Str} (h : lenB x K = true) : PySem.W.findIn K (.ref (He.ga K x)) "__len__" = some (some (.ref (He.ma K (He.ga K x) "__len__"))) ∧ PySem.W.isFn K (.ref (He.ma K (He.ga K x) "__len__")) = true := ⟨He.eqO_ok (He.ba h).1, (He.ba h).2⟩
/-- what TyOf.ins asks besides -/
def insB (x : Str) : FactB := fun K => He.eqO (PySem.W.findIn K (.ref (He.ga K x)) "__class__") (some (some (.builtin "object.__class__"))) &&
  (decide (PySem.W.specialIn K (.builtin "object.__class__") "__get__" = some (some (.builtin "getset_descriptor.__get__"))) && (decide (PySem.W.takesIn K (.builtin "object.__class__") = some true) && decide (PySem.W.mroIn K (He.ga K x) (.type "object") = some true)))
/-- any other test -/
theorem SaysS.dec {fs : List FactB} {fn : List He.DefD} {K : PySem.W.Frag} (c : SaysS fs fn K) (i : Nat) {p : PySem.W.Frag → Prop} [∀ K, Decidable (p K)] (h : fs[i]? = some (fun K => decide (p K)) := by rfl) : p K := of_decide_eq_true (c.fact i h)
/-- a def without defaults, as the short words want it -/
theorem fun_of {K : PySem.W.Frag} {x qual : Str} {st : Stmt} {f : Addr} {fd : FuncData} (F : FunD K x qual (defArgs st) (defBody st) (defScope st) [] [] f fd) : Fun K x qual st f fd := by
  obtain ⟨⟨oc, od, dV, kV, doc, pm, an, cdv, ct, osl, e1, e2, e3, hD, _⟩, kp⟩ := F
  rcases hD with ⟨_, rfl⟩ | ⟨z, _⟩
  · exact ⟨⟨oc, od, kV, doc, pm, an, cdv, ct, osl, e1, e2, e3⟩, kp⟩
  · exact absurd rfl z
end Sv
set_option Elab.async false
set_option linter.all false
set_option maxRecDepth 100000
set_option maxHeartbeats 4000000
/-! SvCall: a def of the text by its name, with its promise; its calls. -/
namespace Sv
open PySem PySem.Spec PyProof.Rows L2
structure Ok (P : Program) (w : World) (K : PySem.W.Frag) (mg : Str → Option Value) (base : Heap) (CX : CXT) (k : Nat) (f : Addr) (x : Str) (ps : List Str) (sp : Sp) : Prop where
  at_ : mg x = some (.ref f)
  kp : PySem.W.keepIn K (.ref f) = true
  fn : ∃ fd, FnOk P w K mg base CX k f fd ps sp ∧ Binds K fd ps []
structure OkG (P : Program) (w : World) (K : PySem.W.Frag) (mg : Str → Option Value) (base : Heap) (k : Nat) (f : Addr) (x : Str) (ps : List Str) (sp : Sp) : Prop where
  at_ : mg x = some (.ref f)
  kp : PySem.W.keepIn K (.ref f) = true
  fn : ∃ fd, FnG P w K mg base CX0 k f fd ps sp ∧ Binds K fd ps []
section
variable {X : Cx} {CX : CXT} {k : Nat} {f : Addr} {ps : List Str} {sp : Sp} {E : XK} {x : Str} {p pos : Pos} {e : Expr} {es : List Expr} {t : TA}
theorem pe_callN (O : Ok X.prog X.w X.K X.mg X.base CX k f x ps sp) (hr : Room k X.A) (hx : Passes CX X E) (ha : PA X (e :: es) t) (hg : Gl X x := by rfl) (hdb : (x == ("__debug__" : Str)) = false := by decide)
    (he : starEach (e :: es) X.env = (false, eval e X.env) :: starEach es X.env := by rfl) (hpl : (backTo pos (starEach es X.env)).any (·.1) = false := by rfl) : PE X (.Call (.Name x p) (e :: es) [] pos) (tCall sp [] E t) := by
  obtain ⟨fd, F, b⟩ := O.fn
  exact pe_call F hr hg O.at_ O.kp b .nil hx ha hdb he hpl
theorem pe_callN0 (O : Ok X.prog X.w X.K X.mg X.base CX k f x ps sp) (hr : Room k X.A) (hx : Passes CX X E) (hg : Gl X x := by rfl) (hdb : (x == ("__debug__" : Str)) = false := by decide) :
    PE X (.Call (.Name x p) [] [] pos) (tCall sp [] E tNil) := by
  obtain ⟨fd, F, b⟩ := O.fn
  exact pe_call0 F hr hg O.at_ O.kp b .nil hx hdb
theorem pe_gcallN (O : OkG X.prog X.w X.K X.mg X.base k f x ps sp) (hG : X.A.guards = some []) (hr : Room k X.A) (hx : Passes CX0 X E) (ha : PA X (e :: es) t) (hg : Gl X x := by rfl) (hdb : (x == ("__debug__" : Str)) = false := by decide)
    (he : starEach (e :: es) X.env = (false, eval e X.env) :: starEach es X.env := by rfl) (hpl : (backTo pos (starEach es X.env)).any (·.1) = false := by rfl) : PE X (.Call (.Name x p) (e :: es) [] pos) (tCall sp [] E t) := by
  obtain ⟨fd, F, b⟩ := O.fn
  exact pe_callG F hG hr hg O.at_ O.kp b .nil hx ha hdb he hpl
theorem pe_gcallN0 (O : OkG X.prog X.w X.K X.mg X.base k f x ps sp) (hG : X.A.guards = some []) (hr : Room k X.A) (hx : Passes CX0 X E) (hg : Gl X x := by rfl) (hdb : (x == ("__debug__" : Str)) = false := by decide) :
    PE X (.Call (.Name x p) [] [] pos) (tCall sp [] E tNil) := by
  obtain ⟨fd, F, b⟩ := O.fn
  exact pe_callG0 F hG hr hg O.at_ O.kp b .nil hx hdb
end
section
variable {P : Program} {w : World} {K : PySem.W.Frag} {mg : Str → Option Value} {base : Heap} {k : Nat} {f : Addr} {fd : FuncData} {x qual : Str} {st : Stmt} {N ps : List Str} {sp : Sp}
/-- a def that lets nothing out -/
theorem Ok.mk0 (F : Fun K x qual st f fd) (hm : mg x = some (.ref f)) (S : FnScope N ps (defScope st)) (hb : Binds K fd ps []) (len : ∀ vs H Q E, sp vs H Q E → vs.length = ps.length)
    (body : ∀ (cdv : Value) (A : Around) (outer : List Env) (s : Shared) (H : Hp) (vs : List V) (Q : VK) (E : XK), Room k (A.deeper (envOfC qual (defScope st) s.heap.objs.size f cdv)) → sp vs H Q E →
      ∃ t, PSs (cxOf CX0 P w K mg base N qual (defScope st) f cdv A outer s H E).nox (defBody st) t ∧ t { nx := fun _ H' => Q .non H', rt := Q } (start N vs) H) :
    Ok P w K mg base CX0 (k + 1) f x ps sp := ⟨hm, F.kp, fd, F.ok S len body, hb⟩
theorem OkG.mk0 (F : Fun K x qual st f fd) (hm : mg x = some (.ref f)) (S : FnScope N ps (defScope st)) (hb : Binds K fd ps []) (len : ∀ vs H Q E, sp vs H Q E → vs.length = ps.length)
    (body : ∀ (cdv : Value) (A : Around) (outer : List Env) (s : Shared) (H : Hp) (vs : List V) (Q : VK) (E : XK), A.guards = some [] → Room k (A.deeper (envOfC qual (defScope st) s.heap.objs.size f cdv)) → sp vs H Q E →
      ∃ t, PSs (cxOf CX0 P w K mg base N qual (defScope st) f cdv A outer s H E).nox (defBody st) t ∧ t { nx := fun _ H' => Q .non H', rt := Q } (start N vs) H) :
    OkG P w K mg base (k + 1) f x ps sp := ⟨hm, F.kp, fd, okG F S len body, hb⟩
/-- a def that may raise -/
theorem Ok.mkX (F : Fun K x qual st f fd) (hm : mg x = some (.ref f)) (S : FnScope N ps (defScope st)) (hb : Binds K fd ps []) (len : ∀ vs H Q E, sp vs H Q E → vs.length = ps.length)
    (body : ∀ (cdv : Value) (A : Around) (outer : List Env) (s : Shared) (H : Hp) (vs : List V) (Q : VK) (E : XK), Room k (A.deeper (envOfC qual (defScope st) s.heap.objs.size f cdv)) → sp vs H Q E →
      ∃ t, PSs (cxOf (L2.CX P w) P w K mg base N qual (defScope st) f cdv A outer s H E) (defBody st) t ∧ t { nx := fun _ H' => Q .non H', rt := Q } (start N vs) H) :
    Ok P w K mg base (L2.CX P w) (k + 1) f x ps sp := ⟨hm, F.kp, fd, F.okX S len body, hb⟩
end
end Sv
set_option Elab.async false
set_option linter.all false
set_option maxRecDepth 100000
set_option maxHeartbeats 4000000
/-! SvW: what a body knows of the heap: G, all that never changes any more (told once, true for ever); M, the cells that this body may write. From (G0, H0), the start; bs: the cells that it may write of those that stood there. -/
namespace Sv
open PySem PySem.Spec PyProof.Rows L2
structure Grow (bs : List Addr) (G H G' H' : Hp) : Prop where
  g : Same G G'
  h : Same G' H'
  keep : ∀ a o, H a = some o → a ∉ bs → H' a = some o
  new : ∀ a, H a ≠ none → G a = none → G' a = none
  there : ∀ a, H a ≠ none → H' a ≠ none
theorem Grow.refl {bs : List Addr} {G H : Hp} (h : Same G H) : Grow bs G H G H := ⟨Same.refl G, h, fun _ _ e _ => e, fun _ _ e => e, fun _ e => e⟩
structure Wd (bs : List Addr) (G0 H0 G : Hp) (M : List (Addr × HO)) (H : Hp) : Prop where
  gr : Grow bs G0 H0 G H
  at_ : ∀ p ∈ M, H p.1 = some p.2
  no : ∀ p ∈ M, G p.1 = none
  nd : (M.map (·.1)).Nodup
  own : ∀ p ∈ M, p.1 ∈ bs ∨ H0 p.1 = none
section
variable {bs : List Addr} {G0 H0 G G' : Hp} {M : List (Addr × HO)} {H H' : Hp} {p a : Addr} {o o' : HO}
theorem Wd.start0 (h : Same G H) : Wd [] G H G [] H := ⟨Grow.refl h, by simp, by simp, by simp, by simp⟩
theorem Wd.start1 (h : Same G H) (hb : H a = some o) (hn : G a = none) : Wd [a] G H G [(a, o)] H :=
  ⟨Grow.refl h, by simp [hb], by simp [hn], by simp, by simp⟩
theorem Wd.kn (W : Wd bs G0 H0 G M H) : Same G H := W.gr.h
theorem Wd.fresh (W : Wd bs G0 H0 G M H) (hp : H p = none) : G p = none := W.kn.free hp
theorem Wd.fresh0 (W : Wd bs G0 H0 G M H) (hp : H p = none) : H0 p = none := by
  by_cases e : H0 p = none
  · exact e
  · exact absurd hp (W.gr.there p e)
theorem Wd.ne (W : Wd bs G0 H0 G M H) (hp : H p = none) (hm : (a, o) ∈ M) : a ≠ p := fun e => by
  have := W.at_ _ hm
  simp only [e] at this
  rw [hp] at this
  cases this
/-- a new object that will never change -/
theorem Wd.newP (W : Wd bs G0 H0 G M H) (hp : H p = none) : Wd bs G0 H0 (upd G p o) M (upd H p o) := by
  have hg := W.fresh hp
  have h0 := W.fresh0 hp
  refine ⟨⟨fun b u e => ?_, fun b u e => ?_, fun b u e hb => ?_, fun b hb e => ?_, fun b hb => ?_⟩, fun q hq => ?_, fun q hq => ?_, W.nd, W.own⟩
  · have := W.gr.g b u e
    rw [upd_ne (ne_of_none this hg)]
    exact this
  · by_cases hbp : b = p
    · subst hbp
      rw [upd_same] at e ⊢
      exact e
    · rw [upd_ne hbp] at e ⊢
      exact W.kn b u e
  · rw [upd_ne (fun z => by rw [z, h0] at e; cases e)]
    exact W.gr.keep b u e hb
  · rw [upd_ne (fun z => by rw [z] at hb; exact hb h0)]
    exact W.gr.new b hb e
  · by_cases hbp : b = p
    · rw [hbp, upd_same]
      exact fun z => nomatch z
    · rw [upd_ne hbp]
      exact W.gr.there b hb
  · rw [upd_ne (W.ne (o := q.2) hp hq)]
    exact W.at_ q hq
  · rw [upd_ne (W.ne (o := q.2) hp hq)]
    exact W.no q hq
theorem Wd.newG (W : Wd bs G0 H0 G M H) (hp : H p = none) : Same G (upd G p o) := fun b u e => by
  rw [upd_ne (ne_of_none e (W.fresh hp))]
  exact e
/-- a new object that may be written -/
theorem Wd.newM (W : Wd bs G0 H0 G M H) (hp : H p = none) : Wd bs G0 H0 G ((p, o) :: M) (upd H p o) := by
  have hg := W.fresh hp
  have h0 := W.fresh0 hp
  refine ⟨⟨W.gr.g, fun b u e => ?_, fun b u e hb => ?_, W.gr.new, fun b hb => ?_⟩, fun q hq => ?_, fun q hq => ?_, ?_, fun q hq => ?_⟩
  · rw [upd_ne (ne_of_none e hg)]
    exact W.kn b u e
  · rw [upd_ne (fun z => by rw [z, h0] at e; cases e)]
    exact W.gr.keep b u e hb
  · by_cases hbp : b = p
    · rw [hbp, upd_same]
      exact fun z => nomatch z
    · rw [upd_ne hbp]
      exact W.gr.there b hb
  · rcases List.mem_cons.mp hq with e | e
    · subst e
      exact upd_same
    · rw [upd_ne (W.ne (o := q.2) hp e)]
      exact W.at_ q e
  · rcases List.mem_cons.mp hq with e | e
    · subst e
      exact hg
    · exact W.no q e
  · rw [List.map_cons, List.nodup_cons]
    refine ⟨fun hm => ?_, W.nd⟩
    obtain ⟨q, hq, e⟩ := List.mem_map.mp hm
    exact W.ne (o := q.2) hp hq e
  · rcases List.mem_cons.mp hq with e | e
    · subst e
      exact .inr h0
    · exact W.own q e
/-- the cells in another order, some of them let go -/
theorem Wd.some (W : Wd bs G0 H0 G M H) {N : List (Addr × HO)} (hs : ∀ q ∈ N, q ∈ M) (nd : (N.map (·.1)).Nodup) : Wd bs G0 H0 G N H :=
  ⟨W.gr, fun q hq => W.at_ q (hs q hq), fun q hq => W.no q (hs q hq), nd, fun q hq => W.own q (hs q hq)⟩
theorem Wd.tail (W : Wd bs G0 H0 G ((a, o) :: M) H) : Wd bs G0 H0 G M H := W.some (fun _ h => List.mem_cons_of_mem _ h) (List.nodup_cons.mp W.nd).2
/-- the first cell is written -/
theorem Wd.put (W : Wd bs G0 H0 G ((a, o) :: M) H) : Wd bs G0 H0 G ((a, o') :: M) (upd H a o') := by
  have ha := W.no (a, o) (List.mem_cons_self ..)
  have hat := W.at_ (a, o) (List.mem_cons_self ..)
  have nd := List.nodup_cons.mp W.nd
  refine ⟨⟨W.gr.g, fun b u e => ?_, fun b u e hb => ?_, W.gr.new, fun b hb => ?_⟩, fun q hq => ?_, fun q hq => ?_, W.nd, fun q hq => ?_⟩
  · rw [upd_ne (ne_of_none e ha)]
    exact W.kn b u e
  · have hne : b ≠ a := fun z => by
      rcases W.own (a, o) (List.mem_cons_self ..) with h | h
      · rw [z] at hb
        exact hb h
      · rw [z] at e
        rw [show H0 a = none from h] at e
        cases e
    rw [upd_ne hne]
    exact W.gr.keep b u e hb
  · by_cases hba : b = a
    · rw [hba, upd_same]
      exact fun z => nomatch z
    · rw [upd_ne hba]
      exact W.gr.there b hb
  · rcases List.mem_cons.mp hq with e | e
    · subst e
      exact upd_same
    · rw [upd_ne (fun z => nd.1 (List.mem_map.mpr ⟨q, e, z⟩))]
      exact W.at_ q (List.mem_cons_of_mem _ e)
  · rcases List.mem_cons.mp hq with e | e
    · subst e
      exact ha
    · exact W.no q (List.mem_cons_of_mem _ e)
  · rcases List.mem_cons.mp hq with e | e
    · subst e
      exact W.own (a, o) (List.mem_cons_self ..)
    · exact W.own q (List.mem_cons_of_mem _ e)
/-- the first cell, if it is the body's own, will never change any more -/
theorem Wd.fix (W : Wd bs G0 H0 G ((a, o) :: M) H) (hb : a ∉ bs) : Wd bs G0 H0 (upd G a o) M H := by
  have ha := W.no (a, o) (List.mem_cons_self ..)
  have hat := W.at_ (a, o) (List.mem_cons_self ..)
  have nd := List.nodup_cons.mp W.nd
  have h0 : H0 a = none := (W.own (a, o) (List.mem_cons_self ..)).resolve_left hb
  refine ⟨⟨fun b u e => ?_, fun b u e => ?_, W.gr.keep, fun b hb' e => ?_, W.gr.there⟩, fun q hq => W.at_ q (List.mem_cons_of_mem _ hq), fun q hq => ?_, nd.2, fun q hq => W.own q (List.mem_cons_of_mem _ hq)⟩
  · have := W.gr.g b u e
    rw [upd_ne (ne_of_none this ha)]
    exact this
  · by_cases hba : b = a
    · subst hba
      rw [upd_same] at e
      rw [← e]
      exact hat
    · rw [upd_ne hba] at e
      exact W.kn b u e
  · rw [upd_ne (fun z => by rw [z] at hb'; exact hb' h0)]
    exact W.gr.new b hb' e
  · rw [upd_ne (fun z => nd.1 (List.mem_map.mpr ⟨q, hq, z⟩))]
    exact W.no q (List.mem_cons_of_mem _ hq)
theorem Wd.fixG (W : Wd bs G0 H0 G ((a, o) :: M) H) : Same G (upd G a o) := fun b u e => by
  rw [upd_ne (ne_of_none e (W.no (a, o) (List.mem_cons_self ..)))]
  exact e
/-- behind a call that writes none of the cells -/
theorem Wd.call (W : Wd bs G0 H0 G M H) (g : Grow [] G H G' H') : Wd bs G0 H0 G' M H' := by
  refine ⟨⟨W.gr.g.trans g.g, g.h, fun b u e hb => g.keep b u (W.gr.keep b u e hb) (by simp), fun b hb e => g.new b (W.gr.there b hb) (W.gr.new b hb e), fun b hb => g.there b (W.gr.there b hb)⟩,
    fun q hq => g.keep _ _ (W.at_ q hq) (by simp), fun q hq => g.new _ (by rw [W.at_ q hq]; exact fun z => nomatch z) (W.no q hq), W.nd, W.own⟩
/-- behind a call that writes the first cell -/
theorem Wd.call1 (W : Wd bs G0 H0 G ((a, o) :: M) H) (g : Grow [a] G H G' H') (h : H' a = Option.some o') : Wd bs G0 H0 G' ((a, o') :: M) H' := by
  have nd := List.nodup_cons.mp W.nd
  have own := W.own (a, o) (List.mem_cons_self ..)
  have nea : ∀ q ∈ M, q.1 ≠ a := fun q hq z => nd.1 (List.mem_map.mpr ⟨q, hq, z⟩)
  refine ⟨⟨W.gr.g.trans g.g, g.h, fun b u e hb => g.keep b u (W.gr.keep b u e hb) ?_, fun b hb e => g.new b (W.gr.there b hb) (W.gr.new b hb e), fun b hb => g.there b (W.gr.there b hb)⟩,
    fun q hq => ?_, fun q hq => ?_, W.nd, fun q hq => ?_⟩
  · intro z
    obtain rfl : b = a := by simpa using z
    rcases own with h | h
    · exact hb h
    · rw [show H0 b = none from h] at e
      cases e
  · rcases List.mem_cons.mp hq with e | e
    · subst e
      exact h
    · exact g.keep _ _ (W.at_ q (List.mem_cons_of_mem _ e)) (by simpa using nea q e)
  · rcases List.mem_cons.mp hq with e | e
    · subst e
      exact g.new _ (by rw [W.at_ (a, o) (List.mem_cons_self ..)]; exact fun z => nomatch z) (W.no (a, o) (List.mem_cons_self ..))
    · exact g.new _ (by rw [W.at_ q (List.mem_cons_of_mem _ e)]; exact fun z => nomatch z) (W.no q (List.mem_cons_of_mem _ e))
  · rcases List.mem_cons.mp hq with e | e
    · subst e
      exact own
    · exact W.own q (List.mem_cons_of_mem _ e)
theorem Wd.swap {b : Addr} {u : HO} (W : Wd bs G0 H0 G ((a, o) :: (b, u) :: M) H) : Wd bs G0 H0 G ((b, u) :: (a, o) :: M) H := by
  refine W.some (fun q hq => ?_) ?_
  · simp only [List.mem_cons] at hq ⊢
    rcases hq with h | h | h
    · exact .inr (.inl h)
    · exact .inl h
    · exact .inr (.inr h)
  · have nd := W.nd
    simp only [List.map_cons, List.nodup_cons, List.mem_cons, not_or] at nd ⊢
    exact ⟨⟨fun e => nd.1.1 e.symm, nd.2.1⟩, nd.1.2, nd.2.2⟩
theorem Wd.here (W : Wd bs G0 H0 G ((a, o) :: M) H) : H a = Option.some o := W.at_ (a, o) (List.mem_cons_self ..)
theorem Wd.here2 {b : Addr} {u : HO} (W : Wd bs G0 H0 G ((a, o) :: (b, u) :: M) H) : H b = Option.some u := W.at_ (b, u) (List.mem_cons_of_mem _ (List.mem_cons_self ..))
theorem Wd.perm (W : Wd bs G0 H0 G M H) {N : List (Addr × HO)} (h : N.Perm M) : Wd bs G0 H0 G N H :=
  W.some (fun q hq => h.mem_iff.mp hq) ((h.map _).nodup_iff.mpr W.nd)
/-- the first cell goes to the end -/
theorem Wd.rot {q : Addr × HO} (W : Wd bs G0 H0 G (q :: M) H) : Wd bs G0 H0 G (M ++ [q]) H := W.perm (List.perm_append_singleton q M)
theorem grow_one (h : Same G H) (hp : H p = none) (e : Same H H') (h' : H' p = Option.some o) : Grow [] G H (upd G p o) H' := by
  have hg : G p = none := h.free hp
  refine ⟨fun b u z => ?_, fun b u z => ?_, fun b u z _ => e b u z, fun b hb z => ?_, fun b hb z => ?_⟩
  · rw [upd_ne (ne_of_none z hg)]
    exact z
  · by_cases hbp : b = p
    · subst hbp
      rw [upd_same] at z
      rw [← z]
      exact h'
    · rw [upd_ne hbp] at z
      exact e b u (h b u z)
  · rw [upd_ne (fun y => by rw [y] at hb; exact hb hp)]
    exact z
  · cases q : H b with
    | none => exact hb q
    | some u =>
      rw [e b u q] at z
      cases z
/-- nothing told but that all stays -/
theorem grow_same (h : Same G H) (e : Same H H') : Grow [] G H G H' := by
  refine ⟨Same.refl G, h.trans e, fun b u z _ => e b u z, fun b hb z => z, fun b hb z => ?_⟩
  cases q : H b with
  | none => exact hb q
  | some u =>
    rw [e b u q] at z
    cases z
end
theorem same_t {K : PySem.W.Frag} {H H' : Hp} {a : Addr} {xs : List V} (e : Same H H') (h : SqT K H a xs) : SqT K H' a xs := by
  rcases h with (h | ⟨o, h⟩) | h
  · exact .inl (.inl (e _ _ h))
  · exact .inl (.inr ⟨o, e _ _ h⟩)
  · exact .inr h
theorem same_new {H : Hp} {p : Addr} {o : HO} (h : H p = none) : Same H (upd H p o) := fun b u e => by
  rw [upd_ne (ne_of_none e h)]
  exact e
theorem seqIx {n : Nat} {i : Int} (h0 : 0 ≤ i) (h1 : i < n) : seqIndex? i n = some i.toNat := by
  unfold seqIndex?
  first
    | (rw [if_neg (by omega), if_pos (by omega)])
    | (simp; omega)
end Sv
set_option Elab.async false
set_option linter.all false
set_option maxRecDepth 100000
set_option maxHeartbeats 4000000
/-! SvIn: x in / not in a list of texts, x a text, a flat thing, a list, a tuple or a dict. -/
namespace PySem.SeqAt
open AutoSeq1 (wpAny_loadPart')
open MeetsSeq
theorem sv_dict_declines_str (l : Addr) (es : Array DictEntry) (n : Nat) (dd : Option Addr) (sl : Array (Option Value)) (b : Str) (u : Tok) :
    Meets (Builtin.«dict.__eq__» ⟨[.ref l, .str b u], []⟩) (fun _ R s => s.heap.get? l = some { cls := .type "dict", dict := dd, data := .dict es n, slots := sl } ∧ R (.ok (.ret .notImplemented)) s) :=
  .of_wp fun prog w A R s h => by obtain ⟨hp, g, d, tk, os⟩ := s; obtain ⟨hl, h⟩ := h; have f1 := F.sub_str_dict; wp_walk using wpAny_loadPart' hl; exact ⟨_, rfl, h⟩
theorem sv_str_declines_dict (b : Str) (u : Tok) (l : Addr) (es : Array DictEntry) (n : Nat) (dd : Option Addr) (sl : Array (Option Value)) :
    Meets (Builtin.«str.__eq__» ⟨[.str b u, .ref l], []⟩) (fun _ R s => s.heap.get? l = some { cls := .type "dict", dict := dd, data := .dict es n, slots := sl } ∧ R (.ok (.ret .notImplemented)) s) :=
  .of_wp fun prog w A R s h => by obtain ⟨hp, g, d, tk, os⟩ := s; obtain ⟨hl, h⟩ := h; wp_walk using wpAny_loadPart' hl, wpAny_load hl; exact ⟨_, rfl, h⟩
section
variable {A : Around} {s : Shared}
theorem sv_rc_str_dict {l : Addr} {es : Array DictEntry} {n : Nat} {dd : Option Addr} {sl : Array (Option Value)} (b : Str) (u : Tok) (ho : s.heap.get? l = some { cls := .type "dict", dict := dd, data := .dict es n, slots := sl }) (hu : A.units < cLine) : RcAt A s (.str b u) (.ref l) false := fun prog w E Q h => by
  exact rc_eq_decline_or (k := false) (typeIs_str s b u) ⟨_, ho, rfl⟩ (by decide) F.sub_dict_str F.slot_str_eq F.slot_dict_eq_refl
    (fun _ hq => call_meets F.slot_str_eq (typeIs_str s b u) F.entry_str_eq (F.args_str_eq_2 _ _) (sv_str_declines_dict b u l es n dd sl) ⟨ho, hq⟩)
    (fun _ hq => call_meets F.slot_dict_eq_refl ⟨_, ho, rfl⟩ F.entry_dict_eq (F.args_dict_eq_2 _ _) (sv_dict_declines_str l es n dd sl b u) ⟨ho, hq⟩)
    (fun _ hq => wpAny_of_eq (rfl : isSame (.str b u) (.ref l) = pure false) hq) (.inr hu) h
theorem sv_eq_str_dict {l : Addr} {es : Array DictEntry} {n : Nat} {dd : Option Addr} {sl : Array (Option Value)} (b : Str) (u : Tok) (ho : s.heap.get? l = some { cls := .type "dict", dict := dd, data := .dict es n, slots := sl }) (hu : A.units < cLine) : EqAt A s (.str b u) (.ref l) false := fun prog w E Q h => by
  unfold eqBool
  refine wpAny_holding ?_
  refine wpAny_ite_split (fun hab => absurd (eq_of_beq hab) nofun) (fun _ => ?_)
  exact wpAny_bind (sv_rc_str_dict b u ho hu prog w E _ (wpAny_truthy_bool h))
end
end PySem.SeqAt
namespace Sv
open PySem PySem.Spec PyProof.Rows L2
/-- a heap thing that is no text: a list, a tuple, a dict -/
inductive HeapTy (K : PySem.W.Frag) (H : Hp) : Addr → Prop
  | lst {a : Addr} {xs : List V} : SqL K H a xs → HeapTy K H a
  | tup {a : Addr} {xs : List V} : SqT K H a xs → HeapTy K H a
  | dict {a : Addr} {kvs : List (Key × V)} : H a = some (.dK kvs) → HeapTy K H a
/-- x not in a list of texts, x no text and on the heap -/
def rNotInH (K : PySem.W.Frag) : R2 := fun x y H Q => ∃ (a p : Addr) (ws : List Str), x = .ref a ∧ y = .ref p ∧ SqL K H p (ws.map V.str) ∧ HeapTy K H a ∧ Q (.bl true) H
section
variable {X : Cx}
theorem vals_strs : ∀ {ws : List Str} {us : List Value}, Vals (ws.map V.str) us → ∀ u ∈ us, ∃ b t, u = .str b t
  | [], _, .nil, u, h => by cases h
  | w :: ws, _, .cons r t, u, h => by
    obtain ⟨k, rfl⟩ := r
    rcases List.mem_cons.mp h with rfl | h
    · exact ⟨_, _, rfl⟩
    · exact vals_strs t u h
theorem op_notInH (hu : X.A.units + 1 < cLine) : OpR X (compareOp .NotIn) (rNotInH X.K) := by
  intro pins s σ H x y v u Q I rx ry h
  obtain ⟨a, p, ws, rfl, rfl, hq, ht, q⟩ := h
  cases rx
  cases ry
  obtain ⟨its, r, pl, hz⟩ := I.list hq
  refine SeqAt.notIn_listAt (fun _ => false) pl.isList (fun w hw => ?_) ⟨.bl _, H, I, rfl, ?_⟩
  · obtain ⟨b, t, rfl⟩ := vals_strs r w (by simpa using hw)
    cases ht with
    | lst h1 =>
      obtain ⟨i2, r2, pl2, _⟩ := I.list h1
      exact SeqAt.EqAt.str_list b t pl2.isList hu
    | tup h1 =>
      obtain ⟨i2, r2, pl2, _⟩ := I.tuple h1
      exact SeqAt.EqAt.str_tuple b t pl2 hu
    | dict h1 =>
      obtain ⟨_, _, vs, _, o, es, ep, h1, h2, h3, _⟩ := (show ObjOk X.prog X.w H s.heap a (.dK _) from I.hok a _ h1)
      obtain ⟨cls, dd, data, sl⟩ := o
      have hc := h2.1
      simp only at hc h3
      subst hc h3
      exact SeqAt.sv_eq_str_dict b t h1 hu
  · have : its.toArray.any (fun _ => false) = false := by simp
    rw [this]
    exact q
/-- both: a flat x, or a thing of the heap -/
theorem op_notInW (hu : X.A.units + 1 < cLine) : OpR X (compareOp .NotIn) (fun x y H Q => rIn X.K true x y H Q ∨ rNotInH X.K x y H Q) := op_notIn_seq.or (op_notInH hu)
end
end Sv
set_option Elab.async false
set_option linter.all false
set_option maxRecDepth 100000
set_option maxHeartbeats 4000000
/-! SvMake: C(..), a def's call, where the way out is told with the slots; further worlds. -/
namespace Sv
open PySem PySem.Spec PyProof.Rows L2
section
variable {X : Cx} {CX : CXT} {k : Nat} {f C : Addr} {fd : FuncData} {ps : List Str} {sp : Sp} {E : L2.St → XK} {x : Str} {p pos : Pos} {e : Expr} {es : List Expr} {t : TA}
theorem run_makeS {pins : List (Addr × Obj)} {σ : L2.St} {H : Hp} {s : Shared} {Q : VK} {us : List Value} {vs : List V} (M : Mk X.K C f) (F : FnOk X.prog X.w X.K X.mg X.base CX k f fd ps sp) (hr : Room (k + 1) X.A) (hb : Binds X.K fd ps [])
    (hx : PassesAt CX X σ (E σ)) (I : Inv X pins σ H s) (r : Vals vs us)
    (h : ∀ x dx, H x = none → H dx = none → dx ≠ x → sp (.ref x :: vs) (upd (upd H dx (.own x)) x (.ins C dx [])) (fun v H2 => v = .non ∧ Q (.ref x) H2) (E σ)) :
    wpAny (model X.prog X.w) X.A (call (.ref C) us) (EP X pins σ Q) X.xe s := by
  have hq := h (s.heap.objs.size + 1) s.heap.objs.size (I.hok.fresh (Nat.le_succ _)) (I.hok.fresh (Nat.le_refl _)) (Nat.ne_of_lt (Nat.lt_succ_self _))
  have I2 := Inv.made (C := C) I
  have r2 : Vals (V.ref (s.heap.objs.size + 1) :: vs) (Value.ref (s.heap.objs.size + 1) :: us) := .cons rfl r
  have hl : (Value.ref (s.heap.objs.size + 1) :: us).length = ps.length := by
    have e := r2.length
    rw [F.len _ _ _ _ hq] at e
    exact e.symm
  have bnd := hb _ (Value.ref (s.heap.objs.size + 1) :: us) I2.kIn (by rw [List.append_nil]; exact hl)
  rw [List.append_nil] at bnd
  refine wpAny_call (make_map (f := f) I.kIn M.makes M.init (beq_iff_eq.mp M.fn) (codeAny_mono (F.run _ X.stack _ _ ⟨Value.ref (s.heap.objs.size + 1) :: us, []⟩ (Value.ref (s.heap.objs.size + 1) :: us) _ _ (E σ) (hr.make C us [])
    (I2.env0.make C us []) bnd r2 hq) fun r s' hq' => ?_))
  cases r with
  | error e => exact hx pins _ _ e s' I2 hq'
  | ok fl =>
    cases fl with
    | ret u =>
      obtain ⟨v, H', I3, rv, ev, q3⟩ := I2.after hq'
      subst ev
      exact ⟨rv, ⟨V.ref (s.heap.objs.size + 1), H', I3, rfl, q3⟩⟩
    | next => exact False.elim hq'
    | brk => exact False.elim hq'
    | cont => exact False.elim hq'
/-- C(e, ..) -/
def tMakeS (C : Addr) (sp : Sp) (E : L2.St → XK) (t : TA) : TE := fun σ H Q => t σ H fun vs H1 => ∀ x dx, H1 x = none → H1 dx = none → dx ≠ x → sp (.ref x :: vs) (upd (upd H1 dx (.own x)) x (.ins C dx [])) (fun v H2 => v = .non ∧ Q (.ref x) H2) (E σ)
theorem pe_makeS (M : Mk X.K C f) (F : FnOk X.prog X.w X.K X.mg X.base CX k f fd ps sp) (hr : Room (k + 1) X.A) (hg : Gl X x) (hm : X.mg x = some (.ref C)) (hb : Binds X.K fd ps []) (hx : ∀ σ, PassesAt CX X σ (E σ))
    (ha : PA X (e :: es) t) (hdb : (x == ("__debug__" : Str)) = false := by decide) (he : starEach (e :: es) X.env = (false, eval e X.env) :: starEach es X.env := by rfl) (hpl : (backTo pos (starEach es X.env)).any (·.1) = false := by rfl) :
    PE X (.Call (.Name x p) (e :: es) [] pos) (tMakeS C sp E t) := by
  refine ⟨fun pins s σ H Q I h => ?_⟩
  refine wpAny_Call_Name_kw (ld_glob I hg hm ?_ hdb)
  refine PySem.W.callWith_K (h₀ := X.base) I.ok.mod.kin M.kp (thn (ha.run pos pins s σ H _ I h) fun us s1 ⟨vs, H1, I1, r, q⟩ => ⟨I1.kIn, ?_⟩) he hpl
  exact run_makeS M F hr hb (hx σ) I1 r q
/-- a def's call, the way out told with the slots -/
theorem pe_callNS (O : Ok X.prog X.w X.K X.mg X.base CX k f x ps sp) (hr : Room k X.A) (hx : ∀ σ, PassesAt CX X σ (E σ)) (ha : PA X (e :: es) t) (hg : Gl X x := by rfl) (hdb : (x == ("__debug__" : Str)) = false := by decide)
    (he : starEach (e :: es) X.env = (false, eval e X.env) :: starEach es X.env := by rfl) (hpl : (backTo pos (starEach es X.env)).any (·.1) = false := by rfl) : PE X (.Call (.Name x p) (e :: es) [] pos) (tCallS sp E t) := by
  obtain ⟨fd, F, b⟩ := O.fn
  exact pe_callS F hr hg O.at_ O.kp b hx ha hdb he hpl
end
section
variable {bs : List Addr} {G H G' H' : Hp} {p : Addr} {o : HO}
/-- one more of the new objects is told -/
theorem Grow.more (g : Grow bs G H G' H') (hp : H p = none) (hg : G' p = none) (h' : H' p = some o) : Grow bs G H (upd G' p o) H' := by
  refine ⟨fun b u z => ?_, fun b u z => ?_, g.keep, fun b hb z => ?_, g.there⟩
  · have := g.g b u z
    rw [upd_ne (ne_of_none this hg)]
    exact this
  · by_cases hbp : b = p
    · subst hbp
      rw [upd_same] at z
      rw [← z]
      exact h'
    · rw [upd_ne hbp] at z
      exact g.h b u z
  · rw [upd_ne (fun y => by rw [y] at hb; exact hb hp)]
    exact g.new b hb z
theorem Grow.same (g : Grow [] G H G' H') : Same H H' := fun b u e => g.keep b u e (by simp)
end
end Sv
set_option Elab.async false
set_option linter.all false
set_option maxRecDepth 100000
set_option maxHeartbeats 0
namespace K51
open PySem PySem.Spec PyProof.Rows L2 Sv
def top (i : Nat) : Stmt := PySem.Challenge.pw_sievemarks_k51_rules_told_and_refused.main.body.getD i (.Pass ⟨0, 0, 0, 0⟩)
abbrev s_ways : Stmt := top 37
abbrev N_ways : List Str := ["part", "row"]
theorem sc_ways : FnScope N_ways ["part"] (defScope s_ways) := ⟨rfl, rfl, rfl, by decide +kernel, rfl, by decide +kernel, by decide +kernel⟩
abbrev s_need_step : Stmt := top 42
abbrev N_need_step : List Str := ["step", "ahead", "part", "way", "row"]
theorem sc_need_step : FnScope N_need_step ["step", "ahead"] (defScope s_need_step) := ⟨rfl, rfl, rfl, by decide +kernel, rfl, by decide +kernel, by decide +kernel⟩
abbrev s_Rule___init__ : Stmt := inClass (top 43) 0
abbrev N_Rule___init__ : List Str := ["self", "steps", "found", "step"]
theorem sc_Rule___init__ : FnScope N_Rule___init__ ["self", "steps"] (defScope s_Rule___init__) := ⟨rfl, rfl, rfl, by decide +kernel, rfl, by decide +kernel, by decide +kernel⟩
abbrev s_Rule___eq__ : Stmt := inClass (top 43) 1
abbrev N_Rule___eq__ : List Str := ["self", "other"]
theorem sc_Rule___eq__ : FnScope N_Rule___eq__ ["self", "other"] (defScope s_Rule___eq__) := ⟨rfl, rfl, rfl, by decide +kernel, rfl, by decide +kernel, by decide +kernel⟩
abbrev s_Rule___len__ : Stmt := inClass (top 43) 2
abbrev N_Rule___len__ : List Str := ["self"]
theorem sc_Rule___len__ : FnScope N_Rule___len__ ["self"] (defScope s_Rule___len__) := ⟨rfl, rfl, rfl, by decide +kernel, rfl, by decide +kernel, by decide +kernel⟩
abbrev s_Rule_steps : Stmt := inClass (top 43) 3
abbrev N_Rule_steps : List Str := ["self"]
theorem sc_Rule_steps : FnScope N_Rule_steps ["self"] (defScope s_Rule_steps) := ⟨rfl, rfl, rfl, by decide +kernel, rfl, by decide +kernel, by decide +kernel⟩
abbrev s_first_rule : Stmt := top 44
abbrev N_first_rule : List Str := ["part"]
theorem sc_first_rule : FnScope N_first_rule [] (defScope s_first_rule) := ⟨rfl, rfl, rfl, by decide +kernel, rfl, by decide +kernel, by decide +kernel⟩
abbrev s_law_cell : Stmt := top 46
abbrev N_law_cell : List Str := ["script", "k"]
theorem sc_law_cell : FnScope N_law_cell ["script", "k"] (defScope s_law_cell) := ⟨rfl, rfl, rfl, by decide +kernel, rfl, by decide +kernel, by decide +kernel⟩
abbrev s_law_box : Stmt := top 47
abbrev N_law_box : List Str := ["cell"]
theorem sc_law_box : FnScope N_law_box ["cell"] (defScope s_law_box) := ⟨rfl, rfl, rfl, by decide +kernel, rfl, by decide +kernel, by decide +kernel⟩
abbrev s_law_take : Stmt := top 48
abbrev N_law_take : List Str := ["box", "many", "digit", "mixed"]
theorem sc_law_take : FnScope N_law_take ["box", "many"] (defScope s_law_take) := ⟨rfl, rfl, rfl, by decide +kernel, rfl, by decide +kernel, by decide +kernel⟩
abbrev s_law_ways : Stmt := top 49
abbrev N_law_ways : List Str := ["at", "rows"]
theorem sc_law_ways : FnScope N_law_ways ["at"] (defScope s_law_ways) := ⟨rfl, rfl, rfl, by decide +kernel, rfl, by decide +kernel, by decide +kernel⟩
abbrev s_law_steps : Stmt := top 50
abbrev N_law_steps : List Str := ["box", "words", "left", "found", "turn", "at"]
theorem sc_law_steps : FnScope N_law_steps ["box"] (defScope s_law_steps) := ⟨rfl, rfl, rfl, by decide +kernel, rfl, by decide +kernel, by decide +kernel⟩
abbrev s_law_other : Stmt := top 51
abbrev N_law_other : List Str := ["box", "steps", "found", "way", "at", "words", "row"]
theorem sc_law_other : FnScope N_law_other ["box", "steps"] (defScope s_law_other) := ⟨rfl, rfl, rfl, by decide +kernel, rfl, by decide +kernel, by decide +kernel⟩
abbrev s_law_right : Stmt := top 52
abbrev N_law_right : List Str := ["rule", "steps", "turn", "found"]
theorem sc_law_right : FnScope N_law_right ["rule", "steps"] (defScope s_law_right) := ⟨rfl, rfl, rfl, by decide +kernel, rfl, by decide +kernel, by decide +kernel⟩
abbrev s_law_parts_told : Stmt := top 53
abbrev N_law_parts_told : List Str := ["words", "turn", "at", "word", "found"]
theorem sc_law_parts_told : FnScope N_law_parts_told [] (defScope s_law_parts_told) := ⟨rfl, rfl, rfl, by decide +kernel, rfl, by decide +kernel, by decide +kernel⟩
abbrev s_law_first : Stmt := top 54
abbrev N_law_first : List Str := ["script", "k", "box", "first", "second", "handed", "one", "other", "found"]
theorem sc_law_first : FnScope N_law_first ["script"] (defScope s_law_first) := ⟨rfl, rfl, rfl, by decide +kernel, rfl, by decide +kernel, by decide +kernel⟩
abbrev s_law_cell_two : Stmt := top 55
abbrev N_law_cell_two : List Str := ["script", "k"]
theorem sc_law_cell_two : FnScope N_law_cell_two ["script", "k"] (defScope s_law_cell_two) := ⟨rfl, rfl, rfl, by decide +kernel, rfl, by decide +kernel, by decide +kernel⟩
abbrev s_law_take_two : Stmt := top 56
abbrev N_law_take_two : List Str := ["box", "many", "digit", "mixed"]
theorem sc_law_take_two : FnScope N_law_take_two ["box", "many"] (defScope s_law_take_two) := ⟨rfl, rfl, rfl, by decide +kernel, rfl, by decide +kernel, by decide +kernel⟩
abbrev s_law_steps_two : Stmt := top 57
abbrev N_law_steps_two : List Str := ["box", "words", "left", "found", "turn", "at"]
theorem sc_law_steps_two : FnScope N_law_steps_two ["box"] (defScope s_law_steps_two) := ⟨rfl, rfl, rfl, by decide +kernel, rfl, by decide +kernel, by decide +kernel⟩
abbrev s_law_thing : Stmt := top 58
abbrev N_law_thing : List Str := ["box", "some"]
theorem sc_law_thing : FnScope N_law_thing ["box"] (defScope s_law_thing) := ⟨rfl, rfl, rfl, by decide +kernel, rfl, by decide +kernel, by decide +kernel⟩
abbrev s_law_whole : Stmt := top 59
abbrev N_law_whole : List Str := ["box", "steps", "some"]
theorem sc_law_whole : FnScope N_law_whole ["box", "steps"] (defScope s_law_whole) := ⟨rfl, rfl, rfl, by decide +kernel, rfl, by decide +kernel, by decide +kernel⟩
abbrev s_law_spoilt : Stmt := top 60
abbrev N_law_spoilt : List Str := ["box", "steps", "at", "part", "way", "kind", "thing", "pick", "bad"]
theorem sc_law_spoilt : FnScope N_law_spoilt ["box", "steps", "at"] (defScope s_law_spoilt) := ⟨rfl, rfl, rfl, by decide +kernel, rfl, by decide +kernel, by decide +kernel⟩
abbrev s_law_caught : Stmt := top 61
abbrev N_law_caught : List Str := ["thing", "found", "e"]
theorem sc_law_caught : FnScope N_law_caught ["thing"] (defScope s_law_caught) := ⟨rfl, rfl, rfl, by decide +kernel, rfl, by decide +kernel, by decide +kernel⟩
abbrev s_law_refused : Stmt := top 62
abbrev N_law_refused : List Str := ["whole", "kind", "thing", "turn", "found"]
theorem sc_law_refused : FnScope N_law_refused ["whole", "kind", "thing"] (defScope s_law_refused) := ⟨rfl, rfl, rfl, by decide +kernel, rfl, by decide +kernel, by decide +kernel⟩
abbrev s_law_no_part : Stmt := top 63
abbrev N_law_no_part : List Str := ["thing", "found", "e"]
theorem sc_law_no_part : FnScope N_law_no_part ["thing"] (defScope s_law_no_part) := ⟨rfl, rfl, rfl, by decide +kernel, rfl, by decide +kernel, by decide +kernel⟩
abbrev s_law_second : Stmt := top 64
abbrev N_law_second : List Str := ["script", "k", "box", "good", "row", "ats", "due", "at", "spoilt", "whole"]
theorem sc_law_second : FnScope N_law_second ["script"] (defScope s_law_second) := ⟨rfl, rfl, rfl, by decide +kernel, rfl, by decide +kernel, by decide +kernel⟩
abbrev s_law : Stmt := top 65
abbrev N_law : List Str := ["script"]
theorem sc_law : FnScope N_law ["script"] (defScope s_law) := ⟨rfl, rfl, rfl, by decide +kernel, rfl, by decide +kernel, by decide +kernel⟩
abbrev s_Twice___init__ : Stmt := inClass (top 4) 0
abbrev N_Twice___init__ : List Str := ["self", "found"]
theorem sc_Twice___init__ : FnScope N_Twice___init__ ["self", "found"] (defScope s_Twice___init__) := ⟨rfl, rfl, rfl, by decide +kernel, rfl, by decide +kernel, by decide +kernel⟩
abbrev s_NoSteps___init__ : Stmt := inClass (top 5) 0
abbrev N_NoSteps___init__ : List Str := ["self", "found"]
theorem sc_NoSteps___init__ : FnScope N_NoSteps___init__ ["self", "found"] (defScope s_NoSteps___init__) := ⟨rfl, rfl, rfl, by decide +kernel, rfl, by decide +kernel, by decide +kernel⟩
abbrev s_NoStep___init__ : Stmt := inClass (top 6) 0
abbrev N_NoStep___init__ : List Str := ["self", "found"]
theorem sc_NoStep___init__ : FnScope N_NoStep___init__ ["self", "found"] (defScope s_NoStep___init__) := ⟨rfl, rfl, rfl, by decide +kernel, rfl, by decide +kernel, by decide +kernel⟩
abbrev s_NoPart___init__ : Stmt := inClass (top 7) 0
abbrev N_NoPart___init__ : List Str := ["self", "found"]
theorem sc_NoPart___init__ : FnScope N_NoPart___init__ ["self", "found"] (defScope s_NoPart___init__) := ⟨rfl, rfl, rfl, by decide +kernel, rfl, by decide +kernel, by decide +kernel⟩
abbrev s_NoWay___init__ : Stmt := inClass (top 8) 0
abbrev N_NoWay___init__ : List Str := ["self", "found"]
theorem sc_NoWay___init__ : FnScope N_NoWay___init__ ["self", "found"] (defScope s_NoWay___init__) := ⟨rfl, rfl, rfl, by decide +kernel, rfl, by decide +kernel, by decide +kernel⟩
def fs0 : List FactB := [fF (.glo "Twice"),
  fF (.glo "NoSteps"),
  fF (.glo "NoStep"),
  fF (.glo "NoPart"),
  fF (.glo "NoWay"),
  fF (.glo "MarkError"),
  fF (.glo "Missing"),
  fF (.glo "PARTS"),
  fF (.glo "KEYS"),
  fF (.glo "Rule"),
  fF (.glo "ways"),
  fF (.glo "need_step"),
  fF (.glo "first_rule"),
  fF (.glo "_law_cell"),
  fF (.glo "_law_box"),
  fF (.glo "_law_take"),
  fF (.glo "_law_ways"),
  fF (.glo "_law_steps"),
  fF (.glo "_law_other"),
  fF (.glo "_law_right"),
  fF (.glo "_law_parts_told"),
  fF (.glo "_law_first"),
  fF (.glo "_law_cell_two"),
  fF (.glo "_law_take_two"),
  fF (.glo "_law_steps_two"),
  fF (.glo "_law_thing"),
  fF (.glo "_law_whole"),
  fF (.glo "_law_spoilt"),
  fF (.glo "_law_caught"),
  fF (.glo "_law_refused")]
def fs1 : List FactB := [fF (.glo "_law_no_part"),
  fF (.glo "_law_second"),
  fF (.glo "law"),
  fF (.free "len"),
  fF (.free "max"),
  fF (.free "min"),
  fF (.free "range"),
  fF (.free "list"),
  fF (.free "tuple"),
  fF (.free "isinstance"),
  fF (.free "repr"),
  fF (.free "str"),
  fF (.free "int"),
  fF (.free "sorted"),
  fF (.free "enumerate"),
  fF (.free "ValueError"),
  fF (.int "MOST" 6),
  fun K => He.tupB K "PARTS" [.str "letters", .str "number", .str "points", .str "makers", .str "year", .str "copy"],
  keysB "KEYS" ["letters words", "letters short", "number whole", "number figures", "points decimal", "points whole", "points late", "makers decimal", "makers whole", "makers few", "year rising", "year falling", "year late", "year figures", "copy rising", "copy falling", "copy figures"],
  oexB "Twice",
  oinB "Twice",
  xicB "Twice",
  fF (.noat "Twice" "found"),
  oexB "NoSteps",
  oinB "NoSteps",
  xicB "NoSteps",
  fF (.noat "NoSteps" "found"),
  oexB "NoStep",
  oinB "NoStep",
  xicB "NoStep"]
def fs2 : List FactB := [fF (.noat "NoStep" "found"),
  oexB "NoPart",
  oinB "NoPart",
  xicB "NoPart",
  fF (.noat "NoPart" "found"),
  oexB "NoWay",
  oinB "NoWay",
  xicB "NoWay",
  fF (.noat "NoWay" "found"),
  ginB "MarkError",
  fF (.cls "Rule"),
  fF (.mkr "Rule"),
  fF (.meth "Rule" "steps"),
  eqcB "Rule",
  lenB "Rule",
  fF (.noat "Rule" "kept_steps"),
  insB "Rule",
  fF (.exm "Twice" "NoSteps" false),
  fF (.exm "Twice" "NoStep" false),
  fF (.exm "Twice" "NoPart" false),
  fF (.exm "Twice" "NoWay" false),
  fF (.exm "Twice" "Twice" true),
  fF (.exm "Twice" "MarkError" true),
  fF (.exm "NoSteps" "NoSteps" true),
  fF (.exm "NoSteps" "NoStep" false),
  fF (.exm "NoSteps" "NoPart" false),
  fF (.exm "NoSteps" "NoWay" false),
  fF (.exm "NoSteps" "Twice" false),
  fF (.exm "NoSteps" "MarkError" true),
  fF (.exm "NoStep" "NoSteps" false)]
def fs3 : List FactB := [fF (.exm "NoStep" "NoStep" true),
  fF (.exm "NoStep" "NoPart" false),
  fF (.exm "NoStep" "NoWay" false),
  fF (.exm "NoStep" "Twice" false),
  fF (.exm "NoStep" "MarkError" true),
  fF (.exm "NoPart" "NoSteps" false),
  fF (.exm "NoPart" "NoStep" false),
  fF (.exm "NoPart" "NoPart" true),
  fF (.exm "NoPart" "NoWay" false),
  fF (.exm "NoPart" "Twice" false),
  fF (.exm "NoPart" "MarkError" true),
  fF (.exm "NoWay" "NoSteps" false),
  fF (.exm "NoWay" "NoStep" false),
  fF (.exm "NoWay" "NoPart" false),
  fF (.exm "NoWay" "NoWay" true),
  fF (.exm "NoWay" "Twice" false),
  fF (.exm "NoWay" "MarkError" true),
  kitB1 "NoSteps" "NoStep" false,
  kitB1 "NoSteps" "Missing" false,
  kitB1 "NoStep" "NoSteps" false,
  kitB1 "NoStep" "Missing" false,
  kitB1 "NoPart" "NoWay" false,
  kitB1 "NoPart" "Missing" false,
  kitB1 "NoWay" "NoPart" false,
  kitB1 "NoWay" "Missing" false,
  kitB1 "Twice" "NoPart" false,
  kitB1 "Twice" "Missing" false,
  kitB1 "Rule" "Rule" true,
  kitB2 "list" "Rule" false,
  kitB2 "str" "Rule" false]
def fs4 : List FactB := [kitB2 "int" "Rule" false,
  kitB2 "tuple" "Rule" false,
  fun K => decide (PySem.W.notFirst K (He.ga K "Rule") (.type "list") = true),
  fun K => decide (PySem.W.notFirst K (He.ga K "Rule") (.type "str") = true),
  fun K => decide (PySem.W.notFirst K (He.ga K "Rule") (.type "int") = true),
  fun K => decide (PySem.W.notFirst K (He.ga K "Rule") (.type "tuple") = true)]
def fs : List FactB := fs0 ++ fs1 ++ fs2 ++ fs3 ++ fs4
def d_ways : He.DefD := ⟨("ways", none), "ways", "ways", defArgs s_ways, defBody s_ways, defScope s_ways, [], []⟩
def d_need_step : He.DefD := ⟨("need_step", none), "need_step", "need_step", defArgs s_need_step, defBody s_need_step, defScope s_need_step, [], []⟩
def d_Rule___init__ : He.DefD := ⟨("Rule", some "__init__"), "__init__", "Rule.__init__", defArgs s_Rule___init__, defBody s_Rule___init__, defScope s_Rule___init__, [], []⟩
def d_Rule___eq__ : He.DefD := ⟨("Rule", some "__eq__"), "__eq__", "Rule.__eq__", defArgs s_Rule___eq__, defBody s_Rule___eq__, defScope s_Rule___eq__, [], []⟩
def d_Rule___len__ : He.DefD := ⟨("Rule", some "__len__"), "__len__", "Rule.__len__", defArgs s_Rule___len__, defBody s_Rule___len__, defScope s_Rule___len__, [], []⟩
def d_Rule_steps : He.DefD := ⟨("Rule", some "steps"), "steps", "Rule.steps", defArgs s_Rule_steps, defBody s_Rule_steps, defScope s_Rule_steps, [], []⟩
def d_first_rule : He.DefD := ⟨("first_rule", none), "first_rule", "first_rule", defArgs s_first_rule, defBody s_first_rule, defScope s_first_rule, [], []⟩
def d_law_cell : He.DefD := ⟨("_law_cell", none), "_law_cell", "_law_cell", defArgs s_law_cell, defBody s_law_cell, defScope s_law_cell, [], []⟩
def d_law_box : He.DefD := ⟨("_law_box", none), "_law_box", "_law_box", defArgs s_law_box, defBody s_law_box, defScope s_law_box, [], []⟩
def d_law_take : He.DefD := ⟨("_law_take", none), "_law_take", "_law_take", defArgs s_law_take, defBody s_law_take, defScope s_law_take, [], []⟩
def d_law_ways : He.DefD := ⟨("_law_ways", none), "_law_ways", "_law_ways", defArgs s_law_ways, defBody s_law_ways, defScope s_law_ways, [], []⟩
def d_law_steps : He.DefD := ⟨("_law_steps", none), "_law_steps", "_law_steps", defArgs s_law_steps, defBody s_law_steps, defScope s_law_steps, [], []⟩
def d_law_other : He.DefD := ⟨("_law_other", none), "_law_other", "_law_other", defArgs s_law_other, defBody s_law_other, defScope s_law_other, [], []⟩
def d_law_right : He.DefD := ⟨("_law_right", none), "_law_right", "_law_right", defArgs s_law_right, defBody s_law_right, defScope s_law_right, [], []⟩
def d_law_parts_told : He.DefD := ⟨("_law_parts_told", none), "_law_parts_told", "_law_parts_told", defArgs s_law_parts_told, defBody s_law_parts_told, defScope s_law_parts_told, [], []⟩
def d_law_first : He.DefD := ⟨("_law_first", none), "_law_first", "_law_first", defArgs s_law_first, defBody s_law_first, defScope s_law_first, [], []⟩
def d_law_cell_two : He.DefD := ⟨("_law_cell_two", none), "_law_cell_two", "_law_cell_two", defArgs s_law_cell_two, defBody s_law_cell_two, defScope s_law_cell_two, [], []⟩
def d_law_take_two : He.DefD := ⟨("_law_take_two", none), "_law_take_two", "_law_take_two", defArgs s_law_take_two, defBody s_law_take_two, defScope s_law_take_two, [], []⟩
def d_law_steps_two : He.DefD := ⟨("_law_steps_two", none), "_law_steps_two", "_law_steps_two", defArgs s_law_steps_two, defBody s_law_steps_two, defScope s_law_steps_two, [], []⟩
def d_law_thing : He.DefD := ⟨("_law_thing", none), "_law_thing", "_law_thing", defArgs s_law_thing, defBody s_law_thing, defScope s_law_thing, [], []⟩
def d_law_whole : He.DefD := ⟨("_law_whole", none), "_law_whole", "_law_whole", defArgs s_law_whole, defBody s_law_whole, defScope s_law_whole, [], []⟩
def d_law_spoilt : He.DefD := ⟨("_law_spoilt", none), "_law_spoilt", "_law_spoilt", defArgs s_law_spoilt, defBody s_law_spoilt, defScope s_law_spoilt, [], []⟩
def d_law_caught : He.DefD := ⟨("_law_caught", none), "_law_caught", "_law_caught", defArgs s_law_caught, defBody s_law_caught, defScope s_law_caught, [], []⟩
def d_law_refused : He.DefD := ⟨("_law_refused", none), "_law_refused", "_law_refused", defArgs s_law_refused, defBody s_law_refused, defScope s_law_refused, [], []⟩
def d_law_no_part : He.DefD := ⟨("_law_no_part", none), "_law_no_part", "_law_no_part", defArgs s_law_no_part, defBody s_law_no_part, defScope s_law_no_part, [], []⟩
def d_law_second : He.DefD := ⟨("_law_second", none), "_law_second", "_law_second", defArgs s_law_second, defBody s_law_second, defScope s_law_second, [], []⟩
def d_law : He.DefD := ⟨("law", none), "law", "law", defArgs s_law, defBody s_law, defScope s_law, [], []⟩
def d_Twice___init__ : He.DefD := ⟨("Twice", some "__init__"), "__init__", "Twice.__init__", defArgs s_Twice___init__, defBody s_Twice___init__, defScope s_Twice___init__, [], []⟩
def d_NoSteps___init__ : He.DefD := ⟨("NoSteps", some "__init__"), "__init__", "NoSteps.__init__", defArgs s_NoSteps___init__, defBody s_NoSteps___init__, defScope s_NoSteps___init__, [], []⟩
def d_NoStep___init__ : He.DefD := ⟨("NoStep", some "__init__"), "__init__", "NoStep.__init__", defArgs s_NoStep___init__, defBody s_NoStep___init__, defScope s_NoStep___init__, [], []⟩
def d_NoPart___init__ : He.DefD := ⟨("NoPart", some "__init__"), "__init__", "NoPart.__init__", defArgs s_NoPart___init__, defBody s_NoPart___init__, defScope s_NoPart___init__, [], []⟩
def d_NoWay___init__ : He.DefD := ⟨("NoWay", some "__init__"), "__init__", "NoWay.__init__", defArgs s_NoWay___init__, defBody s_NoWay___init__, defScope s_NoWay___init__, [], []⟩
def fn : List He.DefD := [d_ways, d_need_step, d_Rule___init__, d_Rule___eq__, d_Rule___len__, d_Rule_steps, d_first_rule, d_law_cell, d_law_box, d_law_take, d_law_ways, d_law_steps, d_law_other, d_law_right, d_law_parts_told, d_law_first, d_law_cell_two, d_law_take_two, d_law_steps_two, d_law_thing, d_law_whole, d_law_spoilt, d_law_caught, d_law_refused, d_law_no_part, d_law_second, d_law, d_Twice___init__, d_NoSteps___init__, d_NoStep___init__, d_NoPart___init__, d_NoWay___init__]
structure T (K : PySem.W.Frag) (mg : Str → Option Value) : Prop where
  g_Twice : mg "Twice" = some (.ref (He.ga K "Twice"))
  g_NoSteps : mg "NoSteps" = some (.ref (He.ga K "NoSteps"))
  g_NoStep : mg "NoStep" = some (.ref (He.ga K "NoStep"))
  g_NoPart : mg "NoPart" = some (.ref (He.ga K "NoPart"))
  g_NoWay : mg "NoWay" = some (.ref (He.ga K "NoWay"))
  g_MarkError : mg "MarkError" = some (.ref (He.ga K "MarkError"))
  g_Missing : mg "Missing" = some (.ref (He.ga K "Missing"))
  g_PARTS : mg "PARTS" = some (.ref (He.ga K "PARTS"))
  g_KEYS : mg "KEYS" = some (.ref (He.ga K "KEYS"))
  g_Rule : mg "Rule" = some (.ref (He.ga K "Rule"))
  g_ways : mg "ways" = some (.ref (He.ga K "ways"))
  g_need_step : mg "need_step" = some (.ref (He.ga K "need_step"))
  g_first_rule : mg "first_rule" = some (.ref (He.ga K "first_rule"))
  g_law_cell : mg "_law_cell" = some (.ref (He.ga K "_law_cell"))
  g_law_box : mg "_law_box" = some (.ref (He.ga K "_law_box"))
  g_law_take : mg "_law_take" = some (.ref (He.ga K "_law_take"))
  g_law_ways : mg "_law_ways" = some (.ref (He.ga K "_law_ways"))
  g_law_steps : mg "_law_steps" = some (.ref (He.ga K "_law_steps"))
  g_law_other : mg "_law_other" = some (.ref (He.ga K "_law_other"))
  g_law_right : mg "_law_right" = some (.ref (He.ga K "_law_right"))
  g_law_parts_told : mg "_law_parts_told" = some (.ref (He.ga K "_law_parts_told"))
  g_law_first : mg "_law_first" = some (.ref (He.ga K "_law_first"))
  g_law_cell_two : mg "_law_cell_two" = some (.ref (He.ga K "_law_cell_two"))
  g_law_take_two : mg "_law_take_two" = some (.ref (He.ga K "_law_take_two"))
  g_law_steps_two : mg "_law_steps_two" = some (.ref (He.ga K "_law_steps_two"))
  g_law_thing : mg "_law_thing" = some (.ref (He.ga K "_law_thing"))
  g_law_whole : mg "_law_whole" = some (.ref (He.ga K "_law_whole"))
  g_law_spoilt : mg "_law_spoilt" = some (.ref (He.ga K "_law_spoilt"))
  g_law_caught : mg "_law_caught" = some (.ref (He.ga K "_law_caught"))
  g_law_refused : mg "_law_refused" = some (.ref (He.ga K "_law_refused"))
  g_law_no_part : mg "_law_no_part" = some (.ref (He.ga K "_law_no_part"))
  g_law_second : mg "_law_second" = some (.ref (He.ga K "_law_second"))
  g_law : mg "law" = some (.ref (He.ga K "law"))
  z_len : mg "len" = none
  z_max : mg "max" = none
  z_min : mg "min" = none
  z_range : mg "range" = none
  z_list : mg "list" = none
  z_tuple : mg "tuple" = none
  z_isinstance : mg "isinstance" = none
  z_repr : mg "repr" = none
  z_str : mg "str" = none
  z_int : mg "int" = none
  z_sorted : mg "sorted" = none
  z_enumerate : mg "enumerate" = none
  z_ValueError : mg "ValueError" = none
  g_MOST : ∃ t, mg "MOST" = some (.int 6 t)
  t_PARTS : ∀ H, SqT K H (He.ga K "PARTS") [.str "letters", .str "number", .str "points", .str "makers", .str "year", .str "copy"]
  k_KEYS : WKeys K (He.ga K "KEYS") ["letters words", "letters short", "number whole", "number figures", "points decimal", "points whole", "points late", "makers decimal", "makers whole", "makers few", "year rising", "year falling", "year late", "year figures", "copy rising", "copy falling", "copy figures"]
  x_Twice : OexC K (He.ga K "Twice")
  xi_Twice : PySem.W.findIn K (.ref (He.ga K "Twice")) "__init__" = some (some (.ref (He.ma K (He.ga K "Twice") "__init__"))) ∧ PySem.W.typeIn K (.ref (He.ma K (He.ga K "Twice") "__init__")) = some (.type "function")
  xc_Twice : XfC K (He.ga K "Twice") ∧ ExcC K (He.ga K "Twice")
  xn_Twice : NoAttr K (He.ga K "Twice") "found"
  x_NoSteps : OexC K (He.ga K "NoSteps")
  xi_NoSteps : PySem.W.findIn K (.ref (He.ga K "NoSteps")) "__init__" = some (some (.ref (He.ma K (He.ga K "NoSteps") "__init__"))) ∧ PySem.W.typeIn K (.ref (He.ma K (He.ga K "NoSteps") "__init__")) = some (.type "function")
  xc_NoSteps : XfC K (He.ga K "NoSteps") ∧ ExcC K (He.ga K "NoSteps")
  xn_NoSteps : NoAttr K (He.ga K "NoSteps") "found"
  x_NoStep : OexC K (He.ga K "NoStep")
  xi_NoStep : PySem.W.findIn K (.ref (He.ga K "NoStep")) "__init__" = some (some (.ref (He.ma K (He.ga K "NoStep") "__init__"))) ∧ PySem.W.typeIn K (.ref (He.ma K (He.ga K "NoStep") "__init__")) = some (.type "function")
  xc_NoStep : XfC K (He.ga K "NoStep") ∧ ExcC K (He.ga K "NoStep")
  xn_NoStep : NoAttr K (He.ga K "NoStep") "found"
  x_NoPart : OexC K (He.ga K "NoPart")
  xi_NoPart : PySem.W.findIn K (.ref (He.ga K "NoPart")) "__init__" = some (some (.ref (He.ma K (He.ga K "NoPart") "__init__"))) ∧ PySem.W.typeIn K (.ref (He.ma K (He.ga K "NoPart") "__init__")) = some (.type "function")
  xc_NoPart : XfC K (He.ga K "NoPart") ∧ ExcC K (He.ga K "NoPart")
  xn_NoPart : NoAttr K (He.ga K "NoPart") "found"
  x_NoWay : OexC K (He.ga K "NoWay")
  xi_NoWay : PySem.W.findIn K (.ref (He.ga K "NoWay")) "__init__" = some (some (.ref (He.ma K (He.ga K "NoWay") "__init__"))) ∧ PySem.W.typeIn K (.ref (He.ma K (He.ga K "NoWay") "__init__")) = some (.type "function")
  xc_NoWay : XfC K (He.ga K "NoWay") ∧ ExcC K (He.ga K "NoWay")
  xn_NoWay : NoAttr K (He.ga K "NoWay") "found"
  gin : ClX.CRead K (He.ga K "MarkError") (.type "type") ∧ PySem.W.findCls K (.ref (He.ga K "MarkError")) (.type "type") "__init__" = some (.val (.builtin "ValueError.__init__"))
  cls : Cls K (He.ga K "Rule")
  mkr : Mk K (He.ga K "Rule") (He.ma K (He.ga K "Rule") "__init__")
  meth_steps : Meth K (He.ga K "Rule") "steps" (He.ma K (He.ga K "Rule") "steps")
  eqc : EqC K (He.ga K "Rule") (He.ma K (He.ga K "Rule") "__eq__")
  len : PySem.W.findIn K (.ref (He.ga K "Rule")) "__len__" = some (some (.ref (He.ma K (He.ga K "Rule") "__len__"))) ∧ PySem.W.isFn K (.ref (He.ma K (He.ga K "Rule") "__len__")) = true
  no_steps : NoAttr K (He.ga K "Rule") "kept_steps"
  ins : PySem.W.findIn K (.ref (He.ga K "Rule")) "__class__" = some (some (.builtin "object.__class__")) ∧ PySem.W.specialIn K (.builtin "object.__class__") "__get__" = some (some (.builtin "getset_descriptor.__get__")) ∧ PySem.W.takesIn K (.builtin "object.__class__") = some true ∧ PySem.W.mroIn K (He.ga K "Rule") (.type "object") = some true
  m_Twice_NoSteps : PySem.W.exmOne K (.ref (He.ga K "Twice")) (.ref (He.ga K "NoSteps")) = some false
  m_Twice_NoStep : PySem.W.exmOne K (.ref (He.ga K "Twice")) (.ref (He.ga K "NoStep")) = some false
  m_Twice_NoPart : PySem.W.exmOne K (.ref (He.ga K "Twice")) (.ref (He.ga K "NoPart")) = some false
  m_Twice_NoWay : PySem.W.exmOne K (.ref (He.ga K "Twice")) (.ref (He.ga K "NoWay")) = some false
  m_Twice_Twice : PySem.W.exmOne K (.ref (He.ga K "Twice")) (.ref (He.ga K "Twice")) = some true
  m_Twice_MarkError : PySem.W.exmOne K (.ref (He.ga K "Twice")) (.ref (He.ga K "MarkError")) = some true
  m_NoSteps_NoSteps : PySem.W.exmOne K (.ref (He.ga K "NoSteps")) (.ref (He.ga K "NoSteps")) = some true
  m_NoSteps_NoStep : PySem.W.exmOne K (.ref (He.ga K "NoSteps")) (.ref (He.ga K "NoStep")) = some false
  m_NoSteps_NoPart : PySem.W.exmOne K (.ref (He.ga K "NoSteps")) (.ref (He.ga K "NoPart")) = some false
  m_NoSteps_NoWay : PySem.W.exmOne K (.ref (He.ga K "NoSteps")) (.ref (He.ga K "NoWay")) = some false
  m_NoSteps_Twice : PySem.W.exmOne K (.ref (He.ga K "NoSteps")) (.ref (He.ga K "Twice")) = some false
  m_NoSteps_MarkError : PySem.W.exmOne K (.ref (He.ga K "NoSteps")) (.ref (He.ga K "MarkError")) = some true
  m_NoStep_NoSteps : PySem.W.exmOne K (.ref (He.ga K "NoStep")) (.ref (He.ga K "NoSteps")) = some false
  m_NoStep_NoStep : PySem.W.exmOne K (.ref (He.ga K "NoStep")) (.ref (He.ga K "NoStep")) = some true
  m_NoStep_NoPart : PySem.W.exmOne K (.ref (He.ga K "NoStep")) (.ref (He.ga K "NoPart")) = some false
  m_NoStep_NoWay : PySem.W.exmOne K (.ref (He.ga K "NoStep")) (.ref (He.ga K "NoWay")) = some false
  m_NoStep_Twice : PySem.W.exmOne K (.ref (He.ga K "NoStep")) (.ref (He.ga K "Twice")) = some false
  m_NoStep_MarkError : PySem.W.exmOne K (.ref (He.ga K "NoStep")) (.ref (He.ga K "MarkError")) = some true
  m_NoPart_NoSteps : PySem.W.exmOne K (.ref (He.ga K "NoPart")) (.ref (He.ga K "NoSteps")) = some false
  m_NoPart_NoStep : PySem.W.exmOne K (.ref (He.ga K "NoPart")) (.ref (He.ga K "NoStep")) = some false
  m_NoPart_NoPart : PySem.W.exmOne K (.ref (He.ga K "NoPart")) (.ref (He.ga K "NoPart")) = some true
  m_NoPart_NoWay : PySem.W.exmOne K (.ref (He.ga K "NoPart")) (.ref (He.ga K "NoWay")) = some false
  m_NoPart_Twice : PySem.W.exmOne K (.ref (He.ga K "NoPart")) (.ref (He.ga K "Twice")) = some false
  m_NoPart_MarkError : PySem.W.exmOne K (.ref (He.ga K "NoPart")) (.ref (He.ga K "MarkError")) = some true
  m_NoWay_NoSteps : PySem.W.exmOne K (.ref (He.ga K "NoWay")) (.ref (He.ga K "NoSteps")) = some false
  m_NoWay_NoStep : PySem.W.exmOne K (.ref (He.ga K "NoWay")) (.ref (He.ga K "NoStep")) = some false
  m_NoWay_NoPart : PySem.W.exmOne K (.ref (He.ga K "NoWay")) (.ref (He.ga K "NoPart")) = some false
  m_NoWay_NoWay : PySem.W.exmOne K (.ref (He.ga K "NoWay")) (.ref (He.ga K "NoWay")) = some true
  m_NoWay_Twice : PySem.W.exmOne K (.ref (He.ga K "NoWay")) (.ref (He.ga K "Twice")) = some false
  m_NoWay_MarkError : PySem.W.exmOne K (.ref (He.ga K "NoWay")) (.ref (He.ga K "MarkError")) = some true
  q_NoSteps_NoStep : PySem.W.kitOne K (.ref (He.ga K "NoSteps")) (.ref (He.ga K "NoStep")) = some false
  q_NoSteps_Missing : PySem.W.kitOne K (.ref (He.ga K "NoSteps")) (.ref (He.ga K "Missing")) = some false
  q_NoStep_NoSteps : PySem.W.kitOne K (.ref (He.ga K "NoStep")) (.ref (He.ga K "NoSteps")) = some false
  q_NoStep_Missing : PySem.W.kitOne K (.ref (He.ga K "NoStep")) (.ref (He.ga K "Missing")) = some false
  q_NoPart_NoWay : PySem.W.kitOne K (.ref (He.ga K "NoPart")) (.ref (He.ga K "NoWay")) = some false
  q_NoPart_Missing : PySem.W.kitOne K (.ref (He.ga K "NoPart")) (.ref (He.ga K "Missing")) = some false
  q_NoWay_NoPart : PySem.W.kitOne K (.ref (He.ga K "NoWay")) (.ref (He.ga K "NoPart")) = some false
  q_NoWay_Missing : PySem.W.kitOne K (.ref (He.ga K "NoWay")) (.ref (He.ga K "Missing")) = some false
  q_Twice_NoPart : PySem.W.kitOne K (.ref (He.ga K "Twice")) (.ref (He.ga K "NoPart")) = some false
  q_Twice_Missing : PySem.W.kitOne K (.ref (He.ga K "Twice")) (.ref (He.ga K "Missing")) = some false
  q_Rule : PySem.W.kitOne K (.ref (He.ga K "Rule")) (.ref (He.ga K "Rule")) = some true
  q_Rule_list : PySem.W.kitOne K (.type "list") (.ref (He.ga K "Rule")) = some false
  q_Rule_str : PySem.W.kitOne K (.type "str") (.ref (He.ga K "Rule")) = some false
  q_Rule_int : PySem.W.kitOne K (.type "int") (.ref (He.ga K "Rule")) = some false
  q_Rule_tuple : PySem.W.kitOne K (.type "tuple") (.ref (He.ga K "Rule")) = some false
  f_Rule_list : PySem.W.notFirst K (He.ga K "Rule") (.type "list") = true
  f_Rule_str : PySem.W.notFirst K (He.ga K "Rule") (.type "str") = true
  f_Rule_int : PySem.W.notFirst K (He.ga K "Rule") (.type "int") = true
  f_Rule_tuple : PySem.W.notFirst K (He.ga K "Rule") (.type "tuple") = true
  d_ways : ∃ fd, Fun K "ways" "ways" s_ways (He.ga K "ways") fd
  d_need_step : ∃ fd, Fun K "need_step" "need_step" s_need_step (He.ga K "need_step") fd
  d_Rule___init__ : ∃ fd, Fun K "__init__" "Rule.__init__" s_Rule___init__ (He.ma K (He.ga K "Rule") "__init__") fd
  d_Rule___eq__ : ∃ fd, Fun K "__eq__" "Rule.__eq__" s_Rule___eq__ (He.ma K (He.ga K "Rule") "__eq__") fd
  d_Rule___len__ : ∃ fd, Fun K "__len__" "Rule.__len__" s_Rule___len__ (He.ma K (He.ga K "Rule") "__len__") fd
  d_Rule_steps : ∃ fd, Fun K "steps" "Rule.steps" s_Rule_steps (He.ma K (He.ga K "Rule") "steps") fd
  d_first_rule : ∃ fd, Fun K "first_rule" "first_rule" s_first_rule (He.ga K "first_rule") fd
  d_law_cell : ∃ fd, Fun K "_law_cell" "_law_cell" s_law_cell (He.ga K "_law_cell") fd
  d_law_box : ∃ fd, Fun K "_law_box" "_law_box" s_law_box (He.ga K "_law_box") fd
  d_law_take : ∃ fd, Fun K "_law_take" "_law_take" s_law_take (He.ga K "_law_take") fd
  d_law_ways : ∃ fd, Fun K "_law_ways" "_law_ways" s_law_ways (He.ga K "_law_ways") fd
  d_law_steps : ∃ fd, Fun K "_law_steps" "_law_steps" s_law_steps (He.ga K "_law_steps") fd
  d_law_other : ∃ fd, Fun K "_law_other" "_law_other" s_law_other (He.ga K "_law_other") fd
  d_law_right : ∃ fd, Fun K "_law_right" "_law_right" s_law_right (He.ga K "_law_right") fd
  d_law_parts_told : ∃ fd, Fun K "_law_parts_told" "_law_parts_told" s_law_parts_told (He.ga K "_law_parts_told") fd
  d_law_first : ∃ fd, Fun K "_law_first" "_law_first" s_law_first (He.ga K "_law_first") fd
  d_law_cell_two : ∃ fd, Fun K "_law_cell_two" "_law_cell_two" s_law_cell_two (He.ga K "_law_cell_two") fd
  d_law_take_two : ∃ fd, Fun K "_law_take_two" "_law_take_two" s_law_take_two (He.ga K "_law_take_two") fd
  d_law_steps_two : ∃ fd, Fun K "_law_steps_two" "_law_steps_two" s_law_steps_two (He.ga K "_law_steps_two") fd
  d_law_thing : ∃ fd, Fun K "_law_thing" "_law_thing" s_law_thing (He.ga K "_law_thing") fd
  d_law_whole : ∃ fd, Fun K "_law_whole" "_law_whole" s_law_whole (He.ga K "_law_whole") fd
  d_law_spoilt : ∃ fd, Fun K "_law_spoilt" "_law_spoilt" s_law_spoilt (He.ga K "_law_spoilt") fd
  d_law_caught : ∃ fd, Fun K "_law_caught" "_law_caught" s_law_caught (He.ga K "_law_caught") fd
  d_law_refused : ∃ fd, Fun K "_law_refused" "_law_refused" s_law_refused (He.ga K "_law_refused") fd
  d_law_no_part : ∃ fd, Fun K "_law_no_part" "_law_no_part" s_law_no_part (He.ga K "_law_no_part") fd
  d_law_second : ∃ fd, Fun K "_law_second" "_law_second" s_law_second (He.ga K "_law_second") fd
  d_law : ∃ fd, Fun K "law" "law" s_law (He.ga K "law") fd
  d_Twice___init__ : ∃ fd, Fun K "__init__" "Twice.__init__" s_Twice___init__ (He.ma K (He.ga K "Twice") "__init__") fd
  d_NoSteps___init__ : ∃ fd, Fun K "__init__" "NoSteps.__init__" s_NoSteps___init__ (He.ma K (He.ga K "NoSteps") "__init__") fd
  d_NoStep___init__ : ∃ fd, Fun K "__init__" "NoStep.__init__" s_NoStep___init__ (He.ma K (He.ga K "NoStep") "__init__") fd
  d_NoPart___init__ : ∃ fd, Fun K "__init__" "NoPart.__init__" s_NoPart___init__ (He.ma K (He.ga K "NoPart") "__init__") fd
  d_NoWay___init__ : ∃ fd, Fun K "__init__" "NoWay.__init__" s_NoWay___init__ (He.ma K (He.ga K "NoWay") "__init__") fd
theorem mkT {K : PySem.W.Frag} {h : Heap} {mg : Str → Option Value} (X : K.In h) (G : h.Ns mainGlobals mg) (c : SaysS fs fn K) : T K mg where
  g_Twice := He.glo_ok X G (x := "Twice") (c.fact 0)
  g_NoSteps := He.glo_ok X G (x := "NoSteps") (c.fact 1)
  g_NoStep := He.glo_ok X G (x := "NoStep") (c.fact 2)
  g_NoPart := He.glo_ok X G (x := "NoPart") (c.fact 3)
  g_NoWay := He.glo_ok X G (x := "NoWay") (c.fact 4)
  g_MarkError := He.glo_ok X G (x := "MarkError") (c.fact 5)
  g_Missing := He.glo_ok X G (x := "Missing") (c.fact 6)
  g_PARTS := He.glo_ok X G (x := "PARTS") (c.fact 7)
  g_KEYS := He.glo_ok X G (x := "KEYS") (c.fact 8)
  g_Rule := He.glo_ok X G (x := "Rule") (c.fact 9)
  g_ways := He.glo_ok X G (x := "ways") (c.fact 10)
  g_need_step := He.glo_ok X G (x := "need_step") (c.fact 11)
  g_first_rule := He.glo_ok X G (x := "first_rule") (c.fact 12)
  g_law_cell := He.glo_ok X G (x := "_law_cell") (c.fact 13)
  g_law_box := He.glo_ok X G (x := "_law_box") (c.fact 14)
  g_law_take := He.glo_ok X G (x := "_law_take") (c.fact 15)
  g_law_ways := He.glo_ok X G (x := "_law_ways") (c.fact 16)
  g_law_steps := He.glo_ok X G (x := "_law_steps") (c.fact 17)
  g_law_other := He.glo_ok X G (x := "_law_other") (c.fact 18)
  g_law_right := He.glo_ok X G (x := "_law_right") (c.fact 19)
  g_law_parts_told := He.glo_ok X G (x := "_law_parts_told") (c.fact 20)
  g_law_first := He.glo_ok X G (x := "_law_first") (c.fact 21)
  g_law_cell_two := He.glo_ok X G (x := "_law_cell_two") (c.fact 22)
  g_law_take_two := He.glo_ok X G (x := "_law_take_two") (c.fact 23)
  g_law_steps_two := He.glo_ok X G (x := "_law_steps_two") (c.fact 24)
  g_law_thing := He.glo_ok X G (x := "_law_thing") (c.fact 25)
  g_law_whole := He.glo_ok X G (x := "_law_whole") (c.fact 26)
  g_law_spoilt := He.glo_ok X G (x := "_law_spoilt") (c.fact 27)
  g_law_caught := He.glo_ok X G (x := "_law_caught") (c.fact 28)
  g_law_refused := He.glo_ok X G (x := "_law_refused") (c.fact 29)
  g_law_no_part := He.glo_ok X G (x := "_law_no_part") (c.fact 30)
  g_law_second := He.glo_ok X G (x := "_law_second") (c.fact 31)
  g_law := He.glo_ok X G (x := "law") (c.fact 32)
  z_len := He.free_ok X G (x := "len") (c.fact 33)
  z_max := He.free_ok X G (x := "max") (c.fact 34)
  z_min := He.free_ok X G (x := "min") (c.fact 35)
  z_range := He.free_ok X G (x := "range") (c.fact 36)
  z_list := He.free_ok X G (x := "list") (c.fact 37)
  z_tuple := He.free_ok X G (x := "tuple") (c.fact 38)
  z_isinstance := He.free_ok X G (x := "isinstance") (c.fact 39)
  z_repr := He.free_ok X G (x := "repr") (c.fact 40)
  z_str := He.free_ok X G (x := "str") (c.fact 41)
  z_int := He.free_ok X G (x := "int") (c.fact 42)
  z_sorted := He.free_ok X G (x := "sorted") (c.fact 43)
  z_enumerate := He.free_ok X G (x := "enumerate") (c.fact 44)
  z_ValueError := He.free_ok X G (x := "ValueError") (c.fact 45)
  g_MOST := He.int_ok X G (x := "MOST") (i := 6) (c.fact 46)
  t_PARTS := fun H => He.tupB_ok (x := "PARTS") (vs := [.str "letters", .str "number", .str "points", .str "makers", .str "year", .str "copy"]) (c.fact 47) H
  k_KEYS := keysB_ok (c.fact 48)
  x_Twice := oexB_ok (c.fact 49)
  xi_Twice := oinB_ok (c.fact 50)
  xc_Twice := xicB_ok (c.fact 51)
  xn_Twice := He.noat_ok (x := "Twice") (f := "found") (c.fact 52)
  x_NoSteps := oexB_ok (c.fact 53)
  xi_NoSteps := oinB_ok (c.fact 54)
  xc_NoSteps := xicB_ok (c.fact 55)
  xn_NoSteps := He.noat_ok (x := "NoSteps") (f := "found") (c.fact 56)
  x_NoStep := oexB_ok (c.fact 57)
  xi_NoStep := oinB_ok (c.fact 58)
  xc_NoStep := xicB_ok (c.fact 59)
  xn_NoStep := He.noat_ok (x := "NoStep") (f := "found") (c.fact 60)
  x_NoPart := oexB_ok (c.fact 61)
  xi_NoPart := oinB_ok (c.fact 62)
  xc_NoPart := xicB_ok (c.fact 63)
  xn_NoPart := He.noat_ok (x := "NoPart") (f := "found") (c.fact 64)
  x_NoWay := oexB_ok (c.fact 65)
  xi_NoWay := oinB_ok (c.fact 66)
  xc_NoWay := xicB_ok (c.fact 67)
  xn_NoWay := He.noat_ok (x := "NoWay") (f := "found") (c.fact 68)
  gin := ginB_ok (c.fact 69)
  cls := He.cls_ok (x := "Rule") (c.fact 70)
  mkr := He.mkr_ok (x := "Rule") (c.fact 71)
  meth_steps := He.meth_ok (x := "Rule") (m := "steps") (c.fact 72)
  eqc := eqcB_ok (c.fact 73)
  len := lenB_ok (c.fact 74)
  no_steps := He.noat_ok (x := "Rule") (f := "kept_steps") (c.fact 75)
  ins := (let h := (c.fact 76); ⟨He.eqO_ok (He.ba h).1, of_decide_eq_true (He.ba (He.ba h).2).1, of_decide_eq_true (He.ba (He.ba (He.ba h).2).2).1, of_decide_eq_true (He.ba (He.ba (He.ba h).2).2).2⟩)
  m_Twice_NoSteps := He.exm_ok (x := "Twice") (y := "NoSteps") (c.fact 77)
  m_Twice_NoStep := He.exm_ok (x := "Twice") (y := "NoStep") (c.fact 78)
  m_Twice_NoPart := He.exm_ok (x := "Twice") (y := "NoPart") (c.fact 79)
  m_Twice_NoWay := He.exm_ok (x := "Twice") (y := "NoWay") (c.fact 80)
  m_Twice_Twice := He.exm_ok (x := "Twice") (y := "Twice") (c.fact 81)
  m_Twice_MarkError := He.exm_ok (x := "Twice") (y := "MarkError") (c.fact 82)
  m_NoSteps_NoSteps := He.exm_ok (x := "NoSteps") (y := "NoSteps") (c.fact 83)
  m_NoSteps_NoStep := He.exm_ok (x := "NoSteps") (y := "NoStep") (c.fact 84)
  m_NoSteps_NoPart := He.exm_ok (x := "NoSteps") (y := "NoPart") (c.fact 85)
  m_NoSteps_NoWay := He.exm_ok (x := "NoSteps") (y := "NoWay") (c.fact 86)
  m_NoSteps_Twice := He.exm_ok (x := "NoSteps") (y := "Twice") (c.fact 87)
  m_NoSteps_MarkError := He.exm_ok (x := "NoSteps") (y := "MarkError") (c.fact 88)
  m_NoStep_NoSteps := He.exm_ok (x := "NoStep") (y := "NoSteps") (c.fact 89)
  m_NoStep_NoStep := He.exm_ok (x := "NoStep") (y := "NoStep") (c.fact 90)
  m_NoStep_NoPart := He.exm_ok (x := "NoStep") (y := "NoPart") (c.fact 91)
  m_NoStep_NoWay := He.exm_ok (x := "NoStep") (y := "NoWay") (c.fact 92)
  m_NoStep_Twice := He.exm_ok (x := "NoStep") (y := "Twice") (c.fact 93)
  m_NoStep_MarkError := He.exm_ok (x := "NoStep") (y := "MarkError") (c.fact 94)
  m_NoPart_NoSteps := He.exm_ok (x := "NoPart") (y := "NoSteps") (c.fact 95)
  m_NoPart_NoStep := He.exm_ok (x := "NoPart") (y := "NoStep") (c.fact 96)
  m_NoPart_NoPart := He.exm_ok (x := "NoPart") (y := "NoPart") (c.fact 97)
  m_NoPart_NoWay := He.exm_ok (x := "NoPart") (y := "NoWay") (c.fact 98)
  m_NoPart_Twice := He.exm_ok (x := "NoPart") (y := "Twice") (c.fact 99)
  m_NoPart_MarkError := He.exm_ok (x := "NoPart") (y := "MarkError") (c.fact 100)
  m_NoWay_NoSteps := He.exm_ok (x := "NoWay") (y := "NoSteps") (c.fact 101)
  m_NoWay_NoStep := He.exm_ok (x := "NoWay") (y := "NoStep") (c.fact 102)
  m_NoWay_NoPart := He.exm_ok (x := "NoWay") (y := "NoPart") (c.fact 103)
  m_NoWay_NoWay := He.exm_ok (x := "NoWay") (y := "NoWay") (c.fact 104)
  m_NoWay_Twice := He.exm_ok (x := "NoWay") (y := "Twice") (c.fact 105)
  m_NoWay_MarkError := He.exm_ok (x := "NoWay") (y := "MarkError") (c.fact 106)
  q_NoSteps_NoStep := of_decide_eq_true (c.fact 107)
  q_NoSteps_Missing := of_decide_eq_true (c.fact 108)
  q_NoStep_NoSteps := of_decide_eq_true (c.fact 109)
  q_NoStep_Missing := of_decide_eq_true (c.fact 110)
  q_NoPart_NoWay := of_decide_eq_true (c.fact 111)
  q_NoPart_Missing := of_decide_eq_true (c.fact 112)
  q_NoWay_NoPart := of_decide_eq_true (c.fact 113)
  q_NoWay_Missing := of_decide_eq_true (c.fact 114)
  q_Twice_NoPart := of_decide_eq_true (c.fact 115)
  q_Twice_Missing := of_decide_eq_true (c.fact 116)
  q_Rule := of_decide_eq_true (c.fact 117)
  q_Rule_list := of_decide_eq_true (c.fact 118)
  q_Rule_str := of_decide_eq_true (c.fact 119)
  q_Rule_int := of_decide_eq_true (c.fact 120)
  q_Rule_tuple := of_decide_eq_true (c.fact 121)
  f_Rule_list := of_decide_eq_true (c.fact 122)
  f_Rule_str := of_decide_eq_true (c.fact 123)
  f_Rule_int := of_decide_eq_true (c.fact 124)
  f_Rule_tuple := of_decide_eq_true (c.fact 125)
  d_ways := (let ⟨fd, h⟩ := c.def_ 0 (d := d_ways); ⟨fd, fun_of h⟩)
  d_need_step := (let ⟨fd, h⟩ := c.def_ 1 (d := d_need_step); ⟨fd, fun_of h⟩)
  d_Rule___init__ := (let ⟨fd, h⟩ := c.def_ 2 (d := d_Rule___init__); ⟨fd, fun_of h⟩)
  d_Rule___eq__ := (let ⟨fd, h⟩ := c.def_ 3 (d := d_Rule___eq__); ⟨fd, fun_of h⟩)
  d_Rule___len__ := (let ⟨fd, h⟩ := c.def_ 4 (d := d_Rule___len__); ⟨fd, fun_of h⟩)
  d_Rule_steps := (let ⟨fd, h⟩ := c.def_ 5 (d := d_Rule_steps); ⟨fd, fun_of h⟩)
  d_first_rule := (let ⟨fd, h⟩ := c.def_ 6 (d := d_first_rule); ⟨fd, fun_of h⟩)
  d_law_cell := (let ⟨fd, h⟩ := c.def_ 7 (d := d_law_cell); ⟨fd, fun_of h⟩)
  d_law_box := (let ⟨fd, h⟩ := c.def_ 8 (d := d_law_box); ⟨fd, fun_of h⟩)
  d_law_take := (let ⟨fd, h⟩ := c.def_ 9 (d := d_law_take); ⟨fd, fun_of h⟩)
  d_law_ways := (let ⟨fd, h⟩ := c.def_ 10 (d := d_law_ways); ⟨fd, fun_of h⟩)
  d_law_steps := (let ⟨fd, h⟩ := c.def_ 11 (d := d_law_steps); ⟨fd, fun_of h⟩)
  d_law_other := (let ⟨fd, h⟩ := c.def_ 12 (d := d_law_other); ⟨fd, fun_of h⟩)
  d_law_right := (let ⟨fd, h⟩ := c.def_ 13 (d := d_law_right); ⟨fd, fun_of h⟩)
  d_law_parts_told := (let ⟨fd, h⟩ := c.def_ 14 (d := d_law_parts_told); ⟨fd, fun_of h⟩)
  d_law_first := (let ⟨fd, h⟩ := c.def_ 15 (d := d_law_first); ⟨fd, fun_of h⟩)
  d_law_cell_two := (let ⟨fd, h⟩ := c.def_ 16 (d := d_law_cell_two); ⟨fd, fun_of h⟩)
  d_law_take_two := (let ⟨fd, h⟩ := c.def_ 17 (d := d_law_take_two); ⟨fd, fun_of h⟩)
  d_law_steps_two := (let ⟨fd, h⟩ := c.def_ 18 (d := d_law_steps_two); ⟨fd, fun_of h⟩)
  d_law_thing := (let ⟨fd, h⟩ := c.def_ 19 (d := d_law_thing); ⟨fd, fun_of h⟩)
  d_law_whole := (let ⟨fd, h⟩ := c.def_ 20 (d := d_law_whole); ⟨fd, fun_of h⟩)
  d_law_spoilt := (let ⟨fd, h⟩ := c.def_ 21 (d := d_law_spoilt); ⟨fd, fun_of h⟩)
  d_law_caught := (let ⟨fd, h⟩ := c.def_ 22 (d := d_law_caught); ⟨fd, fun_of h⟩)
  d_law_refused := (let ⟨fd, h⟩ := c.def_ 23 (d := d_law_refused); ⟨fd, fun_of h⟩)
  d_law_no_part := (let ⟨fd, h⟩ := c.def_ 24 (d := d_law_no_part); ⟨fd, fun_of h⟩)
  d_law_second := (let ⟨fd, h⟩ := c.def_ 25 (d := d_law_second); ⟨fd, fun_of h⟩)
  d_law := (let ⟨fd, h⟩ := c.def_ 26 (d := d_law); ⟨fd, fun_of h⟩)
  d_Twice___init__ := (let ⟨fd, h⟩ := c.def_ 27 (d := d_Twice___init__); ⟨fd, fun_of h⟩)
  d_NoSteps___init__ := (let ⟨fd, h⟩ := c.def_ 28 (d := d_NoSteps___init__); ⟨fd, fun_of h⟩)
  d_NoStep___init__ := (let ⟨fd, h⟩ := c.def_ 29 (d := d_NoStep___init__); ⟨fd, fun_of h⟩)
  d_NoPart___init__ := (let ⟨fd, h⟩ := c.def_ 30 (d := d_NoPart___init__); ⟨fd, fun_of h⟩)
  d_NoWay___init__ := (let ⟨fd, h⟩ := c.def_ 31 (d := d_NoWay___init__); ⟨fd, fun_of h⟩)
end K51
set_option Elab.async false
set_option linter.all false
set_option maxRecDepth 100000
set_option maxHeartbeats 4000000
namespace K51
open PySem PySem.Spec PyProof.Rows L2 Sv
section
variable {P : Program} {w : World} {K : PySem.W.Frag} {mg : Str → Option Value} {base : Heap}
/-! ### the draws -/
def spCell (K : PySem.W.Frag) : Sp := fun vs H Q _ => ∃ (a : Addr) (ns : List Int) (k : Nat), vs = [.ref a, .int k] ∧ SqL K H a (ns.map V.int) ∧ ∀ n, Q (.int n) H
theorem ok_law_cell (t : T K mg) : Ok P w K mg base CX0 1 (He.ga K "_law_cell") "_law_cell" ["script", "k"] (spCell K) := by
  obtain ⟨fd, F⟩ := t.d_law_cell
  refine Ok.mk0 F t.g_law_cell sc_law_cell (F.binds fun _ _ _ _ _ _ us hl => match us, hl with | [_, _], _ => rfl) (fun vs H Q E h => ?_) (fun cdv A outer s H vs Q E hr h => ?_)
  · obtain ⟨a, ns, k, rfl, _⟩ := h
    rfl
  · obtain ⟨a, ns, k, rfl, hS, q⟩ := h
    refine ⟨_, (pss_cons (ps_if (pt_cmpR op_lt (pv 1) (pe_callB call_len_seq (by rfl) t.z_len boot_len (pa_cons (pv 0) pa_nil)) (nomark _))
        (pss_one (ps_ret (pe_ix ix_list (pv 0) (pv 1) (fun _ _ => rfl))))
        pss_nil)
      (pss_one (ps_ret (pe_op op_add (pe_op op_mul pe_int (pv 1)) pe_int)))), ?_⟩
    refine ⟨_, rfl, _, rfl, a, _, rfl, .inl hS, _, _, rfl, rfl, _, rfl, ?_⟩
    refine ite2 (fun hc => ?_) (fun _ => ?_)
    · have hk : k < (ns.map V.int).length := by
        have := of_decide_eq_true hc
        omega
      refine ⟨_, rfl, _, rfl, a, _, _, _, rfl, rfl, hS, atI_nat (List.getElem?_eq_getElem hk), ?_⟩
      rw [List.getElem_map]
      exact q _
    · exact ⟨_, rfl, _, _, rfl, rfl, .inl ⟨by decide, by decide⟩, _, _, rfl, rfl, q _⟩
def spBox : Sp := fun vs H Q _ => ∃ c : Int, vs = [.int c] ∧ ∀ (b : Addr) (x y z : Int), H b = none → -(2 ^ 64) < y → y < 2 ^ 64 → Q (.ref b) (upd H b (.lst [.int x, .int y, .int z]))
theorem ok_law_box (t : T K mg) : Ok P w K mg base CX0 1 (He.ga K "_law_box") "_law_box" ["cell"] spBox := by
  obtain ⟨fd, F⟩ := t.d_law_box
  refine Ok.mk0 F t.g_law_box sc_law_box (F.binds fun _ _ _ _ _ _ us hl => match us, hl with | [_], _ => rfl) (fun vs H Q E h => ?_) (fun cdv A outer s H vs Q E hr h => ?_)
  · obtain ⟨c, rfl, _⟩ := h
    rfl
  · obtain ⟨c, rfl, q⟩ := h
    refine ⟨_, (pss_one (ps_ret (pe_lst (pa_cons (pe_callB (call_max2 rfl) (by rfl) t.z_max boot_max (pa_cons pe_int (pa_cons (pe_op op_sub (pv 0) (pe_op op_pow pe_int pe_int)) pa_nil))) (pa_cons (pe_op op_mod (pv 0) pe_int) (pa_cons pe_int pa_nil)))))), ?_⟩
    refine ⟨_, rfl, _, _, rfl, rfl, ⟨by decide, by decide, by decide⟩, _, _, rfl, rfl, _, _, rfl, _, rfl, _, _, rfl, rfl, (by show (0 : Int) < 2147483629; decide), (by show 3 ≤ sizeLine; decide), fun b hb => ?_⟩
    refine q b _ _ _ hb ?_ ?_
    · have := Int.emod_nonneg c (show (2147483629 : Int) ≠ 0 by decide)
      omega
    · have := Int.emod_lt_of_pos c (show (0 : Int) < 2147483629 by decide)
      omega
def spTake : Sp := fun vs H Q _ => ∃ (b : Addr) (x y z n : Int), vs = [.ref b, .int n] ∧ H b = some (.lst [.int x, .int y, .int z]) ∧ (-(2 ^ 64) < y ∧ y < 2 ^ 64) ∧ 0 < n ∧ n < 1073741824 ∧
  ∀ r x' z' : Int, 0 ≤ r → r < n → Q (.int r) (upd H b (.lst [.int x', .int y, .int z']))
theorem ok_law_take (t : T K mg) : Ok P w K mg base CX0 1 (He.ga K "_law_take") "_law_take" ["box", "many"] spTake := by
  obtain ⟨fd, F⟩ := t.d_law_take
  refine Ok.mk0 F t.g_law_take sc_law_take (F.binds fun _ _ _ _ _ _ us hl => match us, hl with | [_, _], _ => rfl) (fun vs H Q E h => ?_) (fun cdv A outer s H vs Q E hr h => ?_)
  · obtain ⟨b, x, y, z, n, rfl, _⟩ := h
    rfl
  · obtain ⟨b, x, y, z, n, rfl, hb, hy, hn, hn2, q⟩ := h
    refine ⟨_, (pss_cons (ps_if (pt_cmpR op_gt (pe_ix ix_list (pv 0) pe_int (fun _ _ => rfl)) pe_int (nomark _))
        (pss_cons (ps_set (i := 2) sc_law_take.nd rfl (Or.inl rfl) (pe_op op_mod (pe_ix ix_list (pv 0) pe_int (fun _ _ => rfl)) (pv 1)))
        (pss_cons (ps_asg (pe_op op_fdiv (pe_ix ix_list (pv 0) pe_int (fun _ _ => rfl)) (pv 1)) (pg_sub (pv 0) pe_int set_list))
        (pss_one (ps_ret (pv 2)))))
        pss_nil)
      (pss_cons (ps_asg (pe_op op_add (pe_ix ix_list (pv 0) pe_int (fun _ _ => rfl)) pe_int) (pg_sub (pv 0) pe_int set_list))
      (pss_cons (ps_set (i := 3) sc_law_take.nd rfl (Or.inl rfl) (pe_op op_mod (pe_op op_add (pe_op op_add (pe_op op_mul (pe_ix ix_list (pv 0) pe_int (fun _ _ => rfl)) (pe_op op_add (pe_ix ix_list (pv 0) pe_int (fun _ _ => rfl)) pe_int)) (pe_op op_mul pe_int (pe_ix ix_list (pv 0) pe_int (fun _ _ => rfl)))) pe_int) pe_int))
      (pss_cons (ps_set (i := 3) sc_law_take.nd rfl (Or.inl rfl) (pe_op op_mod (pe_op op_add (pe_op op_pow (pv 3) pe_int) (pe_op op_mul pe_int (pe_ix ix_list (pv 0) pe_int (fun _ _ => rfl)))) pe_int))
      (pss_one (ps_ret (pe_op op_mod (pe_op op_fdiv (pe_op op_mod (pe_op op_add (pe_op op_pow (pv 3) pe_int) pe_int) pe_int) pe_int) (pv 1)))))))), ?_⟩
    -- if box[0] > 0
    refine ⟨_, rfl, b, _, _, _, rfl, rfl, SqL.of hb, rfl, _, _, rfl, rfl, _, rfl, ?_⟩
    refine ite2 (fun hc => ?_) (fun _ => ?_)
    · refine ⟨_, rfl, b, _, _, _, rfl, rfl, SqL.of hb, rfl, _, rfl, _, _, rfl, rfl, hn, ?_⟩
      refine ⟨_, rfl, b, _, _, _, rfl, rfl, SqL.of hb, rfl, _, rfl, _, _, rfl, rfl, ⟨hn, hn2⟩, ?_⟩
      refine ⟨_, rfl, b, _, _, 0, rfl, rfl, hb, rfl, ?_⟩
      exact ⟨_, rfl, q _ _ _ (Int.emod_nonneg _ (by omega)) (Int.emod_lt_of_pos _ hn)⟩
    · -- the mixed draw
      refine ⟨_, rfl, b, _, _, _, rfl, rfl, SqL.of hb, rfl, _, _, rfl, rfl, _, rfl, b, _, _, 2, rfl, rfl, hb, rfl, ?_⟩
      have hb2 : (upd H b (.lst [.int x, .int y, .int (z + 1)])) b = some (.lst [.int x, .int y, .int (z + 1)]) := upd_same
      refine ⟨_, rfl, b, _, _, _, rfl, rfl, SqL.of hb2, rfl, _, rfl, b, _, _, _, rfl, rfl, SqL.of hb2, rfl, _, _, rfl, rfl, _, _, rfl, rfl, .inl hy, ?_⟩
      refine ⟨_, rfl, b, _, _, _, rfl, rfl, SqL.of hb2, rfl, _, _, rfl, rfl, .inl ⟨by decide, by decide⟩, _, _, rfl, rfl, _, _, rfl, rfl, _, _, rfl, rfl, (by show (0 : Int) < 2147483629; decide), ?_⟩
      generalize hm : (y * (z + 1 + 16) + 7907 * (z + 1) + 83) % 2147483629 = m1
      have m1a : 0 ≤ m1 := by rw [← hm]; exact Int.emod_nonneg _ (by decide)
      have m1b : m1 < 2147483629 := by rw [← hm]; exact Int.emod_lt_of_pos _ (by decide)
      refine ⟨_, rfl, _, _, rfl, rfl, ⟨by decide, by decide, by omega⟩, ?_⟩
      refine ⟨_, rfl, b, _, _, _, rfl, rfl, SqL.of hb2, rfl, _, _, rfl, rfl, .inl ⟨by decide, by decide⟩, _, _, rfl, rfl, _, _, rfl, rfl, (by show (0 : Int) < 2147483647; decide), ?_⟩
      generalize hm2 : (m1 ^ (5 : Int).toNat + 130363 * (z + 1)) % 2147483647 = m2
      have m2a : 0 ≤ m2 := by rw [← hm2]; exact Int.emod_nonneg _ (by decide)
      have m2b : m2 < 2147483647 := by rw [← hm2]; exact Int.emod_lt_of_pos _ (by decide)
      refine ⟨_, rfl, _, _, rfl, rfl, ⟨by decide, by decide, by omega⟩, _, _, rfl, rfl, _, _, rfl, rfl, (by show (0 : Int) < 2147483647; decide), _, _, rfl, rfl, ⟨by decide, by decide⟩, _, rfl, _, _, rfl, rfl, hn, ?_⟩
      exact q _ _ _ (Int.emod_nonneg _ (by omega)) (Int.emod_lt_of_pos _ hn)
/-! ### the law's own table of ways -/
def waysOf : Nat → List Str
  | 0 => ["words", "short"]
  | 1 => ["whole", "figures"]
  | 2 => ["decimal", "whole", "late"]
  | 3 => ["decimal", "whole", "few"]
  | 4 => ["rising", "falling", "late", "figures"]
  | _ => ["rising", "falling", "figures"]
def spWaysL : Sp := fun vs H Q _ => ∃ k : Nat, vs = [.int k] ∧ k < 6 ∧ ∀ (p : Addr) (H' : Hp), H p = none → Same H H' → H' p = some (.lst ((waysOf k).map V.str)) → Q (.ref p) H'
theorem ok_law_ways (t : T K mg) : Ok P w K mg base CX0 1 (He.ga K "_law_ways") "_law_ways" ["at"] spWaysL := by
  obtain ⟨fd, F⟩ := t.d_law_ways
  refine Ok.mk0 F t.g_law_ways sc_law_ways (F.binds fun _ _ _ _ _ _ us hl => match us, hl with | [_], _ => rfl) (fun vs H Q E h => ?_) (fun cdv A outer s H vs Q E hr h => ?_)
  · obtain ⟨k, rfl, _⟩ := h
    rfl
  · obtain ⟨k, rfl, hk, q⟩ := h
    refine ⟨_, (pss_cons (ps_set (i := 1) sc_law_ways.nd rfl (Or.inl rfl) (pe_lst (pa_cons (pe_lst (pa_cons pe_str (pa_cons pe_str pa_nil))) (pa_cons (pe_lst (pa_cons pe_str (pa_cons pe_str pa_nil))) (pa_cons (pe_lst (pa_cons pe_str (pa_cons pe_str (pa_cons pe_str pa_nil)))) (pa_cons (pe_lst (pa_cons pe_str (pa_cons pe_str (pa_cons pe_str pa_nil)))) pa_nil))))))
      (pss_one (ps_ret (pe_ix ix_list (pe_op op_cat (pv 1) (pe_lst (pa_cons (pe_lst (pa_cons pe_str (pa_cons pe_str (pa_cons pe_str (pa_cons pe_str pa_nil))))) (pa_cons (pe_lst (pa_cons pe_str (pa_cons pe_str (pa_cons pe_str pa_nil)))) pa_nil)))) (pv 0) (fun _ _ => rfl))))), ?_⟩
    refine ⟨(by show 2 ≤ sizeLine; decide), fun p1 h1 => ⟨(by show 2 ≤ sizeLine; decide), fun p2 h2 => ⟨(by show 3 ≤ sizeLine; decide), fun p3 h3 => ⟨(by show 3 ≤ sizeLine; decide), fun p4 h4 => ⟨(by show 4 ≤ sizeLine; decide), fun r hr1 => ?_⟩⟩⟩⟩⟩
    refine ⟨_, rfl, (by show 4 ≤ sizeLine; decide), fun p5 h5 => ⟨(by show 3 ≤ sizeLine; decide), fun p6 h6 => ⟨(by show 2 ≤ sizeLine; decide), fun r2 hr2 => ?_⟩⟩⟩
    have e1 := same_new (o := .lst [.str "words", .str "short"]) h1
    have e2 := same_new (o := .lst [.str "whole", .str "figures"]) h2
    have e3 := same_new (o := .lst [.str "decimal", .str "whole", .str "late"]) h3
    have e4 := same_new (o := .lst [.str "decimal", .str "whole", .str "few"]) h4
    have er := same_new (o := .lst [.ref p1, .ref p2, .ref p3, .ref p4]) hr1
    have e5 := same_new (o := .lst [.str "rising", .str "falling", .str "late", .str "figures"]) h5
    have e6 := same_new (o := .lst [.str "rising", .str "falling", .str "figures"]) h6
    have er2 := same_new (o := .lst [.ref p5, .ref p6]) hr2
    have x6 := e6.trans er2
    have x5 := e5.trans x6
    have xr := er.trans x5
    have x4 := e4.trans xr
    have x3 := e3.trans x4
    have x2 := e2.trans x3
    have x1 := e1.trans x2
    refine ⟨r, r2, [.ref p1, .ref p2, .ref p3, .ref p4], [.ref p5, .ref p6], rfl, rfl, x5 r _ upd_same, upd_same, (by show 6 ≤ sizeLine; decide), fun c hc => ?_⟩
    have ec := same_new (o := .lst ([.ref p1, .ref p2, .ref p3, .ref p4] ++ [.ref p5, .ref p6])) hc
    have f2 := e1.free h2
    have f3 := (e1.trans e2).free h3
    have f4 := ((e1.trans e2).trans e3).free h4
    have f5 := ((((e1.trans e2).trans e3).trans e4).trans er).free h5
    have f6 := (((((e1.trans e2).trans e3).trans e4).trans er).trans e5).free h6
    obtain rfl | rfl | rfl | rfl | rfl | rfl : k = 0 ∨ k = 1 ∨ k = 2 ∨ k = 3 ∨ k = 4 ∨ k = 5 := by omega
    · exact ⟨_, rfl, c, _, _, _, rfl, rfl, SqL.of upd_same, atI_nat (j := 0) rfl, q p1 _ h1 (x1.trans ec) ((x2.trans ec) p1 _ upd_same)⟩
    · exact ⟨_, rfl, c, _, _, _, rfl, rfl, SqL.of upd_same, atI_nat (j := 1) rfl, q p2 _ f2 (x1.trans ec) ((x3.trans ec) p2 _ upd_same)⟩
    · exact ⟨_, rfl, c, _, _, _, rfl, rfl, SqL.of upd_same, atI_nat (j := 2) rfl, q p3 _ f3 (x1.trans ec) ((x4.trans ec) p3 _ upd_same)⟩
    · exact ⟨_, rfl, c, _, _, _, rfl, rfl, SqL.of upd_same, atI_nat (j := 3) rfl, q p4 _ f4 (x1.trans ec) ((xr.trans ec) p4 _ upd_same)⟩
    · exact ⟨_, rfl, c, _, _, _, rfl, rfl, SqL.of upd_same, atI_nat (j := 4) rfl, q p5 _ f5 (x1.trans ec) ((x6.trans ec) p5 _ upd_same)⟩
    · exact ⟨_, rfl, c, _, _, _, rfl, rfl, SqL.of upd_same, atI_nat (j := 5) rfl, q p6 _ f6 (x1.trans ec) ((er2.trans ec) p6 _ upd_same)⟩
theorem ok_law_cell_two (t : T K mg) : Ok P w K mg base CX0 1 (He.ga K "_law_cell_two") "_law_cell_two" ["script", "k"] (spCell K) := by
  obtain ⟨fd, F⟩ := t.d_law_cell_two
  refine Ok.mk0 F t.g_law_cell_two sc_law_cell_two (F.binds fun _ _ _ _ _ _ us hl => match us, hl with | [_, _], _ => rfl) (fun vs H Q E h => ?_) (fun cdv A outer s H vs Q E hr h => ?_)
  · obtain ⟨a, ns, k, rfl, _⟩ := h
    rfl
  · obtain ⟨a, ns, k, rfl, hS, q⟩ := h
    refine ⟨_, (pss_cons (ps_if (pt_cmpR op_lt (pv 1) (pe_callB call_len_seq (by rfl) t.z_len boot_len (pa_cons (pv 0) pa_nil)) (nomark _))
        (pss_one (ps_ret (pe_ix ix_list (pv 0) (pv 1) (fun _ _ => rfl))))
        pss_nil)
      (pss_one (ps_ret (pe_op op_add (pe_op op_mul pe_int (pv 1)) pe_int)))), ?_⟩
    refine ⟨_, rfl, _, rfl, a, _, rfl, .inl hS, _, _, rfl, rfl, _, rfl, ?_⟩
    refine ite2 (fun hc => ?_) (fun _ => ?_)
    · have hk : k < (ns.map V.int).length := by
        have := of_decide_eq_true hc
        omega
      refine ⟨_, rfl, _, rfl, a, _, _, _, rfl, rfl, hS, atI_nat (List.getElem?_eq_getElem hk), ?_⟩
      rw [List.getElem_map]
      exact q _
    · exact ⟨_, rfl, _, _, rfl, rfl, .inl ⟨by decide, by decide⟩, _, _, rfl, rfl, q _⟩
theorem ok_law_take_two (t : T K mg) : Ok P w K mg base CX0 1 (He.ga K "_law_take_two") "_law_take_two" ["box", "many"] spTake := by
  obtain ⟨fd, F⟩ := t.d_law_take_two
  refine Ok.mk0 F t.g_law_take_two sc_law_take_two (F.binds fun _ _ _ _ _ _ us hl => match us, hl with | [_, _], _ => rfl) (fun vs H Q E h => ?_) (fun cdv A outer s H vs Q E hr h => ?_)
  · obtain ⟨b, x, y, z, n, rfl, _⟩ := h
    rfl
  · obtain ⟨b, x, y, z, n, rfl, hb, hy, hn, hn2, q⟩ := h
    refine ⟨_, (pss_cons (ps_if (pt_cmpR op_gt (pe_ix ix_list (pv 0) pe_int (fun _ _ => rfl)) pe_int (nomark _))
        (pss_cons (ps_set (i := 2) sc_law_take_two.nd rfl (Or.inl rfl) (pe_op op_mod (pe_ix ix_list (pv 0) pe_int (fun _ _ => rfl)) (pv 1)))
        (pss_cons (ps_asg (pe_op op_fdiv (pe_ix ix_list (pv 0) pe_int (fun _ _ => rfl)) (pv 1)) (pg_sub (pv 0) pe_int set_list))
        (pss_one (ps_ret (pv 2)))))
        pss_nil)
      (pss_cons (ps_asg (pe_op op_add (pe_ix ix_list (pv 0) pe_int (fun _ _ => rfl)) pe_int) (pg_sub (pv 0) pe_int set_list))
      (pss_cons (ps_set (i := 3) sc_law_take_two.nd rfl (Or.inl rfl) (pe_op op_mod (pe_op op_add (pe_op op_add (pe_op op_mul (pe_ix ix_list (pv 0) pe_int (fun _ _ => rfl)) (pe_op op_add (pe_ix ix_list (pv 0) pe_int (fun _ _ => rfl)) pe_int)) (pe_op op_mul pe_int (pe_ix ix_list (pv 0) pe_int (fun _ _ => rfl)))) pe_int) pe_int))
      (pss_cons (ps_set (i := 3) sc_law_take_two.nd rfl (Or.inl rfl) (pe_op op_mod (pe_op op_add (pe_op op_pow (pv 3) pe_int) (pe_op op_mul pe_int (pe_ix ix_list (pv 0) pe_int (fun _ _ => rfl)))) pe_int))
      (pss_one (ps_ret (pe_op op_mod (pe_op op_fdiv (pe_op op_mod (pe_op op_add (pe_op op_pow (pv 3) pe_int) pe_int) pe_int) pe_int) (pv 1)))))))), ?_⟩
    -- if box[0] > 0
    refine ⟨_, rfl, b, _, _, _, rfl, rfl, SqL.of hb, rfl, _, _, rfl, rfl, _, rfl, ?_⟩
    refine ite2 (fun hc => ?_) (fun _ => ?_)
    · refine ⟨_, rfl, b, _, _, _, rfl, rfl, SqL.of hb, rfl, _, rfl, _, _, rfl, rfl, hn, ?_⟩
      refine ⟨_, rfl, b, _, _, _, rfl, rfl, SqL.of hb, rfl, _, rfl, _, _, rfl, rfl, ⟨hn, hn2⟩, ?_⟩
      refine ⟨_, rfl, b, _, _, 0, rfl, rfl, hb, rfl, ?_⟩
      exact ⟨_, rfl, q _ _ _ (Int.emod_nonneg _ (by omega)) (Int.emod_lt_of_pos _ hn)⟩
    · -- the mixed draw
      refine ⟨_, rfl, b, _, _, _, rfl, rfl, SqL.of hb, rfl, _, _, rfl, rfl, _, rfl, b, _, _, 2, rfl, rfl, hb, rfl, ?_⟩
      have hb2 : (upd H b (.lst [.int x, .int y, .int (z + 1)])) b = some (.lst [.int x, .int y, .int (z + 1)]) := upd_same
      refine ⟨_, rfl, b, _, _, _, rfl, rfl, SqL.of hb2, rfl, _, rfl, b, _, _, _, rfl, rfl, SqL.of hb2, rfl, _, _, rfl, rfl, _, _, rfl, rfl, .inl hy, ?_⟩
      refine ⟨_, rfl, b, _, _, _, rfl, rfl, SqL.of hb2, rfl, _, _, rfl, rfl, .inl ⟨by decide, by decide⟩, _, _, rfl, rfl, _, _, rfl, rfl, _, _, rfl, rfl, (by show (0 : Int) < 2147483629; decide), ?_⟩
      generalize hm : (y * (z + 1 + 16) + 7907 * (z + 1) + 83) % 2147483629 = m1
      have m1a : 0 ≤ m1 := by rw [← hm]; exact Int.emod_nonneg _ (by decide)
      have m1b : m1 < 2147483629 := by rw [← hm]; exact Int.emod_lt_of_pos _ (by decide)
      refine ⟨_, rfl, _, _, rfl, rfl, ⟨by decide, by decide, by omega⟩, ?_⟩
      refine ⟨_, rfl, b, _, _, _, rfl, rfl, SqL.of hb2, rfl, _, _, rfl, rfl, .inl ⟨by decide, by decide⟩, _, _, rfl, rfl, _, _, rfl, rfl, (by show (0 : Int) < 2147483647; decide), ?_⟩
      generalize hm2 : (m1 ^ (5 : Int).toNat + 130363 * (z + 1)) % 2147483647 = m2
      have m2a : 0 ≤ m2 := by rw [← hm2]; exact Int.emod_nonneg _ (by decide)
      have m2b : m2 < 2147483647 := by rw [← hm2]; exact Int.emod_lt_of_pos _ (by decide)
      refine ⟨_, rfl, _, _, rfl, rfl, ⟨by decide, by decide, by omega⟩, _, _, rfl, rfl, _, _, rfl, rfl, (by show (0 : Int) < 2147483647; decide), _, _, rfl, rfl, ⟨by decide, by decide⟩, _, rfl, _, _, rfl, rfl, hn, ?_⟩
      exact q _ _ _ (Int.emod_nonneg _ (by omega)) (Int.emod_lt_of_pos _ hn)
end
end K51
set_option Elab.async false
set_option linter.all false
set_option maxRecDepth 100000
set_option maxHeartbeats 4000000
namespace K51
open PySem PySem.Spec PyProof.Rows L2 Sv
/-! ### steps as data -/
def partW : Nat → Str
  | 0 => "letters"
  | 1 => "number"
  | 2 => "points"
  | 3 => "makers"
  | 4 => "year"
  | _ => "copy"
def words6 : List Str := (List.range 6).map partW
theorem partW_inj : ∀ {i j : Nat}, i < 6 → j < 6 → partW i = partW j → i = j := by
  have h : ∀ i j : _root_.Fin 6, partW i = partW j → i = j := by decide +kernel
  intro i j hi hj e
  have := h ⟨i, hi⟩ ⟨j, hj⟩ e
  exact congrArg (fun z : _root_.Fin 6 => z.1) this
/-- a step, and a list of steps, as things of the heap -/
def IsStep (K : PySem.W.Frag) (G : Hp) (v : V) (p : Str × Str) : Prop := ∃ a, v = .ref a ∧ SqT K G a [.str p.1, .str p.2]
abbrev AreSteps (K : PySem.W.Frag) (G : Hp) : List V → List (Str × Str) → Prop := Paired (IsStep K G)
theorem IsStep.mono {K : PySem.W.Frag} {G G' : Hp} {v : V} {p : Str × Str} (e : Same G G') (h : IsStep K G v p) : IsStep K G' v p := let ⟨a, h1, h2⟩ := h; ⟨a, h1, same_t e h2⟩
theorem AreSteps.mono {K : PySem.W.Frag} {G G' : Hp} {xs : List V} {st : List (Str × Str)} (e : Same G G') (h : AreSteps K G xs st) : AreSteps K G' xs st := Paired.mapP h fun _ _ z => z.mono e
theorem AreSteps.snoc {K : PySem.W.Frag} {G : Hp} {v : V} {p : Str × Str} : ∀ {xs : List V} {st : List (Str × Str)}, AreSteps K G xs st → IsStep K G v p → AreSteps K G (xs ++ [v]) (st ++ [p])
  | _, _, .nil, h => .cons h .nil
  | _, _, .cons r t, h => .cons r (AreSteps.snoc t h)
def StepOk (p : Str × Str) : Prop := ∃ k, k < 6 ∧ p.1 = partW k ∧ p.2 ∈ waysOf k
structure Good (st : List (Str × Str)) : Prop where
  ok : ∀ p ∈ st, StepOk p
  nd : (st.map (·.1)).Nodup
/-- a box, as its cell -/
def bx (x y z : Int) : HO := .lst [.int x, .int y, .int z]
abbrev YOk (y : Int) : Prop := -(2 ^ 64) < y ∧ y < 2 ^ 64
/-- drawn steps: a new list that the caller may write -/
def spSteps (K : PySem.W.Frag) : Sp := fun vs H Q _ => ∃ (b : Addr) (x y z : Int) (G : Hp), vs = [.ref b] ∧ Same G H ∧ G b = none ∧ H b = some (bx x y z) ∧ YOk y ∧
  ∀ (p : Addr) (xs : List V) (st : List (Str × Str)) (G' H' : Hp) (x' z' : Int), Good st → 1 ≤ st.length → st.length ≤ 6 → AreSteps K G' xs st → Grow [b] G H G' H' → H' b = some (bx x' y z') →
    H p = none → G' p = none → H' p = some (.lst xs) → Q (.ref p) H'
section
variable {P : Program} {w : World} {K : PySem.W.Frag} {mg : Str → Option Value} {base : Heap}
theorem sevenCells : ([.int 1, .int 2, .int 3, .int 4, .int 5, .int 6, .int 6, .int 6] : List V) = ([1, 2, 3, 4, 5, 6, 6, 6] : List Int).map V.int := rfl
theorem manyAt {r : Int} (h0 : 0 ≤ r) (h1 : r < 8) : ∃ n : Nat, 1 ≤ n ∧ n ≤ 6 ∧ atI ([.int 1, .int 2, .int 3, .int 4, .int 5, .int 6, .int 6, .int 6] : List V) r = some (.int (n : Int)) := by
  obtain rfl | rfl | rfl | rfl | rfl | rfl | rfl | rfl : r = 0 ∨ r = 1 ∨ r = 2 ∨ r = 3 ∨ r = 4 ∨ r = 5 ∨ r = 6 ∨ r = 7 := by omega
  · exact ⟨1, by decide, by decide, rfl⟩
  · exact ⟨2, by decide, by decide, rfl⟩
  · exact ⟨3, by decide, by decide, rfl⟩
  · exact ⟨4, by decide, by decide, rfl⟩
  · exact ⟨5, by decide, by decide, rfl⟩
  · exact ⟨6, by decide, by decide, rfl⟩
  · exact ⟨6, by decide, by decide, rfl⟩
  · exact ⟨6, by decide, by decide, rfl⟩
/-- between two turns: the indices left, the steps found -/
structure StInv (K : PySem.W.Frag) (b W L F : Addr) (y : Int) (G0 H0 : Hp) (i : Nat) (H : Hp) : Prop where
  ex : ∃ (G : Hp) (ns : List Nat) (st : List (Str × Str)) (xs : List V) (x z : Int),
    Wd [b] G0 H0 G [(b, bx x y z), (L, .lst (ns.map fun n => V.int (n : Nat))), (F, .lst xs)] H ∧ SqL K G W (words6.map V.str) ∧ ns.Nodup ∧ (∀ n ∈ ns, n < 6) ∧ ns.length + i = 6 ∧
      AreSteps K G xs st ∧ st.length = i ∧ Good st ∧ (∀ n ∈ ns, partW n ∉ st.map (·.1)) ∧ F ≠ b ∧ L ≠ b
theorem len_ways {k : Nat} : 0 < (waysOf k).length ∧ (waysOf k).length ≤ 4 := by
  unfold waysOf
  split <;> decide
theorem steps_new {st : List (Str × Str)} (g : Good st) {k : Nat} (hk : k < 6) (hn : partW k ∉ st.map (·.1)) {s : Str} (hs : s ∈ waysOf k) : Good (st ++ [(partW k, s)]) := by
  refine ⟨fun p hp => ?_, ?_⟩
  · rcases List.mem_append.mp hp with h | h
    · exact g.ok p h
    · obtain rfl : p = (partW k, s) := by simpa using h
      exact ⟨k, hk, rfl, hs⟩
  · rw [List.map_append, List.nodup_append]
    refine ⟨g.nd, by simp, fun a ha c hc => ?_⟩
    obtain rfl : c = partW k := by simpa using hc
    rintro rfl
    exact hn ha
theorem erase_map {α β : Type} (f : α → β) : ∀ (l : List α) (i : Nat), (l.eraseIdx i).map f = (l.map f).eraseIdx i
  | [], _ => rfl
  | _ :: _, 0 => rfl
  | x :: l, i + 1 => congrArg (f x :: ·) (erase_map f l i)
theorem rg6 : rgV 0 6 = ([0, 1, 2, 3, 4, 5] : List Nat).map fun n => V.int (n : Nat) := rfl
theorem ok_law_steps (t : T K mg) : Ok P w K mg base CX0 2 (He.ga K "_law_steps") "_law_steps" ["box"] (spSteps K) := by
  obtain ⟨fd, F⟩ := t.d_law_steps
  have O_law_take := ok_law_take (P := P) (w := w) (base := base) t
  have O_law_ways := ok_law_ways (P := P) (w := w) (base := base) t
  refine Ok.mk0 F t.g_law_steps sc_law_steps (F.binds fun _ _ _ _ _ _ us hl => match us, hl with | [_], _ => rfl) (fun vs H Q E h => ?_) (fun cdv A outer s H vs Q E hr h => ?_)
  · obtain ⟨b, x, y, z, G, rfl, _⟩ := h
    rfl
  · obtain ⟨b, x, y, z, G, rfl, hG, gb, hb, hy, q⟩ := h
    refine ⟨_, (pss_cons (ps_set (i := 1) sc_law_steps.nd rfl (Or.inl rfl) (pe_lst (pa_cons pe_str (pa_cons pe_str (pa_cons pe_str (pa_cons pe_str (pa_cons pe_str (pa_cons pe_str pa_nil))))))))
      (pss_cons (ps_set (i := 2) sc_law_steps.nd rfl (Or.inl rfl) (pe_listRg rfl (by rfl) t.z_list (prg_1 rfl t.z_range pe_int)))
      (pss_cons (ps_set (i := 3) sc_law_steps.nd rfl (Or.inl rfl) (pe_lst pa_nil))
      (pss_cons (ps_for PassesOwn.never rfl (pi_range1 rfl t.z_range (pa_cons (pe_ix ix_list (pe_lst (pa_cons pe_int (pa_cons pe_int (pa_cons pe_int (pa_cons pe_int (pa_cons pe_int (pa_cons pe_int (pa_cons pe_int (pa_cons pe_int pa_nil))))))))) (pe_callN O_law_take (hr.mono (by decide)) pass0 (pa_cons (pv 0) (pa_cons pe_int pa_nil))) (fun _ _ => rfl)) pa_nil)) (pg_name (i := 4) sc_law_steps.nd rfl (Or.inl rfl))
        (pss_cons (ps_set (i := 5) sc_law_steps.nd rfl (Or.inl rfl) (pe_bm PySem.F.plainAttrs_list PySem.F.slot_list_pop PySem.F.type_list_pop mt_popAt (pv 2) (pa_cons (pe_callN O_law_take (hr.mono (by decide)) pass0 (pa_cons (pv 0) (pa_cons (pe_callB call_len_seq (by rfl) t.z_len boot_len (pa_cons (pv 2) pa_nil)) pa_nil))) pa_nil)))
        (pss_one (ps_expr (pe_bm PySem.F.plainAttrs_list PySem.F.slot_list_append PySem.F.type_list_append mt_append (pv 3) (pa_cons (pe_tup (pa_cons (pe_ix ix_list (pv 1) (pv 5) (fun _ _ => rfl)) (pa_cons (pe_ix ix_list (pe_callN O_law_ways (hr.mono (by decide)) pass0 (pa_cons (pv 5) pa_nil)) (pe_callN O_law_take (hr.mono (by decide)) pass0 (pa_cons (pv 0) (pa_cons (pe_callB call_len_seq (by rfl) t.z_len boot_len (pa_cons (pe_callN O_law_ways (hr.mono (by decide)) pass0 (pa_cons (pv 5) pa_nil)) pa_nil)) pa_nil))) (fun _ _ => rfl)) pa_nil))) pa_nil))))))
      (pss_one (ps_ret (pv 3))))))), ?_⟩
    -- words, left, found
    have W0 := Wd.start1 hG hb gb
    refine ⟨(by show 6 ≤ sizeLine; decide), fun W hW => ?_⟩
    have W1 := W0.newP (o := .lst [.str "letters", .str "number", .str "points", .str "makers", .str "year", .str "copy"]) hW
    have aW : SqL K (upd G W (.lst [.str "letters", .str "number", .str "points", .str "makers", .str "year", .str "copy"])) W (words6.map V.str) := SqL.of upd_same
    generalize upd G W _ = G1 at W1 aW
    generalize upd H W _ = H1 at W1 ⊢
    refine ⟨_, rfl, RgOk.of_le (by decide) (by decide) (by decide) (by decide), fun L hL => ?_⟩
    have W2 := W1.newM (o := .lst (rgV 0 6)) hL
    have nLb : L ≠ b := (W1.ne hL (List.mem_cons_self ..)).symm
    generalize upd H1 L _ = H2 at W2 ⊢
    refine ⟨(by show 0 ≤ sizeLine; decide), fun F hF => ?_⟩
    have W3 := W2.newM (o := .lst []) hF
    have nFb : F ≠ b := (W2.ne hF (List.mem_cons_of_mem _ (List.mem_cons_self ..))).symm
    have W4 := W3.rot.rot.rot.swap.rot.rot.rot
    generalize upd H2 F _ = H3 at W3 W4 ⊢
    -- how many turns
    refine ⟨(by show 8 ≤ sizeLine; decide), fun D hD => ?_⟩
    have W5 := (W3.rot.rot).newP (o := .lst [.int 1, .int 2, .int 3, .int 4, .int 5, .int 6, .int 6, .int 6]) hD
    have aD : SqL K (upd G1 D (.lst [.int 1, .int 2, .int 3, .int 4, .int 5, .int 6, .int 6, .int 6])) D [.int 1, .int 2, .int 3, .int 4, .int 5, .int 6, .int 6, .int 6] := SqL.of upd_same
    have aW := (W3.newG hD (o := .lst [.int 1, .int 2, .int 3, .int 4, .int 5, .int 6, .int 6, .int 6])).seq aW
    generalize upd G1 D _ = G2 at W5 aD aW
    generalize upd H3 D _ = H4 at W5 ⊢
    refine ⟨_, rfl, b, x, y, z, 8, rfl, W5.here, hy, by decide, by decide, fun r x1 z1 r0 r8 => ?_⟩
    have W6 := W5.put (o' := .lst [.int x1, .int y, .int z1])
    obtain ⟨n, n1, n6, hn⟩ := manyAt r0 r8
    refine ⟨D, _, r, _, rfl, rfl, W6.kn.seq aD, hn, ?_⟩
    refine ⟨(n : Int), rfl, by omega, by omega, for_range (lo := 0) (n := (n : Int).toNat) (fun i σ H' => (∃ tu at_, σ = [some (.ref b), some (.ref W), some (.ref L), some (.ref F), tu, at_]) ∧ StInv K b W L F y G H i H') ?h0 ?hs ?hd⟩
    case h0 =>
      exact ⟨⟨none, none, rfl⟩, ⟨G2, [0, 1, 2, 3, 4, 5], [], [], x1, z1, W6.rot.swap.rot.rot, aW, by decide, by decide, rfl, .nil, rfl, ⟨by simp, by simp⟩, by simp, nFb, nLb⟩⟩
    case hs =>
      rintro i σ H5 hi ⟨⟨tu, at_, rfl⟩, ⟨G3, ns, st, xs, x2, z2, V0, aW, nd, n6', hlen, aS, hst, gd, hno, _, _⟩⟩
      have hin : i < n := by omega
      have hnl : 0 < ns.length := by omega
      refine ⟨_, rfl, .inl ⟨rfl, _, .inl (.inl V0.here2)⟩, _, rfl, _, rfl, L, _, rfl, .inl (SqL.of V0.here2), b, x2, y, z2, _, rfl, V0.here, hy, ?_, ?_, fun r x3 z3 r0 r1 => ?_⟩
      · show (0 : Int) < ((ns.map fun n => V.int (n : Nat)).length : Int)
        rw [List.length_map]
        omega
      · show ((ns.map fun n => V.int (n : Nat)).length : Int) < 1073741824
        rw [List.length_map]
        omega
      rw [List.length_map] at r1
      have V1 := (V0.put (o' := .lst [.int x3, .int y, .int z3])).rot
      generalize upd H5 b _ = H6 at V1 ⊢
      have hr' : r.toNat < ns.length := by omega
      refine ⟨L, _, r, r.toNat, V.int ((ns[r.toNat]'hr' : Nat) : Int), rfl, rfl, V1.here, by omega, by omega, seqIx r0 (by rw [List.length_map]; exact r1), ?_, ?_⟩
      · rw [List.getElem?_map, List.getElem?_eq_getElem hr']
        rfl
      -- the index taken, the words, the ways
      generalize hk : ns[r.toNat]'hr' = k
      have kin : k ∈ ns := by rw [← hk]; exact List.getElem_mem hr'
      have k6 := n6' k kin
      have V2 := V1.put (o' := .lst ((ns.map fun n => V.int (n : Nat)).eraseIdx r.toNat))
      generalize upd H6 L _ = H7 at V2 ⊢
      have V3 := V2.rot.rot
      refine ⟨_, rfl, .inl ⟨rfl, _, .inl (.inl V2.here2)⟩, ?_⟩
      refine ⟨_, rfl, _, rfl, W, _, _, _, rfl, rfl, V2.kn.seq aW, atI_nat (j := k) (v := .str (partW k)) ?_, ?_⟩
      · show (words6.map V.str)[k]? = some (.str (partW k))
        unfold words6
        rw [List.getElem?_map, List.getElem?_map, List.getElem?_range k6]
        rfl
      refine ⟨_, rfl, k, rfl, k6, fun p1 H8 hp1 e1 h1 => ?_⟩
      have g1 := grow_one V3.kn hp1 e1 h1
      have V4 := V3.call g1
      have ap1 : SqL K (upd G3 p1 (.lst ((waysOf k).map V.str))) p1 ((waysOf k).map V.str) := SqL.of upd_same
      have aW := g1.g.seq aW
      have aS := aS.mono g1.g
      generalize upd G3 p1 _ = G4 at V4 ap1 aW aS
      refine ⟨_, rfl, _, rfl, k, rfl, k6, fun p2 H9 hp2 e2 h2 => ?_⟩
      have g2 := grow_one V4.kn hp2 e2 h2
      have V5 := V4.call g2
      have ap1 := g2.g.seq ap1
      have aW := g2.g.seq aW
      have aS := aS.mono g2.g
      generalize upd G4 p2 _ = G5 at V5 ap1 aW aS
      have hw := len_ways (k := k)
      refine ⟨p2, _, rfl, .inl (SqL.of h2), b, _, y, _, _, rfl, V5.here, hy, ?_, ?_, fun r2 x4 z4 q0 q1 => ?_⟩
      · show (0 : Int) < (((waysOf k).map V.str).length : Int)
        rw [List.length_map]
        omega
      · show (((waysOf k).map V.str).length : Int) < 1073741824
        rw [List.length_map]
        omega
      rw [List.length_map] at q1
      have V6 := V5.put (o' := .lst [.int x4, .int y, .int z4])
      generalize upd H9 b _ = H10 at V6 ⊢
      have hq : r2.toNat < (waysOf k).length := by omega
      have eq2 : r2 = (r2.toNat : Int) := by omega
      refine ⟨p1, _, r2, .str ((waysOf k)[r2.toNat]'hq), rfl, rfl, V6.kn.seq ap1, ?_, ?_⟩
      · refine (congrArg _ eq2).trans (atI_nat ?_)
        rw [List.getElem?_map]
        simp [hq]
      refine ⟨(by show 2 ≤ sizeLine; decide), fun p3 hp3 => ?_⟩
      have V7 := V6.newP (o := .tup [.str (partW k), .str ((waysOf k)[r2.toNat]'hq)]) hp3
      have aP : IsStep K (upd G5 p3 (.tup [.str (partW k), .str ((waysOf k)[r2.toNat]'hq)])) (.ref p3) (partW k, (waysOf k)[r2.toNat]'hq) := ⟨p3, rfl, SqT.of upd_same⟩
      have gg := V6.newG hp3 (o := .tup [.str (partW k), .str ((waysOf k)[r2.toNat]'hq)])
      have aW := gg.seq aW
      have aS := aS.mono gg
      generalize upd G5 p3 _ = G6 at V7 aP aW aS
      generalize upd H10 p3 _ = H11 at V7 ⊢
      have V8 := V7.rot.rot
      refine ⟨F, xs, .ref p3, rfl, rfl, V8.here, ?_, ?_⟩
      · have := Paired.length aS
        rw [sizeLine_eq]
        omega
      have V9 := (V8.put (o' := .lst (xs ++ [.ref p3]))).rot
      refine ⟨⟨_, _, rfl⟩, ⟨G6, ns.eraseIdx r.toNat, st ++ [(partW k, (waysOf k)[r2.toNat]'hq)], xs ++ [.ref p3], x4, z4, ?_, aW, nd.sublist (List.eraseIdx_sublist ..), fun m hm => n6' m (List.mem_of_mem_eraseIdx hm), ?_, aS.snoc aP, ?_, steps_new gd k6 (hno k kin) (List.getElem_mem hq), fun m hm => ?_, nFb, nLb⟩⟩
      · have e : (ns.eraseIdx r.toNat).map (fun n => V.int (n : Nat)) = (ns.map fun n => V.int (n : Nat)).eraseIdx r.toNat := erase_map ..
        rw [e]
        exact V9
      · rw [List.length_eraseIdx_of_lt hr']
        omega
      · rw [List.length_append, hst]
        rfl
      · have hmn : m ∈ ns := List.mem_of_mem_eraseIdx hm
        rw [List.map_append, List.mem_append]
        rintro (h | h)
        · exact hno m hmn h
        · have e : partW m = partW k := by simpa using h
          have e2 := partW_inj (n6' m hmn) k6 e
          subst e2
          obtain ⟨j, hj, ej⟩ := List.mem_eraseIdx_iff_getElem.mp hm
          obtain ⟨hj2, ej2⟩ := ej
          exact hj2 ((List.getElem_inj nd).mp (ej2.trans hk.symm))
    case hd =>
      rintro σ H5 ⟨⟨tu, at_, rfl⟩, ⟨G3, ns, st, xs, x2, z2, V0, aW, nd, n6', hlen, aS, hst, gd, hno, _, _⟩⟩
      have V1 := V0.rot.rot
      refine ⟨_, rfl, q F xs st G3 H5 x2 z2 gd (by omega) (by omega) aS V0.gr V0.here (W2.fresh0 hF) (V1.no _ (List.mem_cons_self ..)) V1.here⟩
theorem ok_law_steps_two (t : T K mg) : Ok P w K mg base CX0 2 (He.ga K "_law_steps_two") "_law_steps_two" ["box"] (spSteps K) := by
  obtain ⟨fd, F⟩ := t.d_law_steps_two
  have O_law_take := ok_law_take_two (P := P) (w := w) (base := base) t
  have O_law_ways := ok_law_ways (P := P) (w := w) (base := base) t
  refine Ok.mk0 F t.g_law_steps_two sc_law_steps_two (F.binds fun _ _ _ _ _ _ us hl => match us, hl with | [_], _ => rfl) (fun vs H Q E h => ?_) (fun cdv A outer s H vs Q E hr h => ?_)
  · obtain ⟨b, x, y, z, G, rfl, _⟩ := h
    rfl
  · obtain ⟨b, x, y, z, G, rfl, hG, gb, hb, hy, q⟩ := h
    refine ⟨_, (pss_cons (ps_set (i := 1) sc_law_steps_two.nd rfl (Or.inl rfl) (pe_lst (pa_cons pe_str (pa_cons pe_str (pa_cons pe_str (pa_cons pe_str (pa_cons pe_str (pa_cons pe_str pa_nil))))))))
      (pss_cons (ps_set (i := 2) sc_law_steps_two.nd rfl (Or.inl rfl) (pe_listRg rfl (by rfl) t.z_list (prg_1 rfl t.z_range pe_int)))
      (pss_cons (ps_set (i := 3) sc_law_steps_two.nd rfl (Or.inl rfl) (pe_lst pa_nil))
      (pss_cons (ps_for PassesOwn.never rfl (pi_range1 rfl t.z_range (pa_cons (pe_ix ix_list (pe_lst (pa_cons pe_int (pa_cons pe_int (pa_cons pe_int (pa_cons pe_int (pa_cons pe_int (pa_cons pe_int (pa_cons pe_int (pa_cons pe_int pa_nil))))))))) (pe_callN O_law_take (hr.mono (by decide)) pass0 (pa_cons (pv 0) (pa_cons pe_int pa_nil))) (fun _ _ => rfl)) pa_nil)) (pg_name (i := 4) sc_law_steps_two.nd rfl (Or.inl rfl))
        (pss_cons (ps_set (i := 5) sc_law_steps_two.nd rfl (Or.inl rfl) (pe_bm PySem.F.plainAttrs_list PySem.F.slot_list_pop PySem.F.type_list_pop mt_popAt (pv 2) (pa_cons (pe_callN O_law_take (hr.mono (by decide)) pass0 (pa_cons (pv 0) (pa_cons (pe_callB call_len_seq (by rfl) t.z_len boot_len (pa_cons (pv 2) pa_nil)) pa_nil))) pa_nil)))
        (pss_one (ps_expr (pe_bm PySem.F.plainAttrs_list PySem.F.slot_list_append PySem.F.type_list_append mt_append (pv 3) (pa_cons (pe_tup (pa_cons (pe_ix ix_list (pv 1) (pv 5) (fun _ _ => rfl)) (pa_cons (pe_ix ix_list (pe_callN O_law_ways (hr.mono (by decide)) pass0 (pa_cons (pv 5) pa_nil)) (pe_callN O_law_take (hr.mono (by decide)) pass0 (pa_cons (pv 0) (pa_cons (pe_callB call_len_seq (by rfl) t.z_len boot_len (pa_cons (pe_callN O_law_ways (hr.mono (by decide)) pass0 (pa_cons (pv 5) pa_nil)) pa_nil)) pa_nil))) (fun _ _ => rfl)) pa_nil))) pa_nil))))))
      (pss_one (ps_ret (pv 3))))))), ?_⟩
    -- words, left, found
    have W0 := Wd.start1 hG hb gb
    refine ⟨(by show 6 ≤ sizeLine; decide), fun W hW => ?_⟩
    have W1 := W0.newP (o := .lst [.str "letters", .str "number", .str "points", .str "makers", .str "year", .str "copy"]) hW
    have aW : SqL K (upd G W (.lst [.str "letters", .str "number", .str "points", .str "makers", .str "year", .str "copy"])) W (words6.map V.str) := SqL.of upd_same
    generalize upd G W _ = G1 at W1 aW
    generalize upd H W _ = H1 at W1 ⊢
    refine ⟨_, rfl, RgOk.of_le (by decide) (by decide) (by decide) (by decide), fun L hL => ?_⟩
    have W2 := W1.newM (o := .lst (rgV 0 6)) hL
    have nLb : L ≠ b := (W1.ne hL (List.mem_cons_self ..)).symm
    generalize upd H1 L _ = H2 at W2 ⊢
    refine ⟨(by show 0 ≤ sizeLine; decide), fun F hF => ?_⟩
    have W3 := W2.newM (o := .lst []) hF
    have nFb : F ≠ b := (W2.ne hF (List.mem_cons_of_mem _ (List.mem_cons_self ..))).symm
    have W4 := W3.rot.rot.rot.swap.rot.rot.rot
    generalize upd H2 F _ = H3 at W3 W4 ⊢
    -- how many turns
    refine ⟨(by show 8 ≤ sizeLine; decide), fun D hD => ?_⟩
    have W5 := (W3.rot.rot).newP (o := .lst [.int 1, .int 2, .int 3, .int 4, .int 5, .int 6, .int 6, .int 6]) hD
    have aD : SqL K (upd G1 D (.lst [.int 1, .int 2, .int 3, .int 4, .int 5, .int 6, .int 6, .int 6])) D [.int 1, .int 2, .int 3, .int 4, .int 5, .int 6, .int 6, .int 6] := SqL.of upd_same
    have aW := (W3.newG hD (o := .lst [.int 1, .int 2, .int 3, .int 4, .int 5, .int 6, .int 6, .int 6])).seq aW
    generalize upd G1 D _ = G2 at W5 aD aW
    generalize upd H3 D _ = H4 at W5 ⊢
    refine ⟨_, rfl, b, x, y, z, 8, rfl, W5.here, hy, by decide, by decide, fun r x1 z1 r0 r8 => ?_⟩
    have W6 := W5.put (o' := .lst [.int x1, .int y, .int z1])
    obtain ⟨n, n1, n6, hn⟩ := manyAt r0 r8
    refine ⟨D, _, r, _, rfl, rfl, W6.kn.seq aD, hn, ?_⟩
    refine ⟨(n : Int), rfl, by omega, by omega, for_range (lo := 0) (n := (n : Int).toNat) (fun i σ H' => (∃ tu at_, σ = [some (.ref b), some (.ref W), some (.ref L), some (.ref F), tu, at_]) ∧ StInv K b W L F y G H i H') ?h0 ?hs ?hd⟩
    case h0 =>
      exact ⟨⟨none, none, rfl⟩, ⟨G2, [0, 1, 2, 3, 4, 5], [], [], x1, z1, W6.rot.swap.rot.rot, aW, by decide, by decide, rfl, .nil, rfl, ⟨by simp, by simp⟩, by simp, nFb, nLb⟩⟩
    case hs =>
      rintro i σ H5 hi ⟨⟨tu, at_, rfl⟩, ⟨G3, ns, st, xs, x2, z2, V0, aW, nd, n6', hlen, aS, hst, gd, hno, _, _⟩⟩
      have hin : i < n := by omega
      have hnl : 0 < ns.length := by omega
      refine ⟨_, rfl, .inl ⟨rfl, _, .inl (.inl V0.here2)⟩, _, rfl, _, rfl, L, _, rfl, .inl (SqL.of V0.here2), b, x2, y, z2, _, rfl, V0.here, hy, ?_, ?_, fun r x3 z3 r0 r1 => ?_⟩
      · show (0 : Int) < ((ns.map fun n => V.int (n : Nat)).length : Int)
        rw [List.length_map]
        omega
      · show ((ns.map fun n => V.int (n : Nat)).length : Int) < 1073741824
        rw [List.length_map]
        omega
      rw [List.length_map] at r1
      have V1 := (V0.put (o' := .lst [.int x3, .int y, .int z3])).rot
      generalize upd H5 b _ = H6 at V1 ⊢
      have hr' : r.toNat < ns.length := by omega
      refine ⟨L, _, r, r.toNat, V.int ((ns[r.toNat]'hr' : Nat) : Int), rfl, rfl, V1.here, by omega, by omega, seqIx r0 (by rw [List.length_map]; exact r1), ?_, ?_⟩
      · rw [List.getElem?_map, List.getElem?_eq_getElem hr']
        rfl
      -- the index taken, the words, the ways
      generalize hk : ns[r.toNat]'hr' = k
      have kin : k ∈ ns := by rw [← hk]; exact List.getElem_mem hr'
      have k6 := n6' k kin
      have V2 := V1.put (o' := .lst ((ns.map fun n => V.int (n : Nat)).eraseIdx r.toNat))
      generalize upd H6 L _ = H7 at V2 ⊢
      have V3 := V2.rot.rot
      refine ⟨_, rfl, .inl ⟨rfl, _, .inl (.inl V2.here2)⟩, ?_⟩
      refine ⟨_, rfl, _, rfl, W, _, _, _, rfl, rfl, V2.kn.seq aW, atI_nat (j := k) (v := .str (partW k)) ?_, ?_⟩
      · show (words6.map V.str)[k]? = some (.str (partW k))
        unfold words6
        rw [List.getElem?_map, List.getElem?_map, List.getElem?_range k6]
        rfl
      refine ⟨_, rfl, k, rfl, k6, fun p1 H8 hp1 e1 h1 => ?_⟩
      have g1 := grow_one V3.kn hp1 e1 h1
      have V4 := V3.call g1
      have ap1 : SqL K (upd G3 p1 (.lst ((waysOf k).map V.str))) p1 ((waysOf k).map V.str) := SqL.of upd_same
      have aW := g1.g.seq aW
      have aS := aS.mono g1.g
      generalize upd G3 p1 _ = G4 at V4 ap1 aW aS
      refine ⟨_, rfl, _, rfl, k, rfl, k6, fun p2 H9 hp2 e2 h2 => ?_⟩
      have g2 := grow_one V4.kn hp2 e2 h2
      have V5 := V4.call g2
      have ap1 := g2.g.seq ap1
      have aW := g2.g.seq aW
      have aS := aS.mono g2.g
      generalize upd G4 p2 _ = G5 at V5 ap1 aW aS
      have hw := len_ways (k := k)
      refine ⟨p2, _, rfl, .inl (SqL.of h2), b, _, y, _, _, rfl, V5.here, hy, ?_, ?_, fun r2 x4 z4 q0 q1 => ?_⟩
      · show (0 : Int) < (((waysOf k).map V.str).length : Int)
        rw [List.length_map]
        omega
      · show (((waysOf k).map V.str).length : Int) < 1073741824
        rw [List.length_map]
        omega
      rw [List.length_map] at q1
      have V6 := V5.put (o' := .lst [.int x4, .int y, .int z4])
      generalize upd H9 b _ = H10 at V6 ⊢
      have hq : r2.toNat < (waysOf k).length := by omega
      have eq2 : r2 = (r2.toNat : Int) := by omega
      refine ⟨p1, _, r2, .str ((waysOf k)[r2.toNat]'hq), rfl, rfl, V6.kn.seq ap1, ?_, ?_⟩
      · refine (congrArg _ eq2).trans (atI_nat ?_)
        rw [List.getElem?_map]
        simp [hq]
      refine ⟨(by show 2 ≤ sizeLine; decide), fun p3 hp3 => ?_⟩
      have V7 := V6.newP (o := .tup [.str (partW k), .str ((waysOf k)[r2.toNat]'hq)]) hp3
      have aP : IsStep K (upd G5 p3 (.tup [.str (partW k), .str ((waysOf k)[r2.toNat]'hq)])) (.ref p3) (partW k, (waysOf k)[r2.toNat]'hq) := ⟨p3, rfl, SqT.of upd_same⟩
      have gg := V6.newG hp3 (o := .tup [.str (partW k), .str ((waysOf k)[r2.toNat]'hq)])
      have aW := gg.seq aW
      have aS := aS.mono gg
      generalize upd G5 p3 _ = G6 at V7 aP aW aS
      generalize upd H10 p3 _ = H11 at V7 ⊢
      have V8 := V7.rot.rot
      refine ⟨F, xs, .ref p3, rfl, rfl, V8.here, ?_, ?_⟩
      · have := Paired.length aS
        rw [sizeLine_eq]
        omega
      have V9 := (V8.put (o' := .lst (xs ++ [.ref p3]))).rot
      refine ⟨⟨_, _, rfl⟩, ⟨G6, ns.eraseIdx r.toNat, st ++ [(partW k, (waysOf k)[r2.toNat]'hq)], xs ++ [.ref p3], x4, z4, ?_, aW, nd.sublist (List.eraseIdx_sublist ..), fun m hm => n6' m (List.mem_of_mem_eraseIdx hm), ?_, aS.snoc aP, ?_, steps_new gd k6 (hno k kin) (List.getElem_mem hq), fun m hm => ?_, nFb, nLb⟩⟩
      · have e : (ns.eraseIdx r.toNat).map (fun n => V.int (n : Nat)) = (ns.map fun n => V.int (n : Nat)).eraseIdx r.toNat := erase_map ..
        rw [e]
        exact V9
      · rw [List.length_eraseIdx_of_lt hr']
        omega
      · rw [List.length_append, hst]
        rfl
      · have hmn : m ∈ ns := List.mem_of_mem_eraseIdx hm
        rw [List.map_append, List.mem_append]
        rintro (h | h)
        · exact hno m hmn h
        · have e : partW m = partW k := by simpa using h
          have e2 := partW_inj (n6' m hmn) k6 e
          subst e2
          obtain ⟨j, hj, ej⟩ := List.mem_eraseIdx_iff_getElem.mp hm
          obtain ⟨hj2, ej2⟩ := ej
          exact hj2 ((List.getElem_inj nd).mp (ej2.trans hk.symm))
    case hd =>
      rintro σ H5 ⟨⟨tu, at_, rfl⟩, ⟨G3, ns, st, xs, x2, z2, V0, aW, nd, n6', hlen, aS, hst, gd, hno, _, _⟩⟩
      have V1 := V0.rot.rot
      refine ⟨_, rfl, q F xs st G3 H5 x2 z2 gd (by omega) (by omega) aS V0.gr V0.here (W2.fresh0 hF) (V1.no _ (List.mem_cons_self ..)) V1.here⟩
end
end K51
set_option Elab.async false
set_option linter.all false
set_option maxRecDepth 100000
set_option maxHeartbeats 4000000
namespace K51
open PySem PySem.Spec PyProof.Rows L2 Sv
section
variable {P : Program} {w : World} {K : PySem.W.Frag} {mg : Str → Option Value} {base : Heap}
/-! ### the errors -/
def spOex (C : Addr) : Sp := fun vs H Q _ => ∃ (a : Addr) (v : V), vs = [.ref a, v] ∧ H a = some (exo a C none) ∧ ∀ dx, H dx = none → dx ≠ a → Q .non (upd (upd H dx (exd dx [("found", v)])) a (exo a C (some dx)))
theorem exc_mk {C a : Addr} {v : V} {H1 : Hp} {Q : XK} (ha : H1 a = none) (q : ∀ d H', H1 d = none → Same H1 H' → H' d = some (.xd [("found", v)]) → Q (.ref C) (some d) H') :
    spOex C (.ref a :: ([v] ++ [])) (upd H1 a (exo a C none)) (fun v H2 => v = .non ∧ ∃ (d : Addr) (fs : List (Str × V)), H2 a = some (exo a C (some d)) ∧ H2 d = some (exd d fs) ∧ H1 d = none ∧ Q (.ref C) (some d) (upd (del H2 a) d (.xd fs))) (fun _ _ _ => False) := by
  refine ⟨a, v, rfl, upd_same, fun dx hdx hne => ⟨rfl, dx, [("found", v)], upd_same, ?_, ?_, q dx _ ?_ ?_ ?_⟩⟩
  · rw [upd_ne hne, upd_same]
  · rw [upd_ne hne] at hdx
    exact hdx
  · rw [upd_ne hne] at hdx
    exact hdx
  · rw [upd_ne hne] at hdx
    intro b u e
    have hb1 : b ≠ dx := fun z => by rw [z, hdx] at e; cases e
    have hb2 : b ≠ a := fun z => by rw [z, ha] at e; cases e
    rw [upd_ne hb1, del_ne hb2, upd_ne hb2, upd_ne hb1, upd_ne hb2]
    exact e
  · exact upd_same
theorem ok_Twice_init (t : T K mg) : ∃ fd, FnOk P w K mg base CX0 1 (He.ma K (He.ga K "Twice") "__init__") fd ["self", "found"] (spOex (He.ga K "Twice")) ∧ Binds K fd ["self", "found"] [] := by
  obtain ⟨fd, F⟩ := t.d_Twice___init__
  refine ⟨fd, F.ok sc_Twice___init__ (fun vs H Q E h => ?_) (fun cdv A outer s H vs Q E hr h => ?_), F.binds fun _ _ _ _ _ _ us hl => match us, hl with | [_, _], _ => rfl⟩
  · obtain ⟨a, v, rfl, _⟩ := h
    rfl
  · obtain ⟨a, v, rfl, ha, q⟩ := h
    refine ⟨_, (pss_cons (ps_expr (pe_baseinit (by rfl) t.g_MarkError t.gin.1 t.gin.2 (pa_cons (pv 0) (pa_cons pe_str pa_nil))))
      (pss_one (ps_ost (pv 0) (pv 1)))), ?_⟩
    refine ⟨_, rfl, a, _, _, rfl, (by show 1 ≤ 1000; decide), t.x_Twice, ha, ?_⟩
    refine ⟨_, rfl, _, rfl, a, _, rfl, t.x_Twice, t.xn_Twice, .inl ⟨ha, fun dx h1 h2 => q dx h1 h2⟩⟩
theorem pmk_Twice {X : Cx} {e : Expr} {te : TE} {p pos : Pos} (t : T X.K X.mg) (hr : Room 2 X.A) (hg : Gl X "Twice") (he : PE X e te) (hs : starEach [e] X.env = (false, eval e X.env) :: starEach [] X.env := by rfl) :
    PMk X (.Call (.Name "Twice" p) [e] [] pos) (tMkO (He.ga X.K "Twice") (spOex (He.ga X.K "Twice")) [] (tCons te tNil)) := by
  obtain ⟨fd, F, hb⟩ := ok_Twice_init (P := X.prog) (w := X.w) (base := X.base) t
  exact pmk_oex t.x_Twice t.xi_Twice.1 t.xi_Twice.2 F hr hb .nil pass0 hg t.g_Twice (pa_cons he pa_nil hs) (by decide) hs (by rfl)
theorem ok_NoSteps_init (t : T K mg) : ∃ fd, FnOk P w K mg base CX0 1 (He.ma K (He.ga K "NoSteps") "__init__") fd ["self", "found"] (spOex (He.ga K "NoSteps")) ∧ Binds K fd ["self", "found"] [] := by
  obtain ⟨fd, F⟩ := t.d_NoSteps___init__
  refine ⟨fd, F.ok sc_NoSteps___init__ (fun vs H Q E h => ?_) (fun cdv A outer s H vs Q E hr h => ?_), F.binds fun _ _ _ _ _ _ us hl => match us, hl with | [_, _], _ => rfl⟩
  · obtain ⟨a, v, rfl, _⟩ := h
    rfl
  · obtain ⟨a, v, rfl, ha, q⟩ := h
    refine ⟨_, (pss_cons (ps_expr (pe_baseinit (by rfl) t.g_MarkError t.gin.1 t.gin.2 (pa_cons (pv 0) (pa_cons pe_str pa_nil))))
      (pss_one (ps_ost (pv 0) (pv 1)))), ?_⟩
    refine ⟨_, rfl, a, _, _, rfl, (by show 1 ≤ 1000; decide), t.x_NoSteps, ha, ?_⟩
    refine ⟨_, rfl, _, rfl, a, _, rfl, t.x_NoSteps, t.xn_NoSteps, .inl ⟨ha, fun dx h1 h2 => q dx h1 h2⟩⟩
theorem pmk_NoSteps {X : Cx} {e : Expr} {te : TE} {p pos : Pos} (t : T X.K X.mg) (hr : Room 2 X.A) (hg : Gl X "NoSteps") (he : PE X e te) (hs : starEach [e] X.env = (false, eval e X.env) :: starEach [] X.env := by rfl) :
    PMk X (.Call (.Name "NoSteps" p) [e] [] pos) (tMkO (He.ga X.K "NoSteps") (spOex (He.ga X.K "NoSteps")) [] (tCons te tNil)) := by
  obtain ⟨fd, F, hb⟩ := ok_NoSteps_init (P := X.prog) (w := X.w) (base := X.base) t
  exact pmk_oex t.x_NoSteps t.xi_NoSteps.1 t.xi_NoSteps.2 F hr hb .nil pass0 hg t.g_NoSteps (pa_cons he pa_nil hs) (by decide) hs (by rfl)
theorem ok_NoStep_init (t : T K mg) : ∃ fd, FnOk P w K mg base CX0 1 (He.ma K (He.ga K "NoStep") "__init__") fd ["self", "found"] (spOex (He.ga K "NoStep")) ∧ Binds K fd ["self", "found"] [] := by
  obtain ⟨fd, F⟩ := t.d_NoStep___init__
  refine ⟨fd, F.ok sc_NoStep___init__ (fun vs H Q E h => ?_) (fun cdv A outer s H vs Q E hr h => ?_), F.binds fun _ _ _ _ _ _ us hl => match us, hl with | [_, _], _ => rfl⟩
  · obtain ⟨a, v, rfl, _⟩ := h
    rfl
  · obtain ⟨a, v, rfl, ha, q⟩ := h
    refine ⟨_, (pss_cons (ps_expr (pe_baseinit (by rfl) t.g_MarkError t.gin.1 t.gin.2 (pa_cons (pv 0) (pa_cons pe_str pa_nil))))
      (pss_one (ps_ost (pv 0) (pv 1)))), ?_⟩
    refine ⟨_, rfl, a, _, _, rfl, (by show 1 ≤ 1000; decide), t.x_NoStep, ha, ?_⟩
    refine ⟨_, rfl, _, rfl, a, _, rfl, t.x_NoStep, t.xn_NoStep, .inl ⟨ha, fun dx h1 h2 => q dx h1 h2⟩⟩
theorem pmk_NoStep {X : Cx} {e : Expr} {te : TE} {p pos : Pos} (t : T X.K X.mg) (hr : Room 2 X.A) (hg : Gl X "NoStep") (he : PE X e te) (hs : starEach [e] X.env = (false, eval e X.env) :: starEach [] X.env := by rfl) :
    PMk X (.Call (.Name "NoStep" p) [e] [] pos) (tMkO (He.ga X.K "NoStep") (spOex (He.ga X.K "NoStep")) [] (tCons te tNil)) := by
  obtain ⟨fd, F, hb⟩ := ok_NoStep_init (P := X.prog) (w := X.w) (base := X.base) t
  exact pmk_oex t.x_NoStep t.xi_NoStep.1 t.xi_NoStep.2 F hr hb .nil pass0 hg t.g_NoStep (pa_cons he pa_nil hs) (by decide) hs (by rfl)
theorem ok_NoPart_init (t : T K mg) : ∃ fd, FnOk P w K mg base CX0 1 (He.ma K (He.ga K "NoPart") "__init__") fd ["self", "found"] (spOex (He.ga K "NoPart")) ∧ Binds K fd ["self", "found"] [] := by
  obtain ⟨fd, F⟩ := t.d_NoPart___init__
  refine ⟨fd, F.ok sc_NoPart___init__ (fun vs H Q E h => ?_) (fun cdv A outer s H vs Q E hr h => ?_), F.binds fun _ _ _ _ _ _ us hl => match us, hl with | [_, _], _ => rfl⟩
  · obtain ⟨a, v, rfl, _⟩ := h
    rfl
  · obtain ⟨a, v, rfl, ha, q⟩ := h
    refine ⟨_, (pss_cons (ps_expr (pe_baseinit (by rfl) t.g_MarkError t.gin.1 t.gin.2 (pa_cons (pv 0) (pa_cons pe_str pa_nil))))
      (pss_one (ps_ost (pv 0) (pv 1)))), ?_⟩
    refine ⟨_, rfl, a, _, _, rfl, (by show 1 ≤ 1000; decide), t.x_NoPart, ha, ?_⟩
    refine ⟨_, rfl, _, rfl, a, _, rfl, t.x_NoPart, t.xn_NoPart, .inl ⟨ha, fun dx h1 h2 => q dx h1 h2⟩⟩
theorem pmk_NoPart {X : Cx} {e : Expr} {te : TE} {p pos : Pos} (t : T X.K X.mg) (hr : Room 2 X.A) (hg : Gl X "NoPart") (he : PE X e te) (hs : starEach [e] X.env = (false, eval e X.env) :: starEach [] X.env := by rfl) :
    PMk X (.Call (.Name "NoPart" p) [e] [] pos) (tMkO (He.ga X.K "NoPart") (spOex (He.ga X.K "NoPart")) [] (tCons te tNil)) := by
  obtain ⟨fd, F, hb⟩ := ok_NoPart_init (P := X.prog) (w := X.w) (base := X.base) t
  exact pmk_oex t.x_NoPart t.xi_NoPart.1 t.xi_NoPart.2 F hr hb .nil pass0 hg t.g_NoPart (pa_cons he pa_nil hs) (by decide) hs (by rfl)
theorem ok_NoWay_init (t : T K mg) : ∃ fd, FnOk P w K mg base CX0 1 (He.ma K (He.ga K "NoWay") "__init__") fd ["self", "found"] (spOex (He.ga K "NoWay")) ∧ Binds K fd ["self", "found"] [] := by
  obtain ⟨fd, F⟩ := t.d_NoWay___init__
  refine ⟨fd, F.ok sc_NoWay___init__ (fun vs H Q E h => ?_) (fun cdv A outer s H vs Q E hr h => ?_), F.binds fun _ _ _ _ _ _ us hl => match us, hl with | [_, _], _ => rfl⟩
  · obtain ⟨a, v, rfl, _⟩ := h
    rfl
  · obtain ⟨a, v, rfl, ha, q⟩ := h
    refine ⟨_, (pss_cons (ps_expr (pe_baseinit (by rfl) t.g_MarkError t.gin.1 t.gin.2 (pa_cons (pv 0) (pa_cons pe_str pa_nil))))
      (pss_one (ps_ost (pv 0) (pv 1)))), ?_⟩
    refine ⟨_, rfl, a, _, _, rfl, (by show 1 ≤ 1000; decide), t.x_NoWay, ha, ?_⟩
    refine ⟨_, rfl, _, rfl, a, _, rfl, t.x_NoWay, t.xn_NoWay, .inl ⟨ha, fun dx h1 h2 => q dx h1 h2⟩⟩
theorem pmk_NoWay {X : Cx} {e : Expr} {te : TE} {p pos : Pos} (t : T X.K X.mg) (hr : Room 2 X.A) (hg : Gl X "NoWay") (he : PE X e te) (hs : starEach [e] X.env = (false, eval e X.env) :: starEach [] X.env := by rfl) :
    PMk X (.Call (.Name "NoWay" p) [e] [] pos) (tMkO (He.ga X.K "NoWay") (spOex (He.ga X.K "NoWay")) [] (tCons te tNil)) := by
  obtain ⟨fd, F, hb⟩ := ok_NoWay_init (P := X.prog) (w := X.w) (base := X.base) t
  exact pmk_oex t.x_NoWay t.xi_NoWay.1 t.xi_NoWay.2 F hr hb .nil pass0 hg t.g_NoWay (pa_cons he pa_nil hs) (by decide) hs (by rfl)
/-! ### ways -/
def keys17 : List Str := ["letters words", "letters short", "number whole", "number figures", "points decimal", "points whole", "points late", "makers decimal", "makers whole", "makers few", "year rising", "year falling", "year late", "year figures", "copy rising", "copy falling", "copy figures"]
/-- a key's way, if it is one of the part p -/
def wayIn (p k : Str) : Option Str := if Txt.startswith k (p ++ " ") = true then some (cutS k (some ((p.length : Int) + 1)) none) else none
theorem ways_are : ∀ k : _root_.Fin 6, keys17.filterMap (wayIn (partW k)) = waysOf k := by decide +kernel
theorem keys_short : ∀ x ∈ keys17, x.length ≤ 20 := by decide +kernel
theorem part_short : ∀ k : _root_.Fin 6, (partW k).length ≤ 10 := by decide +kernel
theorem part_sp : ∀ k : _root_.Fin 6, (Str.empty ++ partW k).length ≤ 10 ∧ (Str.empty ++ partW k ++ " ").length ≤ 20 ∧ Str.empty ++ partW k ++ " " = partW k ++ " " := by decide +kernel
def NotPartH (K : PySem.W.Frag) (H : Hp) (v : V) : Prop := (∃ ty, TyX K H v (.type ty) ∧ kitB ty "str" = some false) ∨ ∃ z : Str, v = .str z ∧ z ∉ words6
def spWays (K : PySem.W.Frag) : Sp := fun vs H Q E => ∃ v, vs = [v] ∧
  ((∃ k, k < 6 ∧ v = .str (partW k) ∧ ∀ p, H p = none → Q (.ref p) (upd H p (.lst ((waysOf k).map V.str)))) ∨
   (NotPartH K H v ∧ ∀ d H', H d = none → Same H H' → H' d = some (.xd [("found", v)]) → E (.ref (He.ga K "NoPart")) (some d) H'))
theorem inV_words {z : Str} : inV (.str z) (words6.map V.str) = decide (z ∈ words6) := by
  unfold inV
  rw [List.any_map]
  by_cases h : z ∈ words6
  · rw [decide_eq_true h]
    exact List.any_eq_true.mpr ⟨z, h, by simp [eqV]⟩
  · rw [decide_eq_false h, Bool.eq_false_iff]
    intro hh
    obtain ⟨y, hy, e⟩ := List.any_eq_true.mp hh
    have e2 : y = z := by simpa [eqV] using e
    exact h (e2 ▸ hy)
theorem part_in {k : Nat} (hk : k < 6) : partW k ∈ words6 := List.mem_map.mpr ⟨k, List.mem_range.mpr hk, rfl⟩
theorem words_flat : (words6.map V.str).all flatV = true := by decide +kernel
theorem ok_ways (t : T K mg) : Ok P w K mg base (L2.CX P w) 3 (He.ga K "ways") "ways" ["part"] (spWays K) := by
  obtain ⟨fd, F⟩ := t.d_ways
  refine Ok.mkX F t.g_ways sc_ways (F.binds fun _ _ _ _ _ _ us hl => match us, hl with | [_], _ => rfl) (fun vs H Q E h => ?_) (fun cdv A outer s H vs Q E hr h => ?_)
  · obtain ⟨v, rfl, _⟩ := h
    rfl
  · obtain ⟨v, rfl, h⟩ := h
    refine ⟨_, (pss_cons (ps_if (PW.pt (pw_or (pt_not (pt_val (pe_callB call_isi (by rfl) t.z_isinstance (by decide +kernel) (pa_cons (pv 0) (pa_cons (pe_bltn (v := .ty "str") (by rfl) t.z_str (by kernel_rfl) rfl) pa_nil))))) (pw_or1 (pt_cmpR op_notIn_seq (pv 0) (pe_glob (v := .ref (He.ga K "PARTS")) rfl t.g_PARTS rfl) (by rfl)))))
        (pss_one (ps_raise rfl (takes_of rfl rfl rfl rfl) (pmk_NoPart t hr (by rfl) (pv 0))))
        pss_nil)
      (PSs.nox (pss_one (ps_ret (pe_lc (own := [("row", 1)]) (g := gName 1) rfl sc_ways.nd (pi_wkeys (pe_glob (v := .ref (He.ga K "KEYS")) rfl t.g_KEYS rfl)) (blkOk_by (N := N_ways) (sc := defScope s_ways) (by decide +kernel)) (fun _ _ _ _ _ => pg_name (i := 1) sc_ways.nd rfl (Or.inl rfl)) (fun _ _ _ _ _ => (pts_one (pt_val (pe_m1 PySem.F.slot_str_startswith PySem.F.type_str_startswith mt_startswith (pv 1) (pe_joined (.cons (pe_fmt (pv 0)) (.cons pe_str .nil))))))) (fun _ _ _ _ _ => (pe_slice sl_str (pv 1) (po_some (pe_op op_add (pe_callB call_len_str (by rfl) t.z_len boot_len (pa_cons (pv 0) pa_nil)) pe_int)) po_none))))))), ?_⟩
    rcases h with ⟨k, hk, rfl, q⟩ | ⟨hn, q⟩
    · -- a part: the list of its ways
      refine ⟨_, rfl, _, _, .type "str", .type "str", true, rfl, .ty _, .base (.str _), kit_ty (by decide +kernel), ?_⟩
      have SL := part_short ⟨k, hk⟩
      obtain ⟨SP1, SP2, SP3⟩ := part_sp ⟨k, hk⟩
      refine ⟨_, rfl, _, rfl, _, words6.map V.str, rfl, .inr (t.t_PARTS _), rfl, words_flat, _, rfl, ?_⟩
      rw [inV_words, decide_eq_true (part_in hk)]
      have hz : (20 : Nat) ≤ sizeLine := by rw [sizeLine_eq]; decide
      refine ⟨_, keys17, rfl, t.k_KEYS, fun D hD => lc_n (n := 17) (fun i H' => H' = upd H D (.lst (((keys17.take i).filterMap (wayIn (partW k))).map V.str))) rfl ?_ ?_ ?_ ?_⟩
      · exact fun i H' hi _ => hi
      · exact fun H' _ => Nat.le_refl 17
      · rintro i x H1 H2 hi rfl ⟨rfl, key, hkey, rfl⟩
        have hkm : key ∈ keys17 := List.mem_of_getElem? hkey
        have hkl := keys_short key hkm
        have tk : keys17.take (i + 1) = keys17.take i ++ [key] := by rw [List.take_add_one, hkey]; rfl
        refine ⟨rfl, _, rfl, ⟨_, rfl⟩, _, rfl, .inl ⟨_, rfl, Nat.le_trans SL (Nat.le_trans (by decide) hz), _, rfl, Nat.le_trans SP1 (Nat.le_trans (by decide) hz), _, rfl, Nat.le_trans SP2 hz, _, _, rfl, rfl, _, rfl, ?_⟩⟩
        rw [SP3]
        refine ite2 (fun hs => ?_) (fun hs => ?_)
        · have hs : Txt.startswith key (partW k ++ " ") = true := hs
          refine ⟨_, rfl, _, rfl, _, rfl, Nat.le_trans SL (Nat.le_trans (by decide) hz), _, _, rfl, rfl, _, rfl, _, rfl, Nat.le_trans hkl hz, _, upd_same, ?_, ?_⟩
          · have h1 : ((keys17.take i).filterMap (wayIn (partW k))).length ≤ (keys17.take i).length := List.length_filterMap_le ..
            have h2 : (keys17.take i).length ≤ i := by rw [List.length_take]; omega
            rw [List.length_map, sizeLine_eq]
            omega
          · rw [upd_upd, tk, List.filterMap_append, List.map_append]
            have : wayIn (partW k) key = some (cutS key (some ((partW k).length + 1)) none) := by unfold wayIn; rw [if_pos hs]
            simp [this]
        · have hs : ¬ Txt.startswith key (partW k ++ " ") = true := hs
          have : wayIn (partW k) key = none := by unfold wayIn; rw [if_neg hs]
          show upd H D _ = upd H D _
          rw [tk, List.filterMap_append, List.map_append]
          simp [this]
      · rintro H' rfl
        have e : (keys17.take 17).filterMap (wayIn (partW k)) = waysOf k := ways_are ⟨k, hk⟩
        rw [e]
        exact q D hD
    · rcases hn with ⟨ty, hty, hk⟩ | ⟨z, rfl, hz⟩
      · refine ⟨_, rfl, _, _, .type ty, .type "str", false, rfl, .ty _, hty, kit_ty hk, _, rfl, ?_⟩
        exact ⟨_, rfl, (by show 1 ≤ 1000; decide), fun a ha => exc_mk ha fun d H' h1 h2 h3 => q d H' h1 h2 h3⟩
      · refine ⟨_, rfl, _, _, .type "str", .type "str", true, rfl, .ty _, .base (.str _), kit_ty (by decide +kernel), ?_⟩
        refine ⟨_, rfl, _, rfl, _, words6.map V.str, rfl, .inr (t.t_PARTS _), rfl, words_flat, _, rfl, ?_⟩
        rw [inV_words, decide_eq_false hz]
        exact ⟨_, rfl, (by show 1 ≤ 1000; decide), fun a ha => exc_mk ha fun d H' h1 h2 h3 => q d H' h1 h2 h3⟩
end
end K51
set_option Elab.async false
set_option linter.all false
set_option maxRecDepth 100000
set_option maxHeartbeats 4000000
namespace K51
open PySem PySem.Spec PyProof.Rows L2 Sv
theorem paired_at {α β : Type} {R : α → β → Prop} : ∀ {xs : List α} {ys : List β} {i : Nat} {x : α}, Paired R xs ys → xs[i]? = some x → ∃ y, ys[i]? = some y ∧ R x y
  | _, _, 0, _, .cons r _, h => ⟨_, rfl, by cases h; exact r⟩
  | _, _, i + 1, _, .cons _ t, h => paired_at (i := i) t h
/-! ### the things that are refused: data that stays, or the one list that may be written -/
structure At (G : Hp) (m : Option Addr) (H : Hp) : Prop where
  g : Same G H
  m : ∀ a, m = some a → ∃ xs : List Str, H a = some (.lst (xs.map V.str))
theorem At.mono {G H H' : Hp} {m : Option Addr} (h : At G m H) (e : Same H H') : At G m H' := ⟨h.g.trans e, fun a ha => let ⟨xs, z⟩ := h.m a ha; ⟨xs, e a _ z⟩⟩
inductive Thing (K : PySem.W.Frag) (G : Hp) (m : Option Addr) : V → Prop
  | flat {v : V} {d : PyData} : Flat1 v d → Thing K G m v
  | lst {a : Addr} : m = some a → Thing K G m (.ref a)
  | dict {a : Addr} {kvs : List (Key × V)} : G a = some (.dK kvs) → Thing K G m (.ref a)
  | tup {a : Addr} {xs : List V} : SqT K G a xs → Thing K G m (.ref a)
/-- what cannot be a step -/
inductive NotStep (K : PySem.W.Frag) (G : Hp) (m : Option Addr) : V → Prop
  | flat {v : V} {d : PyData} : Flat1 v d → NotStep K G m v
  | lst {a : Addr} : m = some a → NotStep K G m (.ref a)
  | dict {a : Addr} {kvs : List (Key × V)} : G a = some (.dK kvs) → NotStep K G m (.ref a)
  | tup {a : Addr} {xs : List V} : SqT K G a xs → xs.length ≠ 2 → NotStep K G m (.ref a)
inductive Bad (K : PySem.W.Frag) (G : Hp) (m : Option Addr) (st : List (Str × Str)) : V → Str → V → Prop
  | step {v : V} : NotStep K G m v → Bad K G m st v "NoStep" v
  | part {a : Addr} {p y : V} : SqT K G a [p, y] → Thing K G m p → (∀ k, k < 6 → p ≠ .str (partW k)) → Bad K G m st (.ref a) "NoPart" p
  | way {a : Addr} {k : Nat} {y : V} : SqT K G a [.str (partW k), y] → k < 6 → Thing K G m y → (∀ z, y = .str z → z ∉ waysOf k) → Bad K G m st (.ref a) "NoWay" y
  | twice {a : Addr} {k : Nat} {s : Str} : SqT K G a [.str (partW k), .str s] → k < 6 → s ∈ waysOf k → partW k ∈ st.map (·.1) → Bad K G m st (.ref a) "Twice" (.str (partW k))
theorem tyT {K : PySem.W.Frag} {H : Hp} {a : Addr} {xs : List V} (h : SqT K H a xs) : TyX K H (.ref a) (.type "tuple") := by
  rcases h with (h | ⟨o, h⟩) | ⟨o, its, n, h1, h2, _⟩
  · exact .base (.tup h)
  · exact .fTuple h
  · exact .kTuple h1 h2
theorem tyL {K : PySem.W.Frag} {H : Hp} {a : Addr} {xs : List V} (h : SqL K H a xs) : TyX K H (.ref a) (.type "list") := by
  rcases h with (h | ⟨o, h⟩) | ⟨o, its, n, h1, h2, _⟩
  · exact .base (.lst h)
  · exact .base (.frz h)
  · exact .kList h1 h2
/-- a flat thing's type -/
theorem tyF {K : PySem.W.Frag} {H : Hp} {v : V} {d : PyData} (h : Flat1 v d) : ∃ ty, TyX K H v (.type ty) ∧ kitB ty "tuple" = some false ∧ kitB ty "list" = some false ∧ (kitB ty "str" = some false ∨ ∃ z, v = .str z) := by
  cases h with
  | non => exact ⟨_, .base .non, by decide +kernel, by decide +kernel, .inl (by decide +kernel)⟩
  | bl b => exact ⟨_, .base (.bl b), by decide +kernel, by decide +kernel, .inl (by decide +kernel)⟩
  | int i => exact ⟨_, .base (.int i), by decide +kernel, by decide +kernel, .inl (by decide +kernel)⟩
  | str z => exact ⟨_, .base (.str z), by decide +kernel, by decide +kernel, .inr ⟨z, rfl⟩⟩
section
variable {P : Program} {w : World} {K : PySem.W.Frag} {mg : Str → Option Value} {base : Heap}
theorem Thing.notPart {G H : Hp} {m : Option Addr} {v : V} (h : Thing K G m v) (a : At G m H) (hn : ∀ k, k < 6 → v ≠ .str (partW k)) : NotPartH K H v := by
  cases h with
  | flat f =>
    obtain ⟨ty, h1, _, _, h2 | ⟨z, rfl⟩⟩ := tyF (K := K) (H := H) f
    · exact .inl ⟨ty, h1, h2⟩
    · refine .inr ⟨z, rfl, fun hz => ?_⟩
      obtain ⟨k, hk, e⟩ := List.mem_map.mp hz
      exact hn k (List.mem_range.mp hk) (by rw [e])
  | lst e =>
    obtain ⟨xs, hx⟩ := a.m _ e
    exact .inl ⟨_, .base (.lst hx), by decide +kernel⟩
  | dict e => exact .inl ⟨_, .base (.dK (a.g _ _ e)), by decide +kernel⟩
  | tup e => exact .inl ⟨_, tyT (same_t a.g e), by decide +kernel⟩
/-- the way is none of the part's -/
theorem Thing.notWay {X : Cx} {G H : Hp} {m : Option Addr} {v : V} {k : Nat} {p : Addr} {Q : VK} (h : Thing X.K G m v) (a : At G m H) (hn : ∀ z, v = .str z → z ∉ waysOf k) (hp : H p = some (.lst ((waysOf k).map V.str))) (q : Q (.bl true) H) :
    rIn X.K true v (.ref p) H Q ∨ rNotInH X.K v (.ref p) H Q := by
  have fl : ((waysOf k).map V.str).all flatV = true := by
    rw [List.all_map]
    exact List.all_eq_true.mpr fun _ _ => rfl
  cases h with
  | flat f =>
    refine .inl ⟨p, _, rfl, .inl (SqL.of hp), ?_, fl, ?_⟩
    · cases f <;> rfl
    · have : inV v ((waysOf k).map V.str) = false := by
        unfold inV
        rw [List.any_map, Bool.eq_false_iff]
        intro hh
        obtain ⟨y, hy, e⟩ := List.any_eq_true.mp hh
        cases f with
        | non => simp [eqV] at e
        | bl b => simp [eqV] at e
        | int i => simp [eqV] at e
        | str z =>
          have e2 : y = z := by simpa [eqV] using e
          exact hn z rfl (e2 ▸ hy)
      rw [this]
      exact q
  | lst e =>
    obtain ⟨xs, hx⟩ := a.m _ e
    exact .inr ⟨_, p, _, rfl, rfl, SqL.of hp, .lst (SqL.of hx), q⟩
  | dict e => exact .inr ⟨_, p, _, rfl, rfl, SqL.of hp, .dict (a.g _ _ e), q⟩
  | tup e => exact .inr ⟨_, p, _, rfl, rfl, SqL.of hp, .tup (same_t a.g e), q⟩
theorem isWay {X : Cx} {H : Hp} {s : Str} {k : Nat} {p : Addr} {Q : VK} (hs : s ∈ waysOf k) (hp : H p = some (.lst ((waysOf k).map V.str))) (q : Q (.bl false) H) :
    rIn X.K true (.str s) (.ref p) H Q ∨ rNotInH X.K (.str s) (.ref p) H Q := by
  refine .inl ⟨p, _, rfl, .inl (SqL.of hp), rfl, ?_, ?_⟩
  · rw [List.all_map]
    exact List.all_eq_true.mpr fun _ _ => rfl
  · have : inV (.str s) ((waysOf k).map V.str) = true := by
      unfold inV
      rw [List.any_map]
      exact List.any_eq_true.mpr ⟨s, hs, by simp [eqV]⟩
    rw [this]
    exact q
def spNeed (K : PySem.W.Frag) : Sp := fun vs H Q E => ∃ (G : Hp) (m : Option Addr) (v : V) (f : Addr) (xs : List V) (st : List (Str × Str)), vs = [v, .ref f] ∧ At G m H ∧ AreSteps K G xs st ∧ SqL K H f xs ∧ st.length ≤ 6 ∧
  ((∃ p, IsStep K G v p ∧ StepOk p ∧ p.1 ∉ st.map (·.1) ∧ ∀ H', Same H H' → Q .non H') ∨
   (∃ C y, Bad K G m st v C y ∧ ∀ d H', H d = none → Same H H' → H' d = some (.xd [("found", y)]) → E (.ref (He.ga K C)) (some d) H'))
theorem ok_need_step (t : T K mg) : Ok P w K mg base (L2.CX P w) 4 (He.ga K "need_step") "need_step" ["step", "ahead"] (spNeed K) := by
  obtain ⟨fd, F⟩ := t.d_need_step
  have O_ways := ok_ways (P := P) (w := w) (base := base) t
  refine Ok.mkX F t.g_need_step sc_need_step (F.binds fun _ _ _ _ _ _ us hl => match us, hl with | [_, _], _ => rfl) (fun vs H Q E h => ?_) (fun cdv A outer s H vs Q E hr h => ?_)
  · obtain ⟨G, m, v, f, xs, st, rfl, _⟩ := h
    rfl
  · obtain ⟨G, m, v, f, xs, st, rfl, hA, hS, hf, hl, h⟩ := h
    refine ⟨_, (pss_cons (ps_if (PW.pt (pw_or (pt_not (pt_val (pe_callB call_isi (by rfl) t.z_isinstance (by decide +kernel) (pa_cons (pv 0) (pa_cons (pe_bltn (v := .ty "tuple") (by rfl) t.z_tuple (by kernel_rfl) rfl) pa_nil))))) (pw_or1 (pt_cmpR op_ne (pe_callB call_len_seq (by rfl) t.z_len boot_len (pa_cons (pv 0) pa_nil)) pe_int (nomark _)))))
        (pss_one (ps_raise rfl (takes_of rfl rfl rfl rfl) (pmk_NoStep t (hr.mono (by decide)) (by rfl) (pv 0))))
        pss_nil)
      (pss_cons (ps_asg (pv 0) (pg_tup rfl (pgs_cons (pg_name (i := 2) sc_need_step.nd rfl (Or.inl rfl)) (pgs_cons (pg_name (i := 3) sc_need_step.nd rfl (Or.inl rfl)) pgs_nil))))
      (pss_cons (ps_if (pt_cmpR (op_notInW (Nat.lt_of_le_of_lt (Nat.add_le_add_left (by decide : 1 ≤ 64) _) hr.units)) (pv 3) (pe_callN O_ways hr (passes_call (takes_of rfl rfl rfl rfl) fun _ _ _ _ z => z) (pa_cons (pv 2) pa_nil)) (by rfl))
        (pss_one (ps_raise rfl (takes_of rfl rfl rfl rfl) (pmk_NoWay t (hr.mono (by decide)) (by rfl) (pv 3))))
        pss_nil)
      (pss_one (ps_if (pt_cmpR op_in_seq (pv 2) (pe_lc (own := [("row", 4)]) (g := gName 4) rfl sc_need_step.nd (pi_list (pv 1)) (blkOk_by (N := N_need_step) (sc := defScope s_need_step) (by decide +kernel)) (fun _ _ _ _ _ => pg_name (i := 4) sc_need_step.nd rfl (Or.inl rfl)) (fun _ _ _ _ _ => pts_nil) (fun _ _ _ _ _ => (pe_ix (r := rIxT K) ix_tup (pv 4) pe_int (fun _ _ => rfl)))) (by rfl))
        (pss_one (ps_raise rfl (takes_of rfl rfl rfl rfl) (pmk_Twice t (hr.mono (by decide)) (by rfl) (pv 2))))
        pss_nil))))), ?_⟩
    have S6 := hS.length
    have hz : (20 : Nat) ≤ sizeLine := by rw [sizeLine_eq]; decide
    have front : (∃ (a : Addr) (k : Nat) (z : Str), v = .ref a ∧ SqT K H a [.str (partW k), .str z] ∧ k < 6 ∧ z ∈ waysOf k ∧ (partW k ∉ st.map (·.1) → ∀ H', Same H H' → Q .non H') ∧
          (partW k ∈ st.map (·.1) → ∀ d H', H d = none → Same H H' → H' d = some (.xd [("found", .str (partW k))]) → E (.ref (He.ga K "Twice")) (some d) H')) ∨
        (NotStep K G m v ∧ ∀ d H', H d = none → Same H H' → H' d = some (.xd [("found", v)]) → E (.ref (He.ga K "NoStep")) (some d) H') ∨
        (∃ (a : Addr) (p y : V), v = .ref a ∧ SqT K H a [p, y] ∧ Thing K G m p ∧ (∀ k, k < 6 → p ≠ .str (partW k)) ∧ ∀ d H', H d = none → Same H H' → H' d = some (.xd [("found", p)]) → E (.ref (He.ga K "NoPart")) (some d) H') ∨
        (∃ (a : Addr) (k : Nat) (y : V), v = .ref a ∧ SqT K H a [.str (partW k), y] ∧ k < 6 ∧ Thing K G m y ∧ (∀ z, y = .str z → z ∉ waysOf k) ∧ ∀ d H', H d = none → Same H H' → H' d = some (.xd [("found", y)]) → E (.ref (He.ga K "NoWay")) (some d) H') := by
      rcases h with ⟨⟨p1, p2⟩, ⟨a, rfl, hT⟩, ⟨k, hk, e1, e2⟩, hn, q⟩ | ⟨C, y, hb, q⟩
      · dsimp only at e1 e2 hn hT
        subst e1
        exact .inl ⟨a, k, p2, rfl, same_t hA.g hT, hk, e2, fun _ => q, fun h => absurd h hn⟩
      · cases hb with
        | step h => exact .inr (.inl ⟨h, q⟩)
        | part h1 h2 h3 => exact .inr (.inr (.inl ⟨_, _, _, rfl, same_t hA.g h1, h2, h3, q⟩))
        | way h1 h2 h3 h4 => exact .inr (.inr (.inr ⟨_, _, _, rfl, same_t hA.g h1, h2, h3, h4, q⟩))
        | twice h1 h2 h3 h4 => exact .inl ⟨_, _, _, rfl, same_t hA.g h1, h2, h3, fun h => absurd h4 h, fun _ => q⟩
    rcases front with ⟨a, k, z, rfl, hT, hk, hzw, q1, q2⟩ | ⟨hb, q⟩ | ⟨a, p, y, rfl, hT, hth, hnp, q⟩ | ⟨a, k, y, rfl, hT, hk, hth, hnw, q⟩
    · refine ⟨_, rfl, _, _, .type "tuple", .type "tuple", true, rfl, .ty _, tyT hT, kit_ty (by decide +kernel), _, rfl, _, rfl, a, _, rfl, .inr hT, rfl, _, rfl, ?_⟩
      refine ite2 (fun hc => absurd hc (by simp)) fun _ => ?_
      refine ⟨_, rfl, a, _, rfl, hT, rfl, _, _, rfl, _, _, rfl, rfl, _, rfl, _, rfl, _, rfl, .inl ⟨k, hk, rfl, fun W hW => isWay hzw upd_same ⟨_, rfl, ?_⟩⟩⟩
      have e0 := same_new (o := .lst ((waysOf k).map V.str)) hW
      have fq := e0.seq hf
      have aS := (hS.mono (hA.g.trans e0))
      generalize upd H W _ = H1 at e0 fq aS ⊢
      refine ⟨_, rfl, _, rfl, f, rfl, ⟨xs, fq⟩, fun D hD => lc_n (n := xs.length) (fun i H' => H' = upd H1 D (.lst ((st.take i).map fun p => V.str p.1))) rfl ?_ ?_ ?_ ?_⟩
      · rintro i H' hi rfl
        exact ⟨xs, xs[i], (same_new hD).seq fq, List.getElem?_eq_getElem hi⟩
      · rintro H' rfl
        exact ⟨xs, (same_new hD).seq fq, Nat.le_refl _⟩
      · rintro i x H1' H2' hi rfl ⟨rfl, hx⟩
        have hx := hx xs ((same_new hD).seq fq)
        obtain ⟨pq, hpq, a1, rfl, hT1⟩ := paired_at aS hx
        refine ⟨rfl, _, rfl, a1, _, _, _, rfl, rfl, same_t (same_new hD) hT1, atI_nat (j := 0) rfl, _, upd_same, ?_, ?_⟩
        · rw [List.length_map, List.length_take]
          omega
        · have tk : st.take (i + 1) = st.take i ++ [pq] := by rw [List.take_add_one, hpq]; rfl
          show upd _ D _ = upd _ D _
          rw [upd_upd, tk, List.map_append]
          rfl
      · rintro H' rfl
        have hlen : xs.length = st.length := Paired.length hS
        refine ⟨D, _, rfl, .inl (SqL.of upd_same), rfl, ?_, _, rfl, ?_⟩
        · rw [List.all_map]
          exact List.all_eq_true.mpr fun _ _ => rfl
        have ein : inV (.str (partW k)) ((st.take xs.length).map fun p => V.str p.1) = decide (partW k ∈ st.map (·.1)) := by
          rw [hlen, List.take_length]
          unfold inV
          rw [List.any_map]
          by_cases hm : partW k ∈ st.map (·.1)
          · rw [decide_eq_true hm]
            obtain ⟨p, hp, e⟩ := List.mem_map.mp hm
            exact List.any_eq_true.mpr ⟨p, hp, by simp [eqV, e]⟩
          · rw [decide_eq_false hm, Bool.eq_false_iff]
            intro hh
            obtain ⟨p, hp, e⟩ := List.any_eq_true.mp hh
            have e2 : p.1 = partW k := by simpa [eqV] using e
            exact hm (List.mem_map.mpr ⟨p, hp, e2⟩)
        have eD := e0.trans (same_new (o := .lst ((st.take xs.length).map fun p => V.str p.1)) hD)
        refine ite2 (fun hc => ?_) (fun hc => ?_)
        · have hm : partW k ∈ st.map (·.1) := of_decide_eq_true (ein ▸ hc)
          exact ⟨_, rfl, (by show 1 ≤ 1000; decide), fun a ha => exc_mk ha fun d H' h1 h2 h3 => q2 hm d H' (eD.free h1) (eD.trans h2) h3⟩
        · have hm : partW k ∉ st.map (·.1) := of_decide_eq_false (ein ▸ Bool.eq_false_iff.mpr hc)
          exact q1 hm _ eD
    · cases hb with
      | flat f1 =>
        obtain ⟨ty, h1, h2, _⟩ := tyF (K := K) (H := H) f1
        refine ⟨_, rfl, _, _, .type ty, .type "tuple", false, rfl, .ty _, h1, kit_ty h2, _, rfl, ?_⟩
        exact ⟨_, rfl, (by show 1 ≤ 1000; decide), fun a ha => exc_mk ha q⟩
      | lst e =>
        obtain ⟨ws, hx⟩ := hA.m _ e
        refine ⟨_, rfl, _, _, .type "list", .type "tuple", false, rfl, .ty _, .base (.lst hx), kit_ty (by decide +kernel), _, rfl, ?_⟩
        exact ⟨_, rfl, (by show 1 ≤ 1000; decide), fun a ha => exc_mk ha q⟩
      | dict e =>
        refine ⟨_, rfl, _, _, .type "dict", .type "tuple", false, rfl, .ty _, .base (.dK (hA.g _ _ e)), kit_ty (by decide +kernel), _, rfl, ?_⟩
        exact ⟨_, rfl, (by show 1 ≤ 1000; decide), fun a ha => exc_mk ha q⟩
      | tup e hne =>
        have hT := same_t hA.g e
        refine ⟨_, rfl, _, _, .type "tuple", .type "tuple", true, rfl, .ty _, tyT hT, kit_ty (by decide +kernel), _, rfl, _, rfl, _, _, rfl, .inr hT, rfl, _, rfl, ?_⟩
        refine ite2 (fun hc => ?_) fun hc => absurd ?_ hc
        · exact ⟨_, rfl, (by show 1 ≤ 1000; decide), fun a ha => exc_mk ha q⟩
        · simp
          omega
    · refine ⟨_, rfl, _, _, .type "tuple", .type "tuple", true, rfl, .ty _, tyT hT, kit_ty (by decide +kernel), _, rfl, _, rfl, a, _, rfl, .inr hT, rfl, _, rfl, ?_⟩
      refine ite2 (fun hc => absurd hc (by simp)) fun _ => ?_
      exact ⟨_, rfl, a, _, rfl, hT, rfl, _, _, rfl, _, _, rfl, rfl, _, rfl, _, rfl, _, rfl, .inr ⟨hth.notPart hA hnp, q⟩⟩
    · refine ⟨_, rfl, _, _, .type "tuple", .type "tuple", true, rfl, .ty _, tyT hT, kit_ty (by decide +kernel), _, rfl, _, rfl, a, _, rfl, .inr hT, rfl, _, rfl, ?_⟩
      refine ite2 (fun hc => absurd hc (by simp)) fun _ => ?_
      refine ⟨_, rfl, a, _, rfl, hT, rfl, _, _, rfl, _, _, rfl, rfl, _, rfl, _, rfl, _, rfl, .inl ⟨k, hk, rfl, fun W hW => Thing.notWay hth (hA.mono (same_new hW)) hnw upd_same ⟨_, rfl, ?_⟩⟩⟩
      exact ⟨_, rfl, (by show 1 ≤ 1000; decide), fun a ha => exc_mk ha fun d H' h1 h2 h3 => q d H' ((same_new hW).free h1) ((same_new hW).trans h2) h3⟩
end
end K51
set_option Elab.async false
set_option linter.all false
set_option maxRecDepth 100000
set_option maxHeartbeats 4000000
namespace K51
open PySem PySem.Spec PyProof.Rows L2 Sv
/-- what is refused as the steps of a rule: the error's name, what it tells -/
inductive Whole (K : PySem.W.Frag) (G : Hp) (m : Option Addr) : V → Str → V → Prop
  | flat {v : V} {d : PyData} : Flat1 v d → Whole K G m v "NoSteps" v
  | dict {a : Addr} {kvs : List (Key × V)} : G a = some (.dK kvs) → Whole K G m (.ref a) "NoSteps" (.ref a)
  | seq {a : Addr} {xs : List V} : SqL K G a xs ∨ SqT K G a xs → xs.length = 0 ∨ 6 < xs.length → Whole K G m (.ref a) "NoSteps" (.ref a)
  | row {a : Addr} {pre post : List V} {v : V} {st : List (Str × Str)} {C : Str} {y : V} : SqL K G a (pre ++ v :: post) ∨ SqT K G a (pre ++ v :: post) → (pre ++ v :: post).length ≤ 6 → AreSteps K G pre st → Good st → Bad K G m st v C y → Whole K G m (.ref a) C y
def spInit (K : PySem.W.Frag) : Sp := fun vs H Q E => ∃ (G : Hp) (m : Option Addr) (x dx : Addr) (v : V), vs = [.ref x, v] ∧ At G m H ∧ G x = none ∧ H x = some (.ins (He.ga K "Rule") dx []) ∧
  ((∃ a xs st, v = .ref a ∧ (SqL K H a xs ∨ SqT K H a xs) ∧ AreSteps K G xs st ∧ Good st ∧ 1 ≤ st.length ∧ st.length ≤ 6 ∧
      ∀ f H', H f = none → (∀ b u, b ≠ x → H b = some u → H' b = some u) → H' x = some (.ins (He.ga K "Rule") dx [("kept_steps", .ref f)]) → H' f = some (.lst xs) → Q .non H') ∨
   (∃ C y, Whole K G m v C y ∧ ∀ d H', H d = none → Same H H' → H' d = some (.xd [("found", y)]) → E (.ref (He.ga K C)) (some d) H'))
section
variable {P : Program} {w : World} {K : PySem.W.Frag} {mg : Str → Option Value} {base : Heap}
theorem kitLT {ty : String} {b1 b2 : Bool} (h1 : kitB ty "list" = some b1) (h2 : kitB ty "tuple" = some b2) : PySem.W.kitAny K (.type ty) [.type "list", .type "tuple"] = some (b1 || b2) := by
  refine kitAny_cons (kit_ty h1) (fun e => ?_) (fun e => by rw [e]; rfl)
  refine kitAny_cons (kit_ty h2) (fun e2 => ?_) (fun e2 => by rw [e2]; simp)
  rw [e, e2]
  rfl
def iSeq (K : PySem.W.Frag) (tl : TE) : TI := fun σ H R => iList K tl σ H R ∨ iTup K tl σ H R
theorem pi_seq {X : Cx} {tg l : Expr} {tl : TE} (hl : PE X l tl) : PI X tg l (iSeq X.K tl) := ⟨fun pins s σ H R I h => h.elim ((pi_list hl).run pins s σ H R I) ((pi_tup hl).run pins s σ H R I)⟩
theorem same_put {H H' : Hp} {a : Addr} {o : HO} (n : H a = none) (e : Same H H') : Same H (upd H' a o) := fun b u z => by
  rw [upd_ne (ne_of_none z n)]
  exact e b u z
theorem paired_take {α β : Type} {R : α → β → Prop} : ∀ {xs : List α} {ys : List β} (i : Nat), Paired R xs ys → Paired R (xs.take i) (ys.take i)
  | _, _, 0, _ => by rw [List.take_zero, List.take_zero]; exact .nil
  | _, _, _ + 1, .nil => by rw [List.take_nil, List.take_nil]; exact .nil
  | _, _, i + 1, .cons r t => .cons r (paired_take i t)
theorem notin_take {st : List (Str × Str)} {i : Nat} {p : Str × Str} (nd : (st.map (·.1)).Nodup) (h : st[i]? = some p) : p.1 ∉ (st.take i).map (·.1) := by
  have hi : i < st.length := (List.getElem?_eq_some_iff.mp h).1
  have e : st = st.take i ++ (p :: st.drop (i + 1)) := by
    have h1 := (List.take_append_drop i st).symm
    rw [List.drop_eq_getElem_cons hi] at h1
    rw [(List.getElem?_eq_some_iff.mp h).2] at h1
    exact h1
  rw [e, List.map_append, List.map_cons, List.nodup_append] at nd
  exact fun hm => nd.2.2 _ hm _ (List.mem_cons_self ..) rfl
theorem ok_init (t : T K mg) : ∃ fd, FnOk P w K mg base (L2.CX P w) 5 (He.ma K (He.ga K "Rule") "__init__") fd ["self", "steps"] (spInit K) ∧ Binds K fd ["self", "steps"] [] := by
  obtain ⟨fd, F⟩ := t.d_Rule___init__
  obtain ⟨tm, gm⟩ := t.g_MOST
  have O_need_step := ok_need_step (P := P) (w := w) (base := base) t
  refine ⟨fd, F.okX sc_Rule___init__ (fun vs H Q E h => ?_) (fun cdv A outer s H vs Q E hr h => ?_), F.binds fun _ _ _ _ _ _ us hl => match us, hl with | [_, _], _ => rfl⟩
  · obtain ⟨G, m, x, dx, v, rfl, _⟩ := h
    rfl
  · obtain ⟨G, m, x, dx, v, rfl, hA, gx, hx, h⟩ := h
    refine ⟨_, (pss_cons (ps_if (PW.pt (pw_or (pt_not (pt_val (pe_callB call_isiT (by rfl) t.z_isinstance (by decide +kernel) (pa_cons (pv 1) (pa_cons (pe_tup (pa_cons (pe_bltn (v := .ty "list") (by rfl) t.z_list (by kernel_rfl) rfl) (pa_cons (pe_bltn (v := .ty "tuple") (by rfl) t.z_tuple (by kernel_rfl) rfl) pa_nil))) pa_nil))))) (pw_or1 (pt_not (pt_chain op_le op_le pe_int (pe_callB call_len_seq (by rfl) t.z_len boot_len (pa_cons (pv 1) pa_nil)) (pe_glob (v := .int 6) rfl gm ⟨_, rfl⟩))))))
        (pss_one (ps_raise rfl (takes_of rfl rfl rfl rfl) (pmk_NoSteps t (hr.mono (by decide)) (by rfl) (pv 1))))
        pss_nil)
      (pss_cons (ps_set (i := 2) sc_Rule___init__.nd rfl (Or.inl rfl) (pe_lst pa_nil))
      (pss_cons (ps_for (passes_of rfl) rfl (pi_seq (pv 1)) (pg_name (i := 3) sc_Rule___init__.nd rfl (Or.inl rfl))
        (pss_cons (ps_expr (pe_callN O_need_step hr (passes_call (takes_of rfl rfl rfl rfl) fun _ _ _ _ z => z) (pa_cons (pv 3) (pa_cons (pv 2) pa_nil))))
        (pss_one (ps_expr (pe_bm PySem.F.plainAttrs_list PySem.F.slot_list_append PySem.F.type_list_append mt_append (pv 2) (pa_cons (pv 3) pa_nil))))))
      (pss_one (ps_fld (pv 0) (pv 2) rfl))))), ?_⟩
    have hz : (20 : Nat) ≤ sizeLine := by rw [sizeLine_eq]; decide
    -- behind the test: the loop
    have loop : ∀ (a : Addr) (xs pre rest : List V) (st : List (Str × Str)) (H2 : Hp) (fa : Addr) (J : It) (D : Ends), Same H H2 → H2 fa = none → xs = pre ++ rest → AreSteps K G pre st → Good st → pre.length ≤ 6 →
        (∀ i H', Same H2 H' → i < xs.length → J.go i H') → (∀ i H' z H'', Same H2 H' → J.yld i H' z H'' → H'' = H' ∧ xs[i]? = some z) → (∀ H', Same H2 H' → J.stop xs.length H') →
        ((rest = [] ∧ ∀ σ H', (∃ tu, σ = [some (.ref x), some (.ref a), some (.ref fa), tu]) → Same H2 H' → H' fa = some (.lst xs) → D.nx σ H') ∨
          ∃ v post C y, rest = v :: post ∧ Bad K G m st v C y ∧ ∀ d H', H d = none → Same H H' → H' d = some (.xd [("found", y)]) → E (.ref (He.ga K C)) (some d) H') →
        ∃ W : Nat → Nat → L2.St → Hp → Prop, (∃ mm, W 0 mm [some (.ref x), some (.ref a), some (.ref fa), none] (upd H2 fa (.lst []))) ∧ ∀ i mm σ H', W i mm σ H' →
          (J.stop i H' ∧ D.nx σ H') ∨ (J.go i H' ∧ ∃ N : L2.St → Hp → Prop, (∀ σ' H', N σ' H' → ∃ m', m' < mm ∧ W (i + 1) m' σ' H') ∧ ∀ z H'', J.yld i H' z H'' → gName 3 z σ H'' fun σ2 H3 =>
            tSeq (tDrop (tCall (spNeed K) [] E (tCons (tVar 3) (tCons (tVar 2) tNil)))) (tDrop (tBM K "list" rAppend (tVar 2) (tCons (tVar 3) tNil))) { D with nx := N, ct := N, bk := D.nx } σ2 H3) := by
      intro a xs pre rest st H2 fa J D e2 hfa hxs hS gd hp6 hgo hyl hst hend
      have hl : pre.length = st.length := Paired.length hS
      refine ⟨fun i mm σ H' => mm = pre.length - i ∧ i ≤ pre.length ∧ (∃ tu, σ = [some (.ref x), some (.ref a), some (.ref fa), tu]) ∧ Same H2 H' ∧ H' fa = some (.lst (pre.take i)), ⟨_, rfl, Nat.zero_le _, ⟨_, rfl⟩, same_new hfa, upd_same⟩, ?_⟩
      rintro i mm σ H' ⟨rfl, hi, ⟨tu, rfl⟩, e3, hF⟩
      have hA' := (hA.mono e2).mono e3
      by_cases hlt : i < pre.length
      · refine .inr ⟨hgo i H' e3 (by rw [hxs, List.length_append]; omega), fun σ' H4 => (∃ tu, σ' = [some (.ref x), some (.ref a), some (.ref fa), tu]) ∧ Same H2 H4 ∧ H4 fa = some (.lst (pre.take (i + 1))), fun σ' H4 h4 => ⟨_, by omega, rfl, by omega, h4⟩, ?_⟩
        intro z H4 hy
        obtain ⟨rfl, hz1⟩ := hyl i H' z _ e3 hy
        have hz2 : pre[i]? = some z := by rw [hxs, List.getElem?_append_left hlt] at hz1; exact hz1
        obtain ⟨p, hp1, hp2⟩ := paired_at hS hz2
        refine ⟨_, rfl, _, rfl, G, m, z, fa, pre.take i, st.take i, rfl, hA', paired_take i hS, SqL.of hF, ?_, .inl ⟨p, hp2, gd.ok p (List.mem_of_getElem? hp1), notin_take gd.nd hp1, fun H5 e5 => ?_⟩⟩
        · rw [List.length_take]
          omega
        · refine ⟨_, rfl, .inl ⟨rfl, _, SqL.of (e5 _ _ hF)⟩, _, rfl, fa, pre.take i, z, rfl, rfl, e5 _ _ hF, ?_, ⟨_, rfl⟩, same_put hfa (e3.trans e5), ?_⟩
          · rw [List.length_take]
            omega
          · rw [upd_same, List.take_add_one, hz2]
            rfl
      · obtain rfl : i = pre.length := by omega
        rcases hend with ⟨rfl, q⟩ | ⟨v, post, C, y, rfl, hb, q⟩
        · rw [List.append_nil] at hxs
          subst hxs
          exact .inl ⟨hst H' e3, q _ H' ⟨tu, rfl⟩ e3 (by rw [hF, List.take_length])⟩
        · refine .inr ⟨hgo _ H' e3 (by rw [hxs, List.length_append, List.length_cons]; omega), fun _ _ => False, fun _ _ h => h.elim, ?_⟩
          intro z H4 hy
          obtain ⟨rfl, hz1⟩ := hyl _ H' z _ e3 hy
          have hz2 : z = v := by
            rw [hxs, List.getElem?_append_right (Nat.le_refl _), Nat.sub_self] at hz1
            exact (Option.some.inj hz1).symm
          subst hz2
          rw [List.take_length] at hF
          exact ⟨_, rfl, _, rfl, G, m, z, fa, pre, st, rfl, hA', hS, SqL.of hF, by omega, .inr ⟨C, y, hb, fun d H5 h1 h2 h3 => q d H5 ((e2.trans e3).free h1) ((e2.trans e3).trans h2) h3⟩⟩
    have front : (∃ (a : Addr) (xs pre rest : List V) (st : List (Str × Str)), v = .ref a ∧ (SqL K H a xs ∨ SqT K H a xs) ∧ xs = pre ++ rest ∧ AreSteps K G pre st ∧ Good st ∧ 1 ≤ xs.length ∧ xs.length ≤ 6 ∧
          ((rest = [] ∧ ∀ f H', H f = none → (∀ b u, b ≠ x → H b = some u → H' b = some u) → H' x = some (.ins (He.ga K "Rule") dx [("kept_steps", .ref f)]) → H' f = some (.lst xs) → Q .non H') ∨
            ∃ v post C y, rest = v :: post ∧ Bad K G m st v C y ∧ ∀ d H', H d = none → Same H H' → H' d = some (.xd [("found", y)]) → E (.ref (He.ga K C)) (some d) H')) ∨
        ((∀ d H', H d = none → Same H H' → H' d = some (.xd [("found", v)]) → E (.ref (He.ga K "NoSteps")) (some d) H') ∧
          ((∃ (a : Addr) (xs : List V), v = .ref a ∧ (SqL K H a xs ∨ SqT K H a xs) ∧ (xs.length = 0 ∨ 6 < xs.length)) ∨ (∃ d, Flat1 v d) ∨ ∃ (a : Addr) (kvs : List (Key × V)), v = .ref a ∧ H a = some (.dK kvs))) := by
      have up : ∀ {a : Addr} {xs : List V}, SqL K G a xs ∨ SqT K G a xs → SqL K H a xs ∨ SqT K H a xs := fun h => h.elim (fun z => .inl (hA.g.seq z)) (fun z => .inr (same_t hA.g z))
      rcases h with ⟨a, xs, st, rfl, hs, hS, gd, h1, h6, q⟩ | ⟨C, y, hw, q⟩
      · have hl : xs.length = st.length := Paired.length hS
        exact .inl ⟨a, xs, xs, [], st, rfl, hs, (List.append_nil xs).symm, hS, gd, by omega, by omega, .inl ⟨rfl, q⟩⟩
      · cases hw with
        | flat f => exact .inr ⟨q, .inr (.inl ⟨_, f⟩)⟩
        | dict e => exact .inr ⟨q, .inr (.inr ⟨_, _, rfl, hA.g _ _ e⟩)⟩
        | seq h1 h2 => exact .inr ⟨q, .inl ⟨_, _, rfl, up h1, h2⟩⟩
        | row h1 h2 h3 h4 h5 => exact .inl ⟨_, _, _, _, _, rfl, up h1, rfl, h3, h4, by rw [List.length_append, List.length_cons]; omega, h2, .inr ⟨_, _, _, _, rfl, h5, q⟩⟩
    rcases front with ⟨a, xs, pre, rest, st, rfl, hs, hxs, hS, gd, h1, h6, hend⟩ | ⟨q, h⟩
    · refine ⟨_, rfl, (by show 2 ≤ sizeLine; omega), fun p hp => ?_⟩
      have e1 := same_new (o := .tup [.ty "list", .ty "tuple"]) hp
      have hs1 : SqL K (upd H p (.tup [.ty "list", .ty "tuple"])) a xs ∨ SqT K (upd H p (.tup [.ty "list", .ty "tuple"])) a xs := hs.elim (fun z => .inl (e1.seq z)) (fun z => .inr (same_t e1 z))
      have hp1 : (upd H p (.tup [.ty "list", .ty "tuple"])) p = some (.tup [.ty "list", .ty "tuple"]) := upd_same
      generalize upd H p (.tup [.ty "list", .ty "tuple"]) = H1 at e1 hs1 hp1 ⊢
      have ti : rIsiT K [.ref a, .ref p] H1 (fun b H2 => b = .bl true ∧ H2 = H1) := by
        rcases hs1 with z | z
        · exact ⟨_, p, _, .type "list", _, true, rfl, hp1, .cons (.ty _) (.cons (.ty _) .nil), tyL z, kitLT (b1 := true) (b2 := false) (by decide +kernel) (by decide +kernel), rfl, rfl⟩
        · exact ⟨_, p, _, .type "tuple", _, true, rfl, hp1, .cons (.ty _) (.cons (.ty _) .nil), tyT z, kitLT (b1 := false) (b2 := true) (by decide +kernel) (by decide +kernel), rfl, rfl⟩
      obtain ⟨x1, tp, cs, ty, us, b, i1, i2, i3, i4, i5, i6, -⟩ := ti
      cases i6
      refine ⟨x1, tp, cs, ty, us, true, i1, i2, i3, i4, i5, _, rfl, _, rfl, _, xs, rfl, hs1, _, _, rfl, rfl, _, rfl, ?_⟩
      have c1 : decide ((1 : Int) ≤ (xs.length : Int)) = true := decide_eq_true (by omega)
      have c2 : decide ((xs.length : Int) ≤ 6) = true := decide_eq_true (by omega)
      rw [c1]
      refine ⟨_, _, rfl, rfl, _, rfl, ?_⟩
      rw [c2]
      refine ⟨(by show 0 ≤ sizeLine; omega), fun fa hfa => ?_⟩
      have e0 := hA.g
      have fin : ∀ {D : Ends}, (∀ H', Same H1 H' → H' fa = some (.lst xs) → (∀ f H', H f = none → (∀ b u, b ≠ x → H b = some u → H' b = some u) → H' x = some (.ins (He.ga K "Rule") dx [("kept_steps", .ref f)]) → H' f = some (.lst xs) → Q .non H') → ∀ tu, D.nx [some (.ref x), some (.ref a), some (.ref fa), tu] H') →
          ((rest = [] ∧ ∀ σ H', (∃ tu, σ = [some (.ref x), some (.ref a), some (.ref fa), tu]) → Same H1 H' → H' fa = some (.lst xs) → D.nx σ H') ∨
            ∃ v post C y, rest = v :: post ∧ Bad K G m st v C y ∧ ∀ d H', H d = none → Same H H' → H' d = some (.xd [("found", y)]) → E (.ref (He.ga K C)) (some d) H') := by
        intro D hD
        rcases hend with ⟨hr0, q⟩ | hb
        · exact .inl ⟨hr0, fun σ H' ⟨tu, e⟩ e2 h => by rw [e]; exact hD H' e2 h q tu⟩
        · exact .inr hb
      have pl : pre.length ≤ 6 := by rw [hxs, List.length_append] at h6; omega
      have last : ∀ H', Same H1 H' → H' fa = some (.lst xs) → (∀ f H', H f = none → (∀ b u, b ≠ x → H b = some u → H' b = some u) → H' x = some (.ins (He.ga K "Rule") dx [("kept_steps", .ref f)]) → H' f = some (.lst xs) → Q .non H') →
          H' x = some (.ins (He.ga K "Rule") dx []) ∧ Q .non (upd H' x (.ins (He.ga K "Rule") dx [("kept_steps", .ref fa)])) := by
        intro H' e2 hF q
        have fx : fa ≠ x := fun z => by
          have := e1 _ _ hx
          rw [← z, hfa] at this
          cases this
        refine ⟨e2 _ _ (e1 _ _ hx), q fa _ (e1.free hfa) (fun b u hb hu => ?_) upd_same ?_⟩
        · rw [upd_ne hb]
          exact e2 _ _ (e1 _ _ hu)
        · rw [upd_ne fx]
          exact hF
      rcases hs1 with z | z
      · refine .inl ⟨_, rfl, a, rfl, ⟨xs, (same_new hfa).seq z⟩, ?_⟩
        refine loop a xs pre rest st H1 fa (Itl K a) _ e1 hfa hxs hS gd pl (fun i H' e hi => ⟨xs, xs[i], e.seq z, List.getElem?_eq_getElem hi⟩) (fun i H' zz H'' e hy => ⟨hy.1, hy.2 xs (e.seq z)⟩) (fun H' e => ⟨xs, e.seq z, Nat.le_refl _⟩) (fin fun H' e2 hF q tu => ?_)
        obtain ⟨l1, l2⟩ := last H' e2 hF q
        exact ⟨_, rfl, _, rfl, x, _, dx, [], rfl, l1, t.cls, t.no_steps, (by show 0 < 1000; decide), l2⟩
      · refine .inr ⟨_, rfl, a, rfl, ⟨xs, same_t (same_new hfa) z⟩, ?_⟩
        refine loop a xs pre rest st H1 fa (Itt K a) _ e1 hfa hxs hS gd pl (fun i H' e hi => ⟨xs, xs[i], same_t e z, List.getElem?_eq_getElem hi⟩) (fun i H' zz H'' e hy => ⟨hy.1, hy.2 xs (same_t e z)⟩) (fun H' e => ⟨xs, same_t e z, Nat.le_refl _⟩) (fin fun H' e2 hF q tu => ?_)
        obtain ⟨l1, l2⟩ := last H' e2 hF q
        exact ⟨_, rfl, _, rfl, x, _, dx, [], rfl, l1, t.cls, t.no_steps, (by show 0 < 1000; decide), l2⟩
    · refine ⟨_, rfl, (by show 2 ≤ sizeLine; omega), fun p hp => ?_⟩
      have e1 := same_new (o := .tup [.ty "list", .ty "tuple"]) hp
      have hp1 : (upd H p (.tup [.ty "list", .ty "tuple"])) p = some (.tup [.ty "list", .ty "tuple"]) := upd_same
      generalize upd H p (.tup [.ty "list", .ty "tuple"]) = H1 at e1 hp1 ⊢
      have q : ∀ a, H1 a = none → spOex (He.ga K "NoSteps") (.ref a :: ([v] ++ [])) (upd H1 a (exo a (He.ga K "NoSteps") none)) (fun v H2 => v = .non ∧ ∃ (d : Addr) (fs : List (Str × V)), H2 a = some (exo a (He.ga K "NoSteps") (some d)) ∧ H2 d = some (exd d fs) ∧ H1 d = none ∧ E (.ref (He.ga K "NoSteps")) (some d) (upd (del H2 a) d (.xd fs))) (fun _ _ _ => False) :=
        fun a ha => exc_mk ha fun d H' h1 h2 h3 => q d H' (e1.free h1) (e1.trans h2) h3
      rcases h with ⟨a, xs, rfl, hs, hl⟩ | ⟨d, hf⟩ | ⟨a, kvs, rfl, hd⟩
      · have hs1 : SqL K H1 a xs ∨ SqT K H1 a xs := hs.elim (fun z => .inl (e1.seq z)) (fun z => .inr (same_t e1 z))
        have ti : rIsiT K [.ref a, .ref p] H1 (fun b H2 => b = .bl true ∧ H2 = H1) := by
          rcases hs1 with z | z
          · exact ⟨_, p, _, .type "list", _, true, rfl, hp1, .cons (.ty _) (.cons (.ty _) .nil), tyL z, kitLT (b1 := true) (b2 := false) (by decide +kernel) (by decide +kernel), rfl, rfl⟩
          · exact ⟨_, p, _, .type "tuple", _, true, rfl, hp1, .cons (.ty _) (.cons (.ty _) .nil), tyT z, kitLT (b1 := false) (b2 := true) (by decide +kernel) (by decide +kernel), rfl, rfl⟩
        obtain ⟨x1, tp, cs, ty, us, b, i1, i2, i3, i4, i5, i6, -⟩ := ti
        cases i6
        refine ⟨x1, tp, cs, ty, us, true, i1, i2, i3, i4, i5, _, rfl, _, rfl, _, xs, rfl, hs1, _, _, rfl, rfl, _, rfl, ?_⟩
        rcases hl with hl | hl
        · have c1 : decide ((1 : Int) ≤ (xs.length : Int)) = false := decide_eq_false (by omega)
          rw [c1]
          exact ⟨_, rfl, _, rfl, (by show 1 ≤ 1000; decide), q⟩
        · have c1 : decide ((1 : Int) ≤ (xs.length : Int)) = true := decide_eq_true (by omega)
          have c2 : decide ((xs.length : Int) ≤ 6) = false := decide_eq_false (by omega)
          rw [c1]
          refine ⟨_, _, rfl, rfl, _, rfl, ?_⟩
          rw [c2]
          exact ⟨_, rfl, (by show 1 ≤ 1000; decide), q⟩
      · obtain ⟨ty, k1, k2, k3, _⟩ := tyF (K := K) (H := H1) hf
        refine ⟨_, p, _, .type ty, _, false, rfl, hp1, .cons (.ty _) (.cons (.ty _) .nil), k1, kitLT k3 k2, _, rfl, ?_⟩
        exact ⟨_, rfl, (by show 1 ≤ 1000; decide), q⟩
      · refine ⟨_, p, _, .type "dict", _, false, rfl, hp1, .cons (.ty _) (.cons (.ty _) .nil), .base (.dK (e1 _ _ hd)), kitLT (b1 := false) (b2 := false) (by decide +kernel) (by decide +kernel), _, rfl, ?_⟩
        exact ⟨_, rfl, (by show 1 ≤ 1000; decide), q⟩
end
end K51
set_option Elab.async false
set_option linter.all false
set_option maxRecDepth 100000
set_option maxHeartbeats 4000000
namespace K51
open PySem PySem.Spec PyProof.Rows L2 Sv
/-! ### steps as plain data -/
def stepD (p : Str × Str) : PyData := .tuple [.str p.1, .str p.2]
def stepsD (st : List (Str × Str)) : PyData := .list (st.map stepD)
theorem stepOk_data : ∀ k : _root_.Fin 6, ∀ z ∈ waysOf k, PyData.canLay0 (stepD (partW k, z)) = true ∧ (stepD (partW k, z)).leavesShort 64 = true ∧ (stepD (partW k, z)).weight ≤ 40 := by decide +kernel
theorem StepOk.data {p : Str × Str} (h : StepOk p) : PyData.canLay0 (stepD p) = true ∧ (stepD p).leavesShort 64 = true ∧ (stepD p).weight ≤ 40 := by
  obtain ⟨k, hk, e1, e2⟩ := h
  obtain ⟨a, b⟩ := p
  dsimp only at e1 e2
  subst e1
  exact stepOk_data ⟨k, hk⟩ b e2
theorem step_depth (p : Str × Str) : (stepD p).depth = 1 := by simp [stepD, PyData.depth, PyData.depthAll]
/-- data that repr shows, and that may stand in a tuple that repr shows -/
structure Shq (n : Nat) (d : PyData) : Prop where
  able : d.showable = true
  deep : d.depth ≤ n
  leaf : d.leavesShort 64 = true
  wt : d.weight ≤ n * 1000
theorem Shq.shw {d : PyData} (h : Shq 60 d) : Shw d := Shw.of h.able h.deep h.leaf (Nat.le_trans h.wt (by decide))
theorem Shq.tup {n : Nat} {ds : List PyData} (h : ∀ d ∈ ds, Shq n d) (hl : ds.length ≤ 7) (hw : ∀ d ∈ ds, d.weight ≤ n * 100) (hn : 1 ≤ n) : Shq (n + 1) (.tuple ds) := by
  have a1 : PyData.showableAll ds = true := by
    clear hl hw
    induction ds with
    | nil => rfl
    | cons d ds ih => simp only [PyData.showableAll, (h d (List.mem_cons_self ..)).able, ih (fun e he => h e (List.mem_cons_of_mem _ he)), Bool.and_self]
  have a2 : PyData.depthAll ds ≤ n := by
    clear hl hw a1
    induction ds with
    | nil => simp [PyData.depthAll]
    | cons d ds ih =>
      simp only [PyData.depthAll]
      exact Nat.max_le.mpr ⟨(h d (List.mem_cons_self ..)).deep, ih fun e he => h e (List.mem_cons_of_mem _ he)⟩
  have a3 : PyData.leavesShortAll 64 ds = true := by
    clear hl hw a1 a2
    induction ds with
    | nil => rfl
    | cons d ds ih => simp only [PyData.leavesShortAll, (h d (List.mem_cons_self ..)).leaf, ih (fun e he => h e (List.mem_cons_of_mem _ he)), Bool.and_self]
  have a4 : PyData.weightAll ds ≤ ds.length * (n * 100 + 1) := by
    clear hl a1 a2 a3
    induction ds with
    | nil => simp [PyData.weightAll]
    | cons d ds ih =>
      have h1 := hw d (List.mem_cons_self ..)
      have h2 := ih (fun e he => h e (List.mem_cons_of_mem _ he)) (fun e he => hw e (List.mem_cons_of_mem _ he))
      simp only [PyData.weightAll, List.length_cons, Nat.add_mul, Nat.one_mul]
      omega
  refine ⟨by simp only [PyData.showable]; exact a1, by simp only [PyData.depth]; omega, by simp only [PyData.leavesShort]; exact a3, ?_⟩
  simp only [PyData.weight]
  have : ds.length * (n * 100 + 1) ≤ 7 * (n * 100 + 1) := Nat.mul_le_mul_right _ hl
  omega
section
variable {st : List (Str × Str)}
theorem steps_lay (h : ∀ p ∈ st, StepOk p) : PyData.canLayAll0 (st.map stepD) = true := by
  induction st with
  | nil => rfl
  | cons p st ih => simp only [List.map_cons, PyData.canLayAll0, (h p (List.mem_cons_self ..)).data.1, ih (fun e he => h e (List.mem_cons_of_mem _ he)), Bool.and_self]
theorem steps_depth : PyData.depthAll (st.map stepD) ≤ 1 := by
  induction st with
  | nil => simp [PyData.depthAll]
  | cons p st ih => simp only [List.map_cons, PyData.depthAll, step_depth]; omega
theorem steps_show : PyData.showableAll (st.map stepD) = true := by
  induction st with
  | nil => rfl
  | cons p st ih => simp only [List.map_cons, PyData.showableAll, ih, stepD, PyData.showable, Bool.and_self]
theorem steps_leaf (h : ∀ p ∈ st, StepOk p) : PyData.leavesShortAll 64 (st.map stepD) = true := by
  induction st with
  | nil => rfl
  | cons p st ih => simp only [List.map_cons, PyData.leavesShortAll, (h p (List.mem_cons_self ..)).data.2.1, ih (fun e he => h e (List.mem_cons_of_mem _ he)), Bool.and_self]
theorem steps_weight (h : ∀ p ∈ st, StepOk p) : PyData.weightAll (st.map stepD) ≤ 41 * st.length := by
  induction st with
  | nil => simp [PyData.weightAll]
  | cons p st ih =>
    have h1 := (h p (List.mem_cons_self ..)).data.2.2
    have h2 := ih fun e he => h e (List.mem_cons_of_mem _ he)
    simp only [List.map_cons, PyData.weightAll, List.length_cons]
    omega
theorem steps_noDict : PyData.hasDictAll (st.map stepD) = false := by
  induction st with
  | nil => rfl
  | cons p st ih => simp only [List.map_cons, PyData.hasDictAll, ih, stepD, PyData.hasDict, Bool.or_self]
theorem steps_shaped (h : ∀ p ∈ st, StepOk p) : SeqAt.shaped (stepsD st) = true := by
  have h1 := steps_depth (st := st)
  show (PyData.canLay0 (stepsD st) && decide (PyData.depth (stepsD st) ≤ 64)) = true
  rw [Bool.and_eq_true]
  refine ⟨by simp only [stepsD, PyData.canLay0]; exact steps_lay h, decide_eq_true ?_⟩
  simp only [stepsD, PyData.depth]
  omega
theorem steps_shq (h : ∀ p ∈ st, StepOk p) (hl : st.length ≤ 40) : Shq 20 (stepsD st) := by
  have h1 := steps_depth (st := st)
  have h2 := steps_weight h
  refine ⟨by simp only [stepsD, PyData.showable]; exact steps_show, by simp only [stepsD, PyData.depth]; omega, by simp only [stepsD, PyData.leavesShort]; exact steps_leaf h, by simp only [stepsD, PyData.weight]; omega⟩
theorem steps_eqv : ∀ {s1 s2 : List (Str × Str)}, PyData.eqvAll (s1.map stepD) (s2.map stepD) = decide (s1 = s2)
  | [], [] => by simp [PyData.eqvAll]
  | [], _ :: _ => by simp [PyData.eqvAll]
  | _ :: _, [] => by simp [PyData.eqvAll]
  | (a, b) :: s1, (c, d) :: s2 => by
    simp only [List.map_cons, PyData.eqvAll, steps_eqv (s1 := s1) (s2 := s2), stepD, PyData.eqv, Bool.and_true]
    rw [Bool.eq_iff_iff]
    simp [and_assoc]
theorem steps_dp {K : PySem.W.Frag} {H : Hp} {xs : List V} (h : AreSteps K H xs st) : DpAll K H xs (st.map stepD) := by
  induction h with
  | nil => exact .nil
  | cons r t ih =>
    obtain ⟨a, rfl, hT⟩ := r
    exact .cons (.tup hT (.cons (.str _) (.cons (.str _) .nil))) ih
end
/-! ### rules -/
def IsRule (K : PySem.W.Frag) (H : Hp) (v : V) (xs : List V) : Prop := ∃ x dx f, v = .ref x ∧ H x = some (.ins (He.ga K "Rule") dx [("kept_steps", .ref f)]) ∧ SqL K H f xs
theorem IsRule.mono {K : PySem.W.Frag} {H H' : Hp} {v : V} {xs : List V} (e : Same H H') (h : IsRule K H v xs) : IsRule K H' v xs :=
  let ⟨x, dx, f, h1, h2, h3⟩ := h
  ⟨x, dx, f, h1, e _ _ h2, e.seq h3⟩
section
variable {P : Program} {w : World} {K : PySem.W.Frag} {mg : Str → Option Value} {base : Heap}
/-- Rule(..) of good steps -/
theorem rule_at {G H1 : Hp} {a x dx : Addr} {xs : List V} {st : List (Str × Str)} {R : Hp → Prop} {E : XK} (nx : H1 x = none) (nd : H1 dx = none) (hne : dx ≠ x) (hG : Same G H1) (hs : SqL K H1 a xs ∨ SqT K H1 a xs) (hS : AreSteps K G xs st) (gd : Good st) (h1 : 1 ≤ st.length) (h6 : st.length ≤ 6)
    (q : ∀ G' H', Grow [] G H1 G' H' → IsRule K G' (.ref x) xs → R H') :
    spInit K [.ref x, .ref a] (upd (upd H1 dx (.own x)) x (.ins (He.ga K "Rule") dx [])) (fun v H2 => v = .non ∧ R H2) E := by
  have e1 : Same H1 (upd (upd H1 dx (.own x)) x (.ins (He.ga K "Rule") dx [])) := same_put nx (same_new nd)
  refine ⟨G, none, x, dx, .ref a, rfl, ⟨hG.trans e1, fun a ha => nomatch ha⟩, hG.free nx, upd_same, .inl ⟨a, xs, st, rfl, hs.elim (fun z => .inl (e1.seq z)) (fun z => .inr (same_t e1 z)), hS, gd, h1, h6, fun f H' hf hk hx hfl => ⟨rfl, ?_⟩⟩⟩
  have fx : f ≠ x := fun z => by rw [z, upd_same] at hf; cases hf
  have fd : f ≠ dx := fun z => by rw [upd_ne fx, z, upd_same] at hf; cases hf
  have nf : H1 f = none := by rw [upd_ne fx, upd_ne fd] at hf; exact hf
  have e2 : Same H1 H' := fun b u z => hk b u (ne_of_none z nx) (e1 b u z)
  have g1 := grow_one hG nx e2 hx
  have g2 : Grow [] G H1 (upd (upd G x (.ins (He.ga K "Rule") dx [("kept_steps", .ref f)])) f (.lst xs)) H' := g1.more nf (by rw [upd_ne fx]; exact hG.free nf) hfl
  exact q _ H' g2 ⟨x, dx, f, rfl, by rw [upd_ne (Ne.symm fx)]; exact upd_same, SqL.of upd_same⟩
/-- Rule(..) of what is refused -/
theorem rule_bad {G H1 : Hp} {m : Option Addr} {v y : V} {C : Str} {Q : VK} {E : XK} (hA : At G m H1) (hw : Whole K G m v C y)
    (q : ∀ d H', H1 d = none → Same H1 H' → H' d = some (.xd [("found", y)]) → E (.ref (He.ga K C)) (some d) H') :
    ∀ x dx, H1 x = none → H1 dx = none → dx ≠ x → spInit K [.ref x, v] (upd (upd H1 dx (.own x)) x (.ins (He.ga K "Rule") dx [])) (fun v H2 => v = .non ∧ Q (.ref x) H2) E := by
  intro x dx nx nd hne
  have e1 : Same H1 (upd (upd H1 dx (.own x)) x (.ins (He.ga K "Rule") dx [])) := same_put nx (same_new nd)
  exact ⟨G, m, x, dx, v, rfl, hA.mono e1, hA.g.free nx, upd_same, .inr ⟨C, y, hw, fun d H' h1 h2 h3 => q d H' (e1.free h1) (e1.trans h2) h3⟩⟩
theorem IsRule.ty {H : Hp} {v : V} {xs : List V} (t : T K mg) (h : IsRule K H v xs) : TyX K H v (.ref (He.ga K "Rule")) := by
  obtain ⟨x, dx, f, rfl, h2, h3⟩ := h
  exact .base (.ins h2 t.cls t.ins.1 t.ins.2.1 t.ins.2.2.1 t.ins.2.2.2)
def spEq (K : PySem.W.Frag) : Sp := fun vs H Q _ => ∃ (x y : V) (xs : List V), vs = [x, y] ∧ IsRule K H x xs ∧
  ((∃ ty, TyX K H y (.type ty) ∧ PySem.W.kitOne K (.type ty) (.ref (He.ga K "Rule")) = some false ∧ Q (.bl false) H) ∨
   (∃ ys s1 s2, IsRule K H y ys ∧ AreSteps K H xs s1 ∧ AreSteps K H ys s2 ∧ (∀ p ∈ s1, StepOk p) ∧ (∀ p ∈ s2, StepOk p) ∧ Q (.bl (decide (s1 = s2))) H))
theorem ok_eq (t : T K mg) : ∃ fd, FnOk P w K mg base CX0 1 (He.ma K (He.ga K "Rule") "__eq__") fd ["self", "other"] (spEq K) ∧ Binds K fd ["self", "other"] [] := by
  obtain ⟨fd, F⟩ := t.d_Rule___eq__
  refine ⟨fd, F.ok sc_Rule___eq__ (fun vs H Q E h => ?_) (fun cdv A outer s H vs Q E hr h => ?_), F.binds fun _ _ _ _ _ _ us hl => match us, hl with | [_, _], _ => rfl⟩
  · obtain ⟨x, y, xs, rfl, _⟩ := h
    rfl
  · obtain ⟨x, y, xs, rfl, hR, h⟩ := h
    refine ⟨_, (pss_one (ps_ret (pe_and (pe_callB call_isi (by rfl) t.z_isinstance (by decide +kernel) (pa_cons (pv 1) (pa_cons (pe_glob (v := .ref (He.ga K "Rule")) rfl t.g_Rule rfl) pa_nil))) (pe_one (pe_cmpR (op_eqD hr.units) (pe_fld (pv 0) rfl) (pe_fld (pv 1) rfl) (nomark _)))))), ?_⟩
    rcases h with ⟨ty, h1, h2, q⟩ | ⟨ys, s1, s2, hR2, hS1, hS2, k1, k2, q⟩
    · exact ⟨_, rfl, _, _, .type ty, _, false, rfl, .own _, h1, h2, _, rfl, q⟩
    · have ty := hR2.ty t
      obtain ⟨x1, dx1, f1, rfl, a1, b1⟩ := hR
      obtain ⟨x2, dx2, f2, rfl, a2, b2⟩ := hR2
      refine ⟨_, rfl, _, _, _, _, true, rfl, .own _, ty, t.q_Rule, _, rfl, ?_⟩
      refine ⟨_, rfl, x1, _, dx1, _, .ref f1, rfl, a1, t.cls, t.no_steps, rfl, _, rfl, x2, _, dx2, _, .ref f2, rfl, a2, t.cls, t.no_steps, rfl, ?_⟩
      refine ⟨stepsD s1, stepsD s2, .lst b1 (steps_dp hS1), .lst b2 (steps_dp hS2), steps_shaped k1, steps_shaped k2, ?_⟩
      have e : PyData.eqv (stepsD s1) (stepsD s2) = decide (s1 = s2) := by simp only [stepsD, PyData.eqv]; exact steps_eqv
      rw [e]
      exact q
def spLen (K : PySem.W.Frag) : Sp := fun vs H Q _ => ∃ (x : V) (xs : List V), vs = [x] ∧ IsRule K H x xs ∧ Q (.int xs.length) H
theorem ok_len (t : T K mg) : ∃ fd, FnOk P w K mg base CX0 1 (He.ma K (He.ga K "Rule") "__len__") fd ["self"] (spLen K) ∧ Binds K fd ["self"] [] := by
  obtain ⟨fd, F⟩ := t.d_Rule___len__
  refine ⟨fd, F.ok sc_Rule___len__ (fun vs H Q E h => ?_) (fun cdv A outer s H vs Q E hr h => ?_), F.binds fun _ _ _ _ _ _ us hl => match us, hl with | [_], _ => rfl⟩
  · obtain ⟨x, xs, rfl, _⟩ := h
    rfl
  · obtain ⟨x, xs, rfl, ⟨x1, dx1, f1, rfl, a1, b1⟩, q⟩ := h
    refine ⟨_, (pss_one (ps_ret (pe_callB call_len_seq (by rfl) t.z_len boot_len (pa_cons (pe_fld (pv 0) rfl) pa_nil)))), ?_⟩
    exact ⟨_, rfl, x1, _, dx1, _, .ref f1, rfl, a1, t.cls, t.no_steps, rfl, f1, xs, rfl, .inl b1, q⟩
def spGot (K : PySem.W.Frag) : Sp := fun vs H Q _ => ∃ (x : V) (xs : List V), vs = [x] ∧ IsRule K H x xs ∧ ∀ l, H l = none → Q (.ref l) (upd H l (.lst xs))
theorem ok_steps (t : T K mg) : ∃ fd, FnOk P w K mg base CX0 1 (He.ma K (He.ga K "Rule") "steps") fd ["self"] (spGot K) ∧ Binds K fd ["self"] [] := by
  obtain ⟨fd, F⟩ := t.d_Rule_steps
  refine ⟨fd, F.ok sc_Rule_steps (fun vs H Q E h => ?_) (fun cdv A outer s H vs Q E hr h => ?_), F.binds fun _ _ _ _ _ _ us hl => match us, hl with | [_], _ => rfl⟩
  · obtain ⟨x, xs, rfl, _⟩ := h
    rfl
  · obtain ⟨x, xs, rfl, ⟨x1, dx1, f1, rfl, a1, b1⟩, q⟩ := h
    refine ⟨_, (pss_one (ps_ret (pe_callTy call_list_of (by rfl) t.z_list (by decide +kernel) (pa_cons (pe_fld (pv 0) rfl) pa_nil)))), ?_⟩
    exact ⟨_, rfl, x1, _, dx1, _, .ref f1, rfl, a1, t.cls, t.no_steps, rfl, f1, xs, rfl, .inl b1, q⟩
end
end K51
set_option Elab.async false
set_option linter.all false
set_option maxRecDepth 100000
set_option maxHeartbeats 4000000
namespace K51
open PySem PySem.Spec PyProof.Rows L2 Sv
/-- the first way of each part -/
def firstSt : List (Str × Str) := (List.range 6).map fun k => (partW k, (waysOf k).headD "")
theorem first_at : ∀ k : _root_.Fin 6, firstSt[k.1]? = some (partW k, (waysOf k).headD "") ∧ (waysOf k)[0]? = some ((waysOf k).headD "") := by decide +kernel
theorem first_good : Good firstSt := by
  refine ⟨fun p hp => ?_, by decide +kernel⟩
  obtain ⟨k, hk, rfl⟩ := List.mem_map.mp hp
  have hk := List.mem_range.mp hk
  exact ⟨k, hk, rfl, List.mem_of_getElem? (first_at ⟨k, hk⟩).2⟩
def strsD (ws : List Str) : PyData := .list (ws.map .str)
theorem ways_shaped : ∀ k : _root_.Fin 6, SeqAt.shaped (strsD (waysOf k)) = true := by decide +kernel
theorem strs_eqv : ∀ ws : List Str, PyData.eqvAll (ws.map .str) (ws.map .str) = true
  | [] => by simp [PyData.eqvAll]
  | w :: ws => by simp only [List.map_cons, PyData.eqvAll, PyData.eqv, strs_eqv ws]; simp
section
variable {P : Program} {w : World} {K : PySem.W.Frag} {mg : Str → Option Value} {base : Heap}
theorem strs_dp {H : Hp} : ∀ ws : List Str, DpAll K H (ws.map V.str) (ws.map .str)
  | [] => .nil
  | w :: ws => .cons (.str w) (strs_dp ws)
theorem words_at {i : Nat} (hi : i < 6) : (words6.map V.str)[i]? = some (.str (partW i)) := by
  unfold words6
  rw [List.getElem?_map, List.getElem?_map, List.getElem?_range hi]
  rfl
def spFirst (K : PySem.W.Frag) : Sp := fun vs H Q _ => vs = [] ∧ ∃ G, Same G H ∧ ∀ v xs G' H', Grow [] G H G' H' → IsRule K G' v xs → AreSteps K G' xs firstSt → Q v H'
theorem ok_first_rule (t : T K mg) : Ok P w K mg base CX0 7 (He.ga K "first_rule") "first_rule" [] (spFirst K) := by
  obtain ⟨fd, F⟩ := t.d_first_rule
  have O_ways := ok_ways (P := P) (w := w) (base := base) t
  obtain ⟨fI, FI, bI⟩ := ok_init (P := P) (w := w) (base := base) t
  refine Ok.mk0 F t.g_first_rule sc_first_rule (F.binds fun _ _ _ _ _ _ us hl => match us, hl with | [], _ => rfl) (fun vs H Q E h => ?_) (fun cdv A outer s H vs Q E hr h => ?_)
  · obtain ⟨rfl, _⟩ := h
    rfl
  · obtain ⟨rfl, G, hG, q⟩ := h
    refine ⟨_, (pss_one (ps_ret (pe_make t.mkr FI hr (by rfl) t.g_Rule bI .nil passL (pa_cons (pe_lc (own := [("part", 0)]) (g := gName 0) rfl sc_first_rule.nd (pi_tup (pe_glob (v := .ref (He.ga K "PARTS")) rfl t.g_PARTS rfl)) (blkOk_by (N := N_first_rule) (sc := defScope s_first_rule) (by decide +kernel)) (fun _ _ _ _ _ => pg_name (i := 0) sc_first_rule.nd rfl (Or.inl rfl)) (fun _ _ _ _ _ => pts_nil) (fun _ _ _ _ _ => (pe_tup (pa_cons (pv 0) (pa_cons (pe_ix (r := rIxL K) ix_list (pe_callN O_ways (hr.mono (by decide)) passL (pa_cons (pv 0) pa_nil)) pe_int (fun _ _ => rfl)) pa_nil))))) pa_nil)))), ?_⟩
    refine ⟨_, rfl, ⟨_, t.t_PARTS _⟩, fun D hD => lc_n (n := 6) (fun i H' => ∃ G' acc, Wd [] G H G' [(D, .lst acc)] H' ∧ AreSteps K G' acc (firstSt.take i)) ⟨G, [], (Wd.start0 hG).newM hD, .nil⟩ ?_ ?_ ?_ ?_⟩
    · exact fun i H' hi _ => ⟨words6.map V.str, _, t.t_PARTS _, List.getElem?_eq_getElem (by show i < 6; exact hi)⟩
    · exact fun H' _ => ⟨words6.map V.str, t.t_PARTS _, Nat.le_refl 6⟩
    · rintro i x H1 H2 hi ⟨G1, acc, W0, hS⟩ ⟨rfl, hx⟩
      have hx := hx (words6.map V.str) (t.t_PARTS _)
      rw [words_at hi] at hx
      cases hx
      obtain ⟨f1, f2⟩ := first_at ⟨i, hi⟩
      have hl : acc.length = (firstSt.take i).length := Paired.length hS
      refine ⟨rfl, _, rfl, _, rfl, _, rfl, .inl ⟨i, hi, rfl, fun p hp => ?_⟩⟩
      have W1 := W0.newP (o := .lst ((waysOf i).map V.str)) hp
      have hS := hS.mono (W0.newG hp (o := .lst ((waysOf i).map V.str)))
      refine ⟨p, _, 0, .str ((waysOf i).headD ""), rfl, rfl, SqL.of upd_same, atI_nat (j := 0) (by rw [List.getElem?_map, f2]; rfl), (by show 2 ≤ sizeLine; rw [sizeLine_eq]; decide), fun p2 hp2 => ?_⟩
      have W2 := W1.newP (o := .tup [.str (partW i), .str ((waysOf i).headD "")]) hp2
      have hS := hS.mono (W1.newG hp2 (o := .tup [.str (partW i), .str ((waysOf i).headD "")]))
      refine ⟨acc, W2.here, ?_, _, acc ++ [.ref p2], W2.put, ?_⟩
      · rw [hl, List.length_take, sizeLine_eq]
        omega
      · have tk : firstSt.take (i + 1) = firstSt.take i ++ [(partW i, (waysOf i).headD "")] := by rw [List.take_add_one, f1]; rfl
        rw [tk]
        exact hS.snoc ⟨p2, rfl, SqT.of upd_same⟩
    · rintro H1 ⟨G1, acc, W0, hS⟩
      have W1 := W0.fix (by simp)
      have hS : AreSteps K (upd G1 D (.lst acc)) acc firstSt := hS.mono W0.fixG
      exact fun x dx nx nd hne => rule_at nx nd hne W1.kn (.inl (SqL.of (W1.kn _ _ upd_same))) hS first_good (by decide) (by decide) fun G2 H2 g hR => q _ acc G2 H2 (W1.call g).gr hR (hS.mono g.g)
end
end K51
set_option Elab.async false
set_option linter.all false
set_option maxRecDepth 100000
set_option maxHeartbeats 4000000
namespace Sv
open PySem PySem.Spec PyProof.Rows L2
/-- a new object of which nothing is told -/
theorem Wd.junk {bs : List Addr} {G0 H0 G : Hp} {M : List (Addr × HO)} {H : Hp} {p : Addr} {o : HO} (W : Wd bs G0 H0 G M H) (hp : H p = none) : Wd bs G0 H0 G M (upd H p o) := (W.newM hp).tail
theorem Wd.stay {bs : List Addr} {G0 H0 G : Hp} {M : List (Addr × HO)} {H H' : Hp} (W : Wd bs G0 H0 G M H) (e : Same H H') : Wd bs G0 H0 G M H' := W.call (grow_same W.kn e)
end Sv
namespace K51
open PySem PySem.Spec PyProof.Rows L2 Sv
section
variable {P : Program} {w : World} {K : PySem.W.Frag} {mg : Str → Option Value} {base : Heap}
def spTold (K : PySem.W.Frag) : Sp := fun vs H Q _ => vs = [] ∧ ∃ G, Same G H ∧ ∀ G' H', Grow [] G H G' H' → Q (.bl true) H'
theorem ok_law_parts_told (t : T K mg) : Ok P w K mg base CX0 8 (He.ga K "_law_parts_told") "_law_parts_told" [] (spTold K) := by
  obtain ⟨fd, F⟩ := t.d_law_parts_told
  have O_ways := ok_ways (P := P) (w := w) (base := base) t
  have O_law_ways := ok_law_ways (P := P) (w := w) (base := base) t
  have O_first_rule := ok_first_rule (P := P) (w := w) (base := base) t
  obtain ⟨fS, FS, bS⟩ := ok_steps (P := P) (w := w) (base := base) t
  refine Ok.mk0 F t.g_law_parts_told sc_law_parts_told (F.binds fun _ _ _ _ _ _ us hl => match us, hl with | [], _ => rfl) (fun vs H Q E h => ?_) (fun cdv A outer s H vs Q E hr h => ?_)
  · obtain ⟨rfl, _⟩ := h
    rfl
  · obtain ⟨rfl, G, hG, q⟩ := h
    refine ⟨_, (pss_cons (ps_set (i := 0) sc_law_parts_told.nd rfl (Or.inl rfl) (pe_lst (pa_cons pe_str (pa_cons pe_str (pa_cons pe_str (pa_cons pe_str (pa_cons pe_str (pa_cons pe_str pa_nil))))))))
      (pss_cons (ps_for PassesOwn.never rfl (pi_range1 rfl t.z_range (pa_cons pe_int pa_nil)) (pg_name (i := 1) sc_law_parts_told.nd rfl (Or.inl rfl))
        (pss_one (ps_for PassesOwn.never rfl (pi_enum (by rfl) t.z_enumerate (pa_cons (pv 0) pa_nil)) (pg_tup rfl (pgs_cons (pg_name (i := 2) sc_law_parts_told.nd rfl (Or.inl rfl)) (pgs_cons (pg_name (i := 3) sc_law_parts_told.nd rfl (Or.inl rfl)) pgs_nil)))
          (pss_cons (ps_set (i := 4) sc_law_parts_told.nd rfl (Or.inl rfl) (pe_callN O_ways (hr.mono (by decide)) passL (pa_cons (pv 3) pa_nil)))
          (pss_cons (ps_if (PW.pt (pw_or (pt_not (pt_val (pe_callB call_isi (by rfl) t.z_isinstance (by decide +kernel) (pa_cons (pv 4) (pa_cons (pe_bltn (v := .ty "list") (by rfl) t.z_list (by kernel_rfl) rfl) pa_nil))))) (pw_or1 (pt_cmpR (op_neD hr.units) (pv 4) (pe_callN O_law_ways (hr.mono (by decide)) pass0 (pa_cons (pv 2) pa_nil)) (nomark _)))))
            (pss_one (ps_ret pe_bl))
            pss_nil)
          (pss_one (ps_expr (pe_bm0 PySem.F.plainAttrs_list PySem.F.slot_list_pop PySem.F.type_list_pop mt_pop (pv 4)))))))))
      (pss_one (ps_ret (pe_cmpR (op_eqD hr.units) (pe_meth0 (pe_callN0 O_first_rule hr pass0) t.cls t.meth_steps FS (hr.mono (by decide)) bS .nil pass0) (pe_lc (own := [("at", 2), ("word", 3)]) (g := gTup K 2 (gCons (gName 2) (gCons (gName 3) gNil))) rfl sc_law_parts_told.nd (pi_enum (by rfl) t.z_enumerate (pa_cons (pv 0) pa_nil)) (blkOk_by (N := N_law_parts_told) (sc := defScope s_law_parts_told) (by decide +kernel)) (fun _ _ _ _ _ => pg_tup rfl (pgs_cons (pg_name (i := 2) sc_law_parts_told.nd rfl (Or.inl rfl)) (pgs_cons (pg_name (i := 3) sc_law_parts_told.nd rfl (Or.inl rfl)) pgs_nil))) (fun _ _ _ _ _ => pts_nil) (fun _ _ _ _ _ => (pe_tup (pa_cons (pv 3) (pa_cons (pe_ix (r := rIxL K) ix_list (pe_callN O_law_ways (hr.mono (by decide)) pass0 (pa_cons (pv 2) pa_nil)) pe_int (fun _ _ => rfl)) pa_nil))))) (nomark _)))))), ?_⟩
    have hz : (20 : Nat) ≤ sizeLine := by rw [sizeLine_eq]; decide
    refine ⟨(by show 6 ≤ sizeLine; omega), fun W hW => ?_⟩
    have W0 := (Wd.start0 hG).newP (o := .lst [.str "letters", .str "number", .str "points", .str "makers", .str "year", .str "copy"]) hW
    have aW : SqL K (upd G W (.lst [.str "letters", .str "number", .str "points", .str "makers", .str "year", .str "copy"])) W (words6.map V.str) := SqL.of upd_same
    generalize upd G W _ = G1 at W0 aW
    generalize upd H W _ = H1 at W0 ⊢
    have eqs : ∀ k, k < 6 → PyData.eqv (strsD (waysOf k)) (strsD (waysOf k)) = true := fun k hk => by simp only [strsD, PyData.eqv]; exact strs_eqv _
    refine ⟨2, rfl, by decide, by decide, for_range (lo := 0) (n := 2) (fun i σ H' => (∃ a b c d, σ = [some (.ref W), a, b, c, d]) ∧ Wd [] G H G1 [] H') ⟨⟨none, none, none, none, rfl⟩, W0⟩ ?_ ?_⟩
    · rintro i σ H2 hi ⟨⟨a, b, c, d, rfl⟩, V0⟩
      refine ⟨_, rfl, W, _, rfl, V0.kn.seq aW, for_n (n := 6) (fun i σ H' => (∃ a b c d, σ = [some (.ref W), a, b, c, d]) ∧ Wd [] G H G1 [] H') ⟨⟨_, _, _, _, rfl⟩, V0⟩ ?_ ?_ ?_ ?_⟩
      · rintro j σ H' hj ⟨_, V1⟩
        exact ⟨_, _, V1.kn.seq aW, words_at hj⟩
      · rintro σ H' ⟨_, V1⟩
        exact ⟨_, V1.kn.seq aW, Nat.le_refl 6⟩
      · rintro j x σ H3 H4 hj ⟨⟨a, b, c, d, rfl⟩, V1⟩ ⟨TT, x', rfl, hT, rfl, hx⟩
        have hx := hx _ (V1.kn.seq aW)
        rw [words_at hj] at hx
        cases hx
        have V2 := V1.junk (o := .tup [.int (j : Nat), .str (partW j)]) hT
        refine ⟨TT, _, rfl, SqT.of upd_same, rfl, _, _, rfl, _, _, rfl, rfl, ?_⟩
        generalize upd H3 TT _ = H5 at V2 ⊢
        refine ⟨_, rfl, _, rfl, .inl ⟨j, hj, rfl, fun p hp => ?_⟩⟩
        have V3 := V2.newM (o := .lst ((waysOf j).map V.str)) hp
        generalize upd H5 p _ = H6 at V3 ⊢
        refine ⟨_, rfl, _, _, .type "list", .type "list", true, rfl, .ty _, .base (.lst V3.here), kit_ty (by decide +kernel), _, rfl, _, rfl, _, rfl, j, rfl, hj, fun p2 H7 hp2 e2 h2 => ?_⟩
        have V4 := V3.stay e2
        refine ⟨strsD (waysOf j), strsD (waysOf j), .lst (SqL.of V4.here) (strs_dp _), .lst (SqL.of h2) (strs_dp _), ways_shaped ⟨j, hj⟩, ways_shaped ⟨j, hj⟩, _, rfl, ?_⟩
        rw [eqs j hj]
        have hw := len_ways (k := j)
        refine ⟨_, rfl, .inl ⟨rfl, _, SqL.of V4.here⟩, p, _, _, rfl, rfl, V4.here, List.getElem?_eq_getElem (by rw [List.length_map]; omega), ?_⟩
        exact ⟨⟨_, _, _, _, rfl⟩, V4.put.tail⟩
      · rintro σ H3 ⟨⟨a, b, c, d, rfl⟩, V1⟩
        exact ⟨⟨_, _, _, _, rfl⟩, V1⟩
    · rintro σ H2 ⟨⟨a, b, c, d, rfl⟩, V0⟩
      refine ⟨rfl, G1, V0.kn, fun v xs G2 H3 g2 hR hS => ?_⟩
      have V1 := V0.call g2
      have aW := g2.g.seq aW
      obtain ⟨x1, dx1, f1, rfl, a1, b1⟩ := hR
      refine ⟨x1, dx1, _, rfl, V1.kn _ _ a1, rfl, .ref x1, xs, rfl, ⟨x1, dx1, f1, rfl, V1.kn _ _ a1, V1.kn.seq b1⟩, fun l hl => ?_⟩
      have V2 := V1.newP (o := .lst xs) hl
      have aW := (V1.newG hl (o := .lst xs)).seq aW
      have hS := hS.mono (V1.newG hl (o := .lst xs))
      have aL : SqL K (upd G2 l (.lst xs)) l xs := SqL.of upd_same
      generalize upd G2 l _ = G3 at V2 aW hS aL
      generalize upd H3 l _ = H4 at V2 ⊢
      refine ⟨_, rfl, W, _, rfl, V2.kn.seq aW, fun D hD => lc_n (n := 6) (fun i H' => ∃ G' acc, Wd [] G H G' [(D, .lst acc)] H' ∧ Same G3 G' ∧ AreSteps K G' acc (firstSt.take i)) ⟨G3, [], V2.newM hD, Same.refl _, .nil⟩ ?_ ?_ ?_ ?_⟩
      · rintro j H' hj ⟨G4, acc, V3, e3, _⟩
        exact ⟨_, _, (e3.trans V3.kn).seq aW, words_at hj⟩
      · rintro H' ⟨G4, acc, V3, e3, _⟩
        exact ⟨_, (e3.trans V3.kn).seq aW, Nat.le_refl 6⟩
      · rintro j x H5 H6 hj ⟨G4, acc, V3, e3, hS1⟩ ⟨TT, x', rfl, hT, rfl, hx⟩
        have hx := hx _ ((e3.trans V3.kn).seq aW)
        rw [words_at hj] at hx
        cases hx
        obtain ⟨k1, k2⟩ := first_at ⟨j, hj⟩
        have hl : acc.length = (firstSt.take j).length := Paired.length hS1
        have V4 := V3.junk (o := .tup [.int (j : Nat), .str (partW j)]) hT
        refine ⟨TT, _, rfl, SqT.of upd_same, rfl, _, _, rfl, _, _, rfl, rfl, rfl, _, rfl, _, rfl, j, rfl, hj, fun p2 H7 hp2 e2 h2 => ?_⟩
        have V5 := V4.stay e2
        refine ⟨p2, _, 0, .str ((waysOf j).headD ""), rfl, rfl, SqL.of h2, atI_nat (j := 0) (by rw [List.getElem?_map, k2]; rfl), (by show 2 ≤ sizeLine; omega), fun p3 hp3 => ?_⟩
        have V6 := V5.newP (o := .tup [.str (partW j), .str ((waysOf j).headD "")]) hp3
        have gg := V5.newG hp3 (o := .tup [.str (partW j), .str ((waysOf j).headD "")])
        refine ⟨acc, V6.here, ?_, _, acc ++ [.ref p3], V6.put, e3.trans gg, ?_⟩
        · rw [hl, List.length_take, sizeLine_eq]
          omega
        · have tk : firstSt.take (j + 1) = firstSt.take j ++ [(partW j, (waysOf j).headD "")] := by rw [List.take_add_one, k1]; rfl
          rw [tk]
          exact (hS1.mono gg).snoc ⟨p3, rfl, SqT.of upd_same⟩
      · rintro H5 ⟨G4, acc, V3, e3, hS1⟩
        have V4 := V3.fix (by simp)
        have hS1 : AreSteps K (upd G4 D (.lst acc)) acc firstSt := hS1.mono V3.fixG
        have e4 := e3.trans V3.fixG
        refine ⟨stepsD firstSt, stepsD firstSt, .lst ((e4.trans V4.kn).seq aL) (steps_dp (hS.mono (e4.trans V4.kn))), .lst (SqL.of (V4.kn _ _ upd_same)) (steps_dp (hS1.mono V4.kn)), steps_shaped first_good.ok, steps_shaped first_good.ok, ?_⟩
        have e : PyData.eqv (stepsD firstSt) (stepsD firstSt) = true := by simp only [stepsD, PyData.eqv, steps_eqv, decide_true]
        rw [e]
        exact q _ _ V4.gr
end
end K51
set_option Elab.async false
set_option linter.all false
set_option maxRecDepth 100000
set_option maxHeartbeats 4000000
namespace Sv
open PySem PySem.Spec PyProof.Rows L2
theorem Room.u100 {k : Nat} {A : Around} (h : Room k A) : A.units + 100 < cLine := by have := h.un; omega
end Sv
namespace K51
open PySem PySem.Spec PyProof.Rows L2 Sv
section
variable {P : Program} {w : World} {K : PySem.W.Frag} {mg : Str → Option Value} {base : Heap}
theorem int_shw {n : Nat} (h : n ≤ 40) : Shw (.int (n : Int)) := by
  have : ∀ k : _root_.Fin 41, (PyData.int (k.1 : Int)).showable = true ∧ (PyData.int (k.1 : Int)).leavesShort 64 = true ∧ (PyData.int (k.1 : Int)).weight ≤ 131072 := by decide +kernel
  obtain ⟨h1, h2, h3⟩ := this ⟨n, by omega⟩
  exact Shw.of h1 (by simp [PyData.depth]) h2 h3
theorem steps_noDict' {st : List (Str × Str)} : (stepsD st).hasDict = false := by simp only [stepsD, PyData.hasDict]; exact steps_noDict
theorem Shq.mono {n m : Nat} {d : PyData} (h : Shq n d) (hm : n ≤ m) : Shq m d := ⟨h.able, Nat.le_trans h.deep hm, h.leaf, Nat.le_trans h.wt (Nat.mul_le_mul_right _ hm)⟩
theorem dpS {H : Hp} {a : Addr} {xs : List V} {st : List (Str × Str)} (hs : SqL K H a xs) (hS : AreSteps K H xs st) : (Dp K H (.ref a) (stepsD st) ∧ (stepsD st).hasDict = false) := ⟨.lst hs (steps_dp hS), steps_noDict'⟩
theorem shwS {st : List (Str × Str)} (ok : ∀ p ∈ st, StepOk p) (hl : st.length ≤ 40) : Shw (stepsD st) := ((steps_shq ok hl).mono (by decide)).shw
def spRight (K : PySem.W.Frag) : Sp := fun vs H Q _ => ∃ (G : Hp) (v : V) (a : Addr) (xs ys : List V) (st : List (Str × Str)), vs = [v, .ref a] ∧ Same G H ∧ IsRule K G v xs ∧ AreSteps K G xs st ∧ SqL K G a ys ∧ AreSteps K G ys st ∧
  (∀ p ∈ st, StepOk p) ∧ st.length ≤ 6 ∧ ∀ H', Grow [] G H G H' → Q (.bl true) H'
theorem ok_law_right (t : T K mg) : OkG P w K mg base 3 (He.ga K "_law_right") "_law_right" ["rule", "steps"] (spRight K) := by
  obtain ⟨fd, F⟩ := t.d_law_right
  obtain ⟨fS, FS, bS⟩ := ok_steps (P := P) (w := w) (base := base) t
  obtain ⟨fL, FL, bL⟩ := ok_len (P := P) (w := w) (base := base) t
  refine OkG.mk0 F t.g_law_right sc_law_right (F.binds fun _ _ _ _ _ _ us hl => match us, hl with | [_, _], _ => rfl) (fun vs H Q E h => ?_) (fun cdv A outer s H vs Q E hG hr h => ?_)
  · obtain ⟨G, v, a, xs, ys, st, rfl, _⟩ := h
    rfl
  · obtain ⟨G, v, a, xs, ys, st, rfl, hSm, hR, hS, ha, hS2, ok, h6, q⟩ := h
    refine ⟨_, (pss_cons (ps_for PassesOwn.never rfl (pi_range1 rfl t.z_range (pa_cons pe_int pa_nil)) (pg_name (i := 2) sc_law_right.nd rfl (Or.inl rfl))
        (pss_cons (ps_set (i := 3) sc_law_right.nd rfl (Or.inl rfl) (pe_meth0 (pv 0) t.cls t.meth_steps FS (hr.mono (by decide)) bS .nil pass0))
        (pss_cons (ps_if (PW.pt (pw_or (pt_not (pt_val (pe_callB call_isi (by rfl) t.z_isinstance (by decide +kernel) (pa_cons (pv 3) (pa_cons (pe_bltn (v := .ty "list") (by rfl) t.z_list (by kernel_rfl) rfl) pa_nil))))) (pw_or (pt_cmpR op_ne (pe_callB (call_repr hG (Room.u100 hr)) (by rfl) t.z_repr (by decide +kernel) (pa_cons (pv 3) pa_nil)) (pe_callB (call_repr hG (Room.u100 hr)) (by rfl) t.z_repr (by decide +kernel) (pa_cons (pv 1) pa_nil)) (nomark _)) (pw_or1 (pt_cmpR op_ne (pe_callB (call_repr hG (Room.u100 hr)) (by rfl) t.z_repr (by decide +kernel) (pa_cons (pe_callB (call_ownLen t.len.1 t.len.2 FL hr bL pass0) (by rfl) t.z_len boot_len (pa_cons (pv 0) pa_nil)) pa_nil)) (pe_callB (call_repr hG (Room.u100 hr)) (by rfl) t.z_repr (by decide +kernel) (pa_cons (pe_callB call_len_seq (by rfl) t.z_len boot_len (pa_cons (pv 1) pa_nil)) pa_nil)) (nomark _))))))
          (pss_one (ps_ret pe_bl))
          pss_nil)
        (pss_cons (ps_expr (pe_bm0 PySem.F.plainAttrs_list PySem.F.slot_list_reverse PySem.F.type_list_reverse mt_reverse (pv 3)))
        (pss_one (ps_expr (pe_bm PySem.F.plainAttrs_list PySem.F.slot_list_append PySem.F.type_list_append mt_append (pv 3) (pa_cons (pe_tup (pa_cons pe_str (pa_cons pe_str pa_nil))) pa_nil))))))))
      (pss_one (ps_ret pe_bl))), ?_⟩
    have hz : (20 : Nat) ≤ sizeLine := by rw [sizeLine_eq]; decide
    have hlx : xs.length = st.length := Paired.length hS
    have hly : ys.length = st.length := Paired.length hS2
    refine ⟨2, rfl, by decide, by decide, for_range (lo := 0) (n := 2) (fun i σ H' => (∃ c d, σ = [some v, some (.ref a), c, d]) ∧ Wd [] G H G [] H') ⟨⟨none, none, rfl⟩, Wd.start0 hSm⟩ ?_ ?_⟩
    · rintro i σ H2 hi ⟨⟨c, d, rfl⟩, V0⟩
      obtain ⟨x1, dx1, f1, rfl, a1, b1⟩ := hR
      refine ⟨_, rfl, x1, dx1, _, rfl, V0.kn _ _ a1, rfl, .ref x1, xs, rfl, ⟨x1, dx1, f1, rfl, V0.kn _ _ a1, V0.kn.seq b1⟩, fun l hl => ?_⟩
      have V1 := V0.newM (o := .lst xs) hl
      generalize upd H2 l _ = H3 at V1 ⊢
      refine ⟨_, rfl, _, _, .type "list", .type "list", true, rfl, .ty _, .base (.lst V1.here), kit_ty (by decide +kernel), _, rfl, ?_⟩
      refine ⟨_, rfl, _, stepsD st, rfl, .inl (dpS (SqL.of V1.here) (hS.mono V1.kn)), shwS ok (by omega), _, rfl, _, stepsD st, rfl, .inl (dpS (V1.kn.seq ha) (hS2.mono V1.kn)), shwS ok (by omega), rfl, _, rfl, ?_⟩
      refine ite2 (fun hc => absurd hc (by simp)) fun _ => ?_
      refine ⟨_, rfl, x1, dx1, _, rfl, V1.kn _ _ a1, .ref x1, xs, rfl, ⟨x1, dx1, f1, rfl, V1.kn _ _ a1, V1.kn.seq b1⟩, xs.length, rfl, by omega, ?_⟩
      have hxy : ys.length = xs.length := by omega
      refine ⟨_, .int xs.length, rfl, .inl ⟨.int _, rfl⟩, int_shw (by omega), _, rfl, a, ys, rfl, .inl (V1.kn.seq ha), _, .int ys.length, rfl, .inl ⟨.int _, rfl⟩, int_shw (by omega), rfl, _, rfl, ?_⟩
      rw [hxy]
      refine ite2 (fun hc => absurd hc (by simp)) fun _ => ?_
      refine ⟨_, rfl, .inl ⟨rfl, _, SqL.of V1.here⟩, l, xs, rfl, rfl, V1.here, ?_⟩
      have V2 := V1.put (o' := .lst xs.reverse)
      generalize upd H3 l _ = H4 at V2 ⊢
      refine ⟨_, rfl, .inl ⟨rfl, _, SqL.of V2.here⟩, (by show 2 ≤ sizeLine; omega), fun p hp => ?_⟩
      have V3 := V2.junk (o := .tup [.str "copy", .str "rising"]) hp
      refine ⟨l, xs.reverse, .ref p, rfl, rfl, V3.here, ?_, ⟨_, _, rfl⟩, V3.put.tail⟩
      rw [List.length_reverse]
      omega
    · rintro σ H2 ⟨⟨c, d, rfl⟩, V0⟩
      exact q H2 V0.gr
end
end K51
set_option Elab.async false
set_option linter.all false
set_option maxRecDepth 100000
set_option maxHeartbeats 4000000
namespace K51
open PySem PySem.Spec PyProof.Rows L2 Sv
theorem ixN_nat {n j : Nat} (h : j < n) : ixN n (j : Int) = some j := by
  unfold ixN
  first
    | (rw [if_pos (by omega), if_pos (by omega)]; rfl)
    | (simp; omega)
section
variable {P : Program} {w : World} {K : PySem.W.Frag} {mg : Str → Option Value} {base : Heap}
theorem Good.rev {st : List (Str × Str)} (g : Good st) : Good st.reverse := ⟨fun p hp => g.ok p (List.mem_reverse.mp hp), by rw [List.map_reverse]; exact (List.reverse_perm _).nodup_iff.mpr g.nd⟩
theorem Good.erase {st : List (Str × Str)} (g : Good st) (i : Nat) : Good (st.eraseIdx i) := ⟨fun p hp => g.ok p (List.mem_of_mem_eraseIdx hp), by rw [erase_map]; exact g.nd.sublist (List.eraseIdx_sublist ..)⟩
theorem Good.set {st : List (Str × Str)} (g : Good st) {i k : Nat} {z s : Str} (hi : st[i]? = some (partW k, z)) (hk : k < 6) (hs : s ∈ waysOf k) : Good (st.set i (partW k, s)) := by
  refine ⟨fun p hp => ?_, ?_⟩
  · rcases List.mem_or_eq_of_mem_set hp with h | h
    · exact g.ok p h
    · rw [h]
      exact ⟨k, hk, rfl, hs⟩
  · rw [List.map_set]
    have e : (st.map (·.1)).set i (partW k) = st.map (·.1) := by
      obtain ⟨h1, h2⟩ := List.getElem?_eq_some_iff.mp hi
      apply List.ext_getElem?
      intro n
      by_cases hn : n = i
      · subst hn
        rw [List.getElem?_set_self (by rw [List.length_map]; exact h1), List.getElem?_map, hi]
        rfl
      · rw [List.getElem?_set_ne (Ne.symm hn)]
    show ((st.map (·.1)).set i (partW k)).Nodup
    rw [e]
    exact g.nd
theorem AreSteps.rev {G : Hp} : ∀ {xs : List V} {st : List (Str × Str)}, AreSteps K G xs st → AreSteps K G xs.reverse st.reverse
  | _, _, .nil => .nil
  | _, _, .cons r t => by rw [List.reverse_cons, List.reverse_cons]; exact AreSteps.snoc (AreSteps.rev t) r
theorem AreSteps.erase {G : Hp} : ∀ {xs : List V} {st : List (Str × Str)} (i : Nat), AreSteps K G xs st → AreSteps K G (xs.eraseIdx i) (st.eraseIdx i)
  | _, _, _, .nil => .nil
  | _, _, 0, .cons r t => t
  | _, _, i + 1, .cons r t => .cons r (AreSteps.erase i t)
theorem AreSteps.set {G : Hp} {v : V} {p : Str × Str} : ∀ {xs : List V} {st : List (Str × Str)} (i : Nat), AreSteps K G xs st → IsStep K G v p → AreSteps K G (xs.set i v) (st.set i p)
  | _, _, _, .nil, _ => .nil
  | _, _, 0, .cons r t, h => .cons h t
  | _, _, i + 1, .cons r t, h => .cons r (AreSteps.set i t h)
def spOther (K : PySem.W.Frag) : Sp := fun vs H Q _ => ∃ (b s : Addr) (x y z : Int) (G : Hp) (xs : List V) (st : List (Str × Str)), vs = [.ref b, .ref s] ∧ Same G H ∧ G b = none ∧ H b = some (bx x y z) ∧ YOk y ∧
  SqL K G s xs ∧ AreSteps K G xs st ∧ Good st ∧ 1 ≤ st.length ∧ st.length ≤ 6 ∧
  ∀ (p : Addr) (xs : List V) (st : List (Str × Str)) (G' H' : Hp) (x' z' : Int), Good st → 1 ≤ st.length → st.length ≤ 6 → AreSteps K G' xs st → Grow [b] G H G' H' → H' b = some (bx x' y z') →
    H p = none → G' p = none → H' p = some (.lst xs) → Q (.ref p) H'
theorem ok_law_other (t : T K mg) : Ok P w K mg base CX0 3 (He.ga K "_law_other") "_law_other" ["box", "steps"] (spOther K) := by
  obtain ⟨fd, F⟩ := t.d_law_other
  have O_law_take := ok_law_take (P := P) (w := w) (base := base) t
  have O_law_ways := ok_law_ways (P := P) (w := w) (base := base) t
  have O_law_steps := ok_law_steps (P := P) (w := w) (base := base) t
  refine Ok.mk0 F t.g_law_other sc_law_other (F.binds fun _ _ _ _ _ _ us hl => match us, hl with | [_, _], _ => rfl) (fun vs H Q E h => ?_) (fun cdv A outer s H vs Q E hr h => ?_)
  · obtain ⟨b, s, x, y, z, G, xs, st, rfl, _⟩ := h
    rfl
  · obtain ⟨b, s, x, y, z, G, xs, st, rfl, hG, gb, hb, hy, hs, hS, gd, h1, h6, q⟩ := h
    refine ⟨_, (pss_cons (ps_set (i := 2) sc_law_other.nd rfl (Or.inl rfl) (pe_callTy call_list_of (by rfl) t.z_list (by decide +kernel) (pa_cons (pv 1) pa_nil)))
      (pss_cons (ps_set (i := 3) sc_law_other.nd rfl (Or.inl rfl) (pe_callN O_law_take (hr.mono (by decide)) pass0 (pa_cons (pv 0) (pa_cons pe_int pa_nil))))
      (pss_cons (ps_if (pt_cmpR op_eq (pv 3) pe_int (nomark _))
        (pss_one (ps_expr (pe_bm0 PySem.F.plainAttrs_list PySem.F.slot_list_reverse PySem.F.type_list_reverse mt_reverse (pv 2))))
        (pss_one (ps_if (PW.pt (pw_and (pt_cmpR op_eq (pv 3) pe_int (nomark _)) (pw_and1 (pt_cmpR op_gt (pe_callB call_len_seq (by rfl) t.z_len boot_len (pa_cons (pv 2) pa_nil)) pe_int (nomark _)))))
          (pss_one (ps_expr (pe_bm PySem.F.plainAttrs_list PySem.F.slot_list_pop PySem.F.type_list_pop mt_popAt (pv 2) (pa_cons (pe_callN O_law_take (hr.mono (by decide)) pass0 (pa_cons (pv 0) (pa_cons (pe_callB call_len_seq (by rfl) t.z_len boot_len (pa_cons (pv 2) pa_nil)) pa_nil))) pa_nil))))
          (pss_one (ps_if (pt_cmpR op_eq (pv 3) pe_int (nomark _))
            (pss_one (ps_set (i := 2) sc_law_other.nd rfl (Or.inl rfl) (pe_callN O_law_steps (hr.mono (by decide)) pass0 (pa_cons (pv 0) pa_nil))))
            (pss_one (ps_if (pt_cmpR op_eq (pv 3) pe_int (nomark _))
              (pss_cons (ps_set (i := 4) sc_law_other.nd rfl (Or.inl rfl) (pe_callN O_law_take (hr.mono (by decide)) pass0 (pa_cons (pv 0) (pa_cons (pe_callB call_len_seq (by rfl) t.z_len boot_len (pa_cons (pv 2) pa_nil)) pa_nil))))
              (pss_cons (ps_set (i := 5) sc_law_other.nd rfl (Or.inl rfl) (pe_lst (pa_cons pe_str (pa_cons pe_str (pa_cons pe_str (pa_cons pe_str (pa_cons pe_str (pa_cons pe_str pa_nil))))))))
              (pss_cons (ps_set (i := 6) sc_law_other.nd rfl (Or.inl rfl) (pe_callN O_law_ways (hr.mono (by decide)) pass0 (pa_cons (pe_bm PySem.F.plainAttrs_list PySem.F.slot_list_index PySem.F.type_list_index mt_index (pv 5) (pa_cons (pe_ix ix_tup (pe_ix ix_list (pv 2) (pv 4) (fun _ _ => rfl)) pe_int (fun _ _ => rfl)) pa_nil)) pa_nil)))
              (pss_one (ps_asg (pe_tup (pa_cons (pe_ix ix_tup (pe_ix ix_list (pv 2) (pv 4) (fun _ _ => rfl)) pe_int (fun _ _ => rfl)) (pa_cons (pe_ix ix_list (pv 6) (pe_callN O_law_take (hr.mono (by decide)) pass0 (pa_cons (pv 0) (pa_cons (pe_callB call_len_seq (by rfl) t.z_len boot_len (pa_cons (pv 6) pa_nil)) pa_nil))) (fun _ _ => rfl)) pa_nil))) (pg_sub (pv 2) (pv 4) set_list))))))
              pss_nil)))))))
      (pss_one (ps_ret (pv 2)))))), ?_⟩
    have hz : (20 : Nat) ≤ sizeLine := by rw [sizeLine_eq]; decide
    have hlx : xs.length = st.length := Paired.length hS
    refine ⟨_, rfl, s, xs, rfl, .inl (hG.seq hs), fun l hl => ?_⟩
    have W0 := ((Wd.start1 hG hb gb).newM (o := .lst xs) hl).swap
    have l0 : H l = none := hl
    have lb : l ≠ b := fun z => by rw [z, hb] at hl; cases hl
    generalize upd H l _ = H1 at W0 ⊢
    refine ⟨_, rfl, b, x, y, z, 4, rfl, W0.here, hy, by decide, by decide, fun r x1 z1 r0 r1 => ?_⟩
    have W1 := W0.put (o' := .lst [.int x1, .int y, .int z1])
    generalize upd H1 b _ = H2 at W1 ⊢
    refine ⟨_, rfl, rfl, _, rfl, ?_⟩
    have same : ∀ {H3 : Hp} {x2 z2 : Int}, Wd [b] G H G [(b, .lst [.int x2, .int y, .int z2]), (l, .lst xs)] H3 → Q (.ref l) H3 := fun {H3 x2 z2} W =>
      q l xs st G H3 x2 z2 gd h1 h6 hS W.gr W.here l0 (W.no _ (List.mem_cons_of_mem _ (List.mem_cons_self ..))) W.here2
    obtain rfl | rfl | rfl | rfl : r = 0 ∨ r = 1 ∨ r = 2 ∨ r = 3 := by omega
    · -- turned round
      refine ite2 (fun hc => ?_) (fun hc => absurd (by decide) hc)
      refine ⟨_, rfl, .inl ⟨rfl, _, SqL.of W1.here2⟩, l, xs, rfl, rfl, W1.here2, ?_⟩
      have W2 := W1.swap.put (o' := .lst xs.reverse)
      exact ⟨_, rfl, q l xs.reverse st.reverse G _ x1 z1 gd.rev (by rw [List.length_reverse]; exact h1) (by rw [List.length_reverse]; exact h6) hS.rev W2.gr W2.here2 l0 (W2.no _ (List.mem_cons_self ..)) W2.here⟩
    · -- one left out
      refine ite2 (fun hc => absurd hc (by decide)) (fun _ => ?_)
      refine ⟨_, rfl, rfl, _, rfl, ?_⟩
      refine ite2 (fun _ => ?_) (fun hc => absurd (by decide) hc)
      refine ⟨_, rfl, l, xs, rfl, .inl (SqL.of W1.here2), _, _, rfl, rfl, _, rfl, ?_⟩
      refine ite2 (fun hc => ?_) (fun hc => ?_)
      · have hc := of_decide_eq_true hc
        refine ⟨_, rfl, .inl ⟨rfl, _, SqL.of W1.here2⟩, _, rfl, _, rfl, l, xs, rfl, .inl (SqL.of W1.here2), b, x1, y, z1, _, rfl, W1.here, hy, by omega, by omega, fun r2 x2 z2 q0 q1 => ?_⟩
        have W2 := W1.put (o' := .lst [.int x2, .int y, .int z2])
        have hr2 : r2.toNat < xs.length := by omega
        refine ⟨l, xs, r2, r2.toNat, xs[r2.toNat], rfl, rfl, W2.here2, by omega, by omega, seqIx q0 q1, List.getElem?_eq_getElem hr2, ?_⟩
        have W3 := W2.swap.put (o' := .lst (xs.eraseIdx r2.toNat))
        have hle : (st.eraseIdx r2.toNat).length = st.length - 1 := List.length_eraseIdx_of_lt (by omega)
        exact ⟨_, rfl, q l (xs.eraseIdx r2.toNat) (st.eraseIdx r2.toNat) G _ x2 z2 (gd.erase _) (by omega) (by omega) (hS.erase _) W3.gr W3.here2 l0 (W3.no _ (List.mem_cons_self ..)) W3.here⟩
      · refine ⟨_, rfl, rfl, _, rfl, ?_⟩
        refine ite2 (fun hc => absurd hc (by decide)) (fun _ => ?_)
        refine ⟨_, rfl, rfl, _, rfl, ?_⟩
        refine ite2 (fun hc => absurd hc (by decide)) (fun _ => ?_)
        exact ⟨_, rfl, same W1⟩
    · -- other steps
      refine ite2 (fun hc => absurd hc (by decide)) (fun _ => ?_)
      refine ⟨_, rfl, rfl, _, rfl, ?_⟩
      refine ite2 (fun hc => absurd hc (by decide)) (fun _ => ?_)
      refine ⟨_, rfl, rfl, _, rfl, ?_⟩
      refine ite2 (fun _ => ?_) (fun hc => absurd (by decide) hc)
      refine ⟨_, rfl, b, x1, y, z1, G, rfl, W1.kn, gb, W1.here, hy, fun p xs2 st2 G2 H3 x2 z2 gd2 k1 k6 hS2 g2 hb2 hp1 hp2 hp3 => ?_⟩
      have W2 := W1.call1 g2 hb2
      exact ⟨_, rfl, q p xs2 st2 G2 H3 x2 z2 gd2 k1 k6 hS2 W2.gr hb2 (W1.fresh0 hp1) hp2 hp3⟩
    · -- another way for one of them
      refine ite2 (fun hc => absurd hc (by decide)) (fun _ => ?_)
      refine ⟨_, rfl, rfl, _, rfl, ?_⟩
      refine ite2 (fun hc => absurd hc (by decide)) (fun _ => ?_)
      refine ⟨_, rfl, rfl, _, rfl, ?_⟩
      refine ite2 (fun hc => absurd hc (by decide)) (fun _ => ?_)
      refine ⟨_, rfl, rfl, _, rfl, ?_⟩
      refine ite2 (fun _ => ?_) (fun hc => absurd (by decide) hc)
      refine ⟨_, rfl, _, rfl, l, xs, rfl, .inl (SqL.of W1.here2), b, x1, y, z1, _, rfl, W1.here, hy, by omega, by omega, fun r2 x2 z2 q0 q1 => ?_⟩
      have W2 := W1.put (o' := .lst [.int x2, .int y, .int z2])
      generalize upd H2 b _ = H3 at W2 ⊢
      refine ⟨(by show 6 ≤ sizeLine; omega), fun W hW => ?_⟩
      have W3 := W2.newP (o := .lst [.str "letters", .str "number", .str "points", .str "makers", .str "year", .str "copy"]) hW
      have aW : SqL K (upd G W (.lst [.str "letters", .str "number", .str "points", .str "makers", .str "year", .str "copy"])) W (words6.map V.str) := SqL.of upd_same
      have hS := hS.mono (W2.newG hW (o := .lst [.str "letters", .str "number", .str "points", .str "makers", .str "year", .str "copy"]))
      generalize upd G W _ = G1 at W3 aW hS
      generalize upd H3 W _ = H4 at W3 ⊢
      have hr2 : r2.toNat < xs.length := by omega
      have er2 : r2 = (r2.toNat : Int) := by omega
      obtain ⟨⟨p1, p2⟩, hp1, ⟨a1, ea1, hT1⟩⟩ := paired_at hS (List.getElem?_eq_getElem hr2)
      obtain ⟨k, hk, e1, e2⟩ := gd.ok _ (List.mem_of_getElem? hp1)
      dsimp only at e1 e2 hT1
      subst e1
      have at2 : atI xs r2 = some (.ref a1) := (congrArg _ er2).trans (atI_nat (by rw [List.getElem?_eq_getElem hr2, ea1]))
      refine ⟨_, rfl, .inl ⟨rfl, _, W3.kn.seq aW⟩, _, rfl, _, rfl, l, xs, r2, .ref a1, rfl, rfl, SqL.of W3.here2, at2, a1, _, 0, .str (partW k), rfl, rfl, same_t W3.kn hT1, atI_nat (j := 0) rfl, ?_⟩
      refine ⟨W, words6.map V.str, .str (partW k), k, .str (partW k), rfl, rfl, W3.kn.seq aW, rfl, words_flat, words_at hk, by simp [eqV], fun m z' hm hz' => ?_, ?_⟩
      · have hm6 : m < 6 := by omega
        rw [words_at hm6] at hz'
        cases hz'
        have : partW m ≠ partW k := fun e => absurd (partW_inj hm6 hk e) (by omega)
        simp [eqV, this]
      refine ⟨k, rfl, hk, fun p3 H5 hp3 e5 h5 => ?_⟩
      have g1 := grow_one W3.kn hp3 e5 h5
      have W4 := W3.call g1
      have ap : SqL K (upd G1 p3 (.lst ((waysOf k).map V.str))) p3 ((waysOf k).map V.str) := SqL.of upd_same
      have hS := hS.mono g1.g
      have hT1 := same_t g1.g hT1
      generalize upd G1 p3 _ = G2 at W4 ap hS hT1
      refine ⟨_, rfl, _, rfl, l, xs, r2, .ref a1, rfl, rfl, SqL.of W4.here2, at2, a1, _, 0, .str (partW k), rfl, rfl, same_t W4.kn hT1, atI_nat (j := 0) rfl, ?_⟩
      have hw := len_ways (k := k)
      refine ⟨_, rfl, _, rfl, _, rfl, p3, _, rfl, .inl (W4.kn.seq ap), b, x2, y, z2, _, rfl, W4.here, hy, ?_, ?_, fun r3 x3 z3 u0 u1 => ?_⟩
      · show (0 : Int) < (((waysOf k).map V.str).length : Int)
        rw [List.length_map]
        omega
      · show (((waysOf k).map V.str).length : Int) < 1073741824
        rw [List.length_map]
        omega
      rw [List.length_map] at u1
      have W5 := W4.put (o' := .lst [.int x3, .int y, .int z3])
      generalize upd H5 b _ = H6 at W5 ⊢
      have hq : r3.toNat < (waysOf k).length := by omega
      have er3 : r3 = (r3.toNat : Int) := by omega
      refine ⟨p3, _, r3, .str ((waysOf k)[r3.toNat]'hq), rfl, rfl, W5.kn.seq ap, ?_, ?_⟩
      · refine (congrArg _ er3).trans (atI_nat ?_)
        rw [List.getElem?_map]
        simp [hq]
      refine ⟨(by show 2 ≤ sizeLine; omega), fun p4 hp4 => ?_⟩
      have W6 := W5.newP (o := .tup [.str (partW k), .str ((waysOf k)[r3.toNat]'hq)]) hp4
      have gg := W5.newG hp4 (o := .tup [.str (partW k), .str ((waysOf k)[r3.toNat]'hq)])
      have aP : IsStep K (upd G2 p4 (.tup [.str (partW k), .str ((waysOf k)[r3.toNat]'hq)])) (.ref p4) (partW k, (waysOf k)[r3.toNat]'hq) := ⟨p4, rfl, SqT.of upd_same⟩
      have hS := hS.mono gg
      generalize upd G2 p4 _ = G3 at W6 aP hS
      generalize upd H6 p4 _ = H7 at W6 ⊢
      refine ⟨_, rfl, _, rfl, l, xs, r2, r2.toNat, rfl, rfl, W6.here2, ?_, ?_⟩
      · rw [er2]
        simp only [Int.toNat_natCast]
        exact ixN_nat hr2
      have W7 := W6.swap.put (o' := .lst (xs.set r2.toNat (.ref p4)))
      exact ⟨_, rfl, q l _ (st.set r2.toNat (partW k, (waysOf k)[r3.toNat]'hq)) G3 _ x3 z3 (gd.set hp1 hk (List.getElem_mem hq)) (by rw [List.length_set]; exact h1) (by rw [List.length_set]; exact h6) (hS.set _ aP) W7.gr W7.here2 l0 (W7.no _ (List.mem_cons_self ..)) W7.here⟩
end
end K51
set_option Elab.async false
set_option linter.all false
set_option maxRecDepth 100000
set_option maxHeartbeats 4000000
set_option pp.maxSteps 400
namespace Sv
open PySem PySem.Spec PyProof.Rows L2
/-- one of the new cells is told -/
theorem Wd.got {bs : List Addr} {G0 H0 G : Hp} {M : List (Addr × HO)} {H : Hp} {p : Addr} {o : HO} (W : Wd bs G0 H0 G M H) (h : H p = Option.some o) (hg : G p = none) (hn : H0 p = none) (hM : ∀ q ∈ M, q.1 ≠ p) : Wd bs G0 H0 G ((p, o) :: M) H := by
  refine ⟨W.gr, fun q hq => ?_, fun q hq => ?_, ?_, fun q hq => ?_⟩
  · rcases List.mem_cons.mp hq with rfl | hq
    · exact h
    · exact W.at_ q hq
  · rcases List.mem_cons.mp hq with rfl | hq
    · exact hg
    · exact W.no q hq
  · rw [List.map_cons, List.nodup_cons]
    refine ⟨fun hm => ?_, W.nd⟩
    obtain ⟨q, hq, e⟩ := List.mem_map.mp hm
    exact hM q hq e
  · rcases List.mem_cons.mp hq with rfl | hq
    · exact .inr hn
    · exact W.own q hq
end Sv
namespace K51
open PySem PySem.Spec PyProof.Rows L2 Sv
section
variable {P : Program} {w : World} {K : PySem.W.Frag} {mg : Str → Option Value} {base : Heap}
def blsD (bs : List Bool) : PyData := .list (bs.map .bool)
theorem bls_dp {H : Hp} : ∀ bs : List Bool, DpAll K H (bs.map V.bl) (bs.map .bool)
  | [] => .nil
  | b :: bs => .cons (.bl b) (bls_dp bs)
theorem bls4_shw (a b c d : Bool) : Shw (blsD [a, b, c, d]) ∧ (blsD [a, b, c, d]).hasDict = false := by
  have h : ∀ a b c d : Bool, (blsD [a, b, c, d]).showable = true ∧ (blsD [a, b, c, d]).depth ≤ 60 ∧ (blsD [a, b, c, d]).leavesShort 64 = true ∧ (blsD [a, b, c, d]).weight ≤ 131072 ∧ (blsD [a, b, c, d]).hasDict = false := by decide +kernel
  obtain ⟨h1, h2, h3, h4, h5⟩ := h a b c d
  exact ⟨Shw.of h1 h2 h3 h4, h5⟩
def spLaw (K : PySem.W.Frag) : Sp := fun vs H Q _ => ∃ (G : Hp) (a : Addr) (ns : List Int), vs = [.ref a] ∧ Same G H ∧ SqL K G a (ns.map V.int) ∧ ∀ G' H', Grow [] G H G' H' → Q (.bl true) H'
/-- one rule against another -/
theorem eq_rules (t : T K mg) {H : Hp} {x y : V} {xs ys : List V} {s1 s2 : List (Str × Str)} {Q : VK} {E : XK} {neg : Bool} (h1 : IsRule K H x xs) (h2 : IsRule K H y ys) (hS1 : AreSteps K H xs s1) (hS2 : AreSteps K H ys s2) (k1 : ∀ p ∈ s1, StepOk p) (k2 : ∀ p ∈ s2, StepOk p)
    (q : Q (.bl (neg != decide (s1 = s2))) H) : rOwnEq K (He.ga K "Rule") (spEq K) E neg x y H Q := by
  have ty := h2.ty t
  obtain ⟨x1, dx1, f1, rfl, a1, b1⟩ := id h1
  refine ⟨x1, dx1, _, _, rfl, a1, ty, ?_, .ref x1, y, xs, rfl, h1, .inr ⟨ys, s1, s2, h2, hS1, hS2, k1, k2, _, rfl, q⟩⟩
  unfold PySem.W.notFirst
  simp
theorem eq_other {H : Hp} {x y : V} {xs : List V} {ty : String} {Q : VK} {E : XK} (h1 : IsRule K H x xs) (hy : TyX K H y (.type ty)) (hf : PySem.W.notFirst K (He.ga K "Rule") (.type ty) = true) (hk : PySem.W.kitOne K (.type ty) (.ref (He.ga K "Rule")) = some false)
    (q : Q (.bl false) H) : rOwnEq K (He.ga K "Rule") (spEq K) E false x y H Q := by
  obtain ⟨x1, dx1, f1, rfl, a1, b1⟩ := id h1
  exact ⟨x1, dx1, _, _, rfl, a1, hy, hf, .ref x1, y, xs, rfl, h1, .inl ⟨ty, hy, hk, _, rfl, q⟩⟩
theorem ok_law_first (t : T K mg) : OkG P w K mg base 9 (He.ga K "_law_first") "_law_first" ["script"] (spLaw K) := by
  obtain ⟨fd, F⟩ := t.d_law_first
  have O_law_take := ok_law_take (P := P) (w := w) (base := base) t
  have O_law_cell := ok_law_cell (P := P) (w := w) (base := base) t
  have O_law_box := ok_law_box (P := P) (w := w) (base := base) t
  have O_law_steps := ok_law_steps (P := P) (w := w) (base := base) t
  have O_law_other := ok_law_other (P := P) (w := w) (base := base) t
  have O_law_right := ok_law_right (P := P) (w := w) (base := base) t
  have O_law_parts_told := ok_law_parts_told (P := P) (w := w) (base := base) t
  obtain ⟨fI, FI, bI⟩ := ok_init (P := P) (w := w) (base := base) t
  obtain ⟨fE, FE, bE⟩ := ok_eq (P := P) (w := w) (base := base) t
  refine OkG.mk0 F t.g_law_first sc_law_first (F.binds fun _ _ _ _ _ _ us hl => match us, hl with | [_], _ => rfl) (fun vs H Q E h => ?_) (fun cdv A outer s H vs Q E hG hr h => ?_)
  · obtain ⟨G, a, ns, rfl, _⟩ := h
    rfl
  · obtain ⟨G, a, ns, rfl, hSm, ha, q⟩ := h
    refine ⟨_, (pss_cons (ps_for PassesOwn.never rfl (pi_range1 rfl t.z_range (pa_cons (pe_callB (call_max2 rfl) (by rfl) t.z_max boot_max (pa_cons pe_int (pa_cons (pe_callB (call_min2 rfl) (by rfl) t.z_min boot_min (pa_cons pe_int (pa_cons (pe_callB call_len_seq (by rfl) t.z_len boot_len (pa_cons (pv 0) pa_nil)) pa_nil))) pa_nil))) pa_nil)) (pg_name (i := 1) sc_law_first.nd rfl (Or.inl rfl))
        (pss_cons (ps_set (i := 2) sc_law_first.nd rfl (Or.inl rfl) (pe_callN O_law_box (hr.mono (by decide)) pass0 (pa_cons (pe_callN O_law_cell (hr.mono (by decide)) pass0 (pa_cons (pv 0) (pa_cons (pv 1) pa_nil))) pa_nil)))
        (pss_cons (ps_set (i := 3) sc_law_first.nd rfl (Or.inl rfl) (pe_callN O_law_steps (hr.mono (by decide)) pass0 (pa_cons (pv 2) pa_nil)))
        (pss_cons (ps_set (i := 4) sc_law_first.nd rfl (Or.inl rfl) (pe_callN O_law_other (hr.mono (by decide)) pass0 (pa_cons (pv 2) (pa_cons (pv 3) pa_nil))))
        (pss_cons (ps_set (i := 5) sc_law_first.nd rfl (Or.inl rfl) (pe_callTy call_list_of (by rfl) t.z_list (by decide +kernel) (pa_cons (pv 3) pa_nil)))
        (pss_cons (ps_set (i := 6) sc_law_first.nd rfl (Or.inl rfl) (pe_make t.mkr FI (hr.mono (by decide)) (by rfl) t.g_Rule bI .nil passL (pa_cons (pe_ix ix_list (pe_lst (pa_cons (pv 5) (pa_cons (pe_callTy call_tuple_of (by rfl) t.z_tuple (by decide +kernel) (pa_cons (pv 5) pa_nil)) pa_nil))) (pe_callN O_law_take (hr.mono (by decide)) pass0 (pa_cons (pv 2) (pa_cons pe_int pa_nil))) (fun _ _ => rfl)) pa_nil)))
        (pss_cons (ps_set (i := 7) sc_law_first.nd rfl (Or.inl rfl) (pe_make t.mkr FI (hr.mono (by decide)) (by rfl) t.g_Rule bI .nil passL (pa_cons (pv 4) pa_nil)))
        (pss_cons (ps_expr (pe_bm0 PySem.F.plainAttrs_list PySem.F.slot_list_reverse PySem.F.type_list_reverse mt_reverse (pv 5)))
        (pss_cons (ps_expr (pe_bm PySem.F.plainAttrs_list PySem.F.slot_list_append PySem.F.type_list_append mt_append (pv 5) (pa_cons (pe_tup (pa_cons pe_str (pa_cons pe_str pa_nil))) pa_nil)))
        (pss_cons (ps_set (i := 8) sc_law_first.nd rfl (Or.inl rfl) (pe_lst (pa_cons (pe_cmpR (op_ownEq t.eqc FE (hr.mono (by decide)) bE pass0) (pv 6) (pv 7) (nomark _)) (pa_cons (pe_cmpR (op_ownEq t.eqc FE (hr.mono (by decide)) bE pass0) (pv 7) (pv 6) (nomark _)) (pa_cons (pe_cmpR (op_ownNe t.eqc FE (hr.mono (by decide)) bE pass0) (pv 6) (pv 7) (nomark _)) (pa_cons (pe_cmpR (op_ownEq t.eqc FE (hr.mono (by decide)) bE pass0) (pv 6) (pe_make t.mkr FI (hr.mono (by decide)) (by rfl) t.g_Rule bI .nil passL (pa_cons (pe_callTy call_tuple_of (by rfl) t.z_tuple (by decide +kernel) (pa_cons (pv 3) pa_nil)) pa_nil)) (nomark _)) pa_nil))))))
        (pss_cons (ps_if (pt_cmpR op_ne (pe_callB (call_repr hG (Room.u100 hr)) (by rfl) t.z_repr (by decide +kernel) (pa_cons (pv 8) pa_nil)) (pe_callB (call_repr hG (Room.u100 hr)) (by rfl) t.z_repr (by decide +kernel) (pa_cons (pe_lst (pa_cons (pe_cmpR (op_eqD hr.units) (pv 3) (pv 4) (nomark _)) (pa_cons (pe_cmpR (op_eqD hr.units) (pv 3) (pv 4) (nomark _)) (pa_cons (pe_cmpR (op_neD hr.units) (pv 3) (pv 4) (nomark _)) (pa_cons pe_bl pa_nil))))) pa_nil)) (nomark _))
          (pss_one (ps_ret pe_bl))
          pss_nil)
        (pss_cons (ps_if (PW.pt (pw_or (pt_not (pt_val (pe_gcallN O_law_right hG (hr.mono (by decide)) pass0 (pa_cons (pv 6) (pa_cons (pv 3) pa_nil))))) (pw_or (pt_not (pt_val (pe_gcallN O_law_right hG (hr.mono (by decide)) pass0 (pa_cons (pv 7) (pa_cons (pv 4) pa_nil))))) (pw_or1 (pt_not (pt_val (pe_gcallN O_law_right hG (hr.mono (by decide)) pass0 (pa_cons (pv 6) (pa_cons (pv 3) pa_nil)))))))))
          (pss_one (ps_ret pe_bl))
          pss_nil)
        (pss_one (ps_if (PW.pt (pw_or (pt_cmpR (op_ownEq t.eqc FE (hr.mono (by decide)) bE pass0) (pv 6) (pv 3) (nomark _)) (pw_or (pt_cmpR (op_ownEq t.eqc FE (hr.mono (by decide)) bE pass0) (pv 6) pe_str (nomark _)) (pw_or (pt_cmpR (op_ownEq t.eqc FE (hr.mono (by decide)) bE pass0) (pv 6) (pe_callB call_len_seq (by rfl) t.z_len boot_len (pa_cons (pv 3) pa_nil)) (nomark _)) (pw_or1 (pt_cmpR (op_ownEq t.eqc FE (hr.mono (by decide)) bE pass0) (pv 7) (pe_callTy call_tuple_of (by rfl) t.z_tuple (by decide +kernel) (pa_cons (pv 4) pa_nil)) (nomark _)))))))
          (pss_one (ps_ret pe_bl))
          pss_nil))))))))))))))
      (pss_one (ps_ret (pe_callN0 O_law_parts_told hr pass0)))), ?_⟩
    have hz : (20 : Nat) ≤ sizeLine := by rw [sizeLine_eq]; decide
    refine ⟨_, rfl, a, _, rfl, .inl (hSm.seq ha), 16, _, rfl, 2, _, rfl, _, rfl, ?_, ?_, for_range (lo := 0) (fun i σ H' => (∃ c1 c2 c3 c4 c5 c6 c7 c8, σ = [some (.ref a), c1, c2, c3, c4, c5, c6, c7, c8]) ∧ ∃ G', Wd [] G H G' [] H') ⟨⟨none, none, none, none, none, none, none, none, rfl⟩, G, Wd.start0 hSm⟩ ?_ ?_⟩
    · split <;> split <;> omega
    · split <;> split <;> omega
    · rintro i σ H2 hi ⟨⟨c1, c2, c3, c4, c5, c6, c7, c8, rfl⟩, G1, V0⟩
      -- the box
      refine ⟨_, rfl, _, rfl, a, ns, i, by simp, (V0.gr.g.trans V0.kn).seq ha, fun c => ⟨c, rfl, fun b x y z hb y0 y1 => ?_⟩⟩
      have V1 := V0.newM (o := bx x y z) hb
      have b0 := V0.fresh hb
      generalize hH3 : upd H2 b (.lst [.int x, .int y, .int z]) = H3
      have V1 : Wd [] G H G1 [(b, bx x y z)] H3 := hH3 ▸ V1
      -- the steps
      refine ⟨_, rfl, b, x, y, z, G1, rfl, V1.kn, b0, V1.here, ⟨y0, y1⟩, fun p1 xs1 st1 G2 H4 x2 z2 gd1 l1 l6 hS1 g1 hb1 k1 k2 k3 => ?_⟩
      have bp1 : b ≠ p1 := fun e => by rw [← e, V1.here] at k1; cases k1
      have V2 := (V1.call1 g1 hb1).got k3 k2 (V1.fresh0 k1) (by simpa using bp1)
      have V3 := V2.fix (by simp)
      have hS1 := hS1.mono V2.fixG
      have a1 : SqL K (upd G2 p1 (.lst xs1)) p1 xs1 := SqL.of upd_same
      generalize upd G2 p1 (.lst xs1) = G3 at V3 hS1 a1
      clear V2 g1 hb1 k1 k2 k3 bp1
      -- the other steps
      refine ⟨_, rfl, _, rfl, b, p1, x2, y, z2, G3, xs1, st1, rfl, V3.kn, V3.no _ (List.mem_cons_self ..), V3.here, ⟨y0, y1⟩, a1, hS1, gd1, l1, l6, fun p2 xs2 st2 G4 H5 x3 z3 gd2 m1 m6 hS2 g2 hb2 k1 k2 k3 => ?_⟩
      have bp2 : b ≠ p2 := fun e => by rw [← e, V3.here] at k1; cases k1
      have V4 := (V3.call1 g2 hb2).got k3 k2 (V3.fresh0 k1) (by simpa using bp2)
      have V5 := V4.fix (by simp)
      have e5 := g2.g.trans V4.fixG
      have hS1 := hS1.mono e5
      have a1 := e5.seq a1
      have hS2 := hS2.mono V4.fixG
      have a2 : SqL K (upd G4 p2 (.lst xs2)) p2 xs2 := SqL.of upd_same
      generalize upd G4 p2 (.lst xs2) = G5 at V5 hS1 a1 hS2 a2
      clear V4 g2 hb2 k1 k2 k3 bp2 e5
      -- handed
      refine ⟨_, rfl, p1, xs1, rfl, .inl (V5.kn.seq a1), fun h hh => ?_⟩
      have V6 := V5.newM (o := .lst xs1) hh
      generalize upd H5 h _ = H6 at V6 ⊢
      -- one
      refine ⟨_, rfl, _, rfl, h, xs1, rfl, .inl ⟨SqL.of V6.here, fun tq htq => ?_⟩⟩
      have V7 := V6.newP (o := .tup xs1) htq
      have e7 := V6.newG htq (o := .tup xs1)
      have a1 := e7.seq a1
      have a2 := e7.seq a2
      have hS1 := hS1.mono e7
      have hS2 := hS2.mono e7
      have aq : SqT K (upd G5 tq (.tup xs1)) tq xs1 := SqT.of upd_same
      generalize upd G5 tq _ = G7 at V7 a1 a2 hS1 hS2 aq
      generalize upd H6 tq _ = H7 at V7 ⊢
      refine ⟨(by show 2 ≤ sizeLine; omega), fun L hL => ?_⟩
      have V8 := V7.newP (o := .lst [.ref h, .ref tq]) hL
      have e8 := V7.newG hL (o := .lst [.ref h, .ref tq])
      have a1 := e8.seq a1
      have a2 := e8.seq a2
      have hS1 := hS1.mono e8
      have hS2 := hS2.mono e8
      have aq := same_t e8 aq
      have aL : SqL K (upd G7 L (.lst [.ref h, .ref tq])) L [.ref h, .ref tq] := SqL.of upd_same
      generalize upd G7 L _ = G8 at V8 a1 a2 hS1 hS2 aq aL
      generalize upd H7 L _ = H8 at V8 ⊢
      clear e7 e8 V6 V7 V5 V3
      refine ⟨_, rfl, b, x3, y, z3, 2, rfl, V8.here2, ⟨y0, y1⟩, by decide, by decide, fun r x4 z4 r0 r1 => ?_⟩
      have V9 := V8.swap.put (o' := .lst [.int x4, .int y, .int z4])
      generalize upd H8 b _ = H9 at V9 ⊢
      have pick : ∃ a', atI [V.ref h, .ref tq] r = some (.ref a') ∧ (SqL K H9 a' xs1 ∨ SqT K H9 a' xs1) := by
        obtain rfl | rfl : r = 0 ∨ r = 1 := by omega
        · exact ⟨h, rfl, .inl (SqL.of V9.here2)⟩
        · exact ⟨tq, rfl, .inr (same_t V9.kn aq)⟩
      obtain ⟨a', pk1, pk2⟩ := pick
      refine ⟨L, _, r, .ref a', rfl, rfl, V9.kn.seq aL, pk1, fun one dx1 n1 n1' hne1 => rule_at n1 n1' hne1 V9.kn pk2 hS1 gd1 l1 l6 fun G9 H10 g9 hR1 => ?_⟩
      have V10 := V9.call g9
      have a1 := g9.g.seq a1
      have a2 := g9.g.seq a2
      have hS1 := hS1.mono g9.g
      have hS2 := hS2.mono g9.g
      clear aq aL V9 V8 g9 pk1 pk2
      -- other
      refine ⟨_, rfl, fun oth dx2 n2 n2' hne2 => rule_at n2 n2' hne2 V10.kn (.inl (V10.kn.seq a2)) hS2 gd2 m1 m6 fun G11 H11 g11 hR2 => ?_⟩
      have V11 := V10.call g11
      have a1 := g11.g.seq a1
      have a2 := g11.g.seq a2
      have hS1 := hS1.mono g11.g
      have hS2 := hS2.mono g11.g
      have hR1 := hR1.mono g11.g
      clear V10 g11
      have hlx : xs1.length = st1.length := Paired.length hS1
      -- handed is changed
      refine ⟨_, rfl, .inl ⟨rfl, _, SqL.of V11.here2⟩, h, xs1, rfl, rfl, V11.here2, ?_⟩
      have V12 := V11.swap.put (o' := .lst xs1.reverse)
      generalize upd H11 h _ = H12 at V12 ⊢
      refine ⟨_, rfl, .inl ⟨rfl, _, SqL.of V12.here⟩, (by show 2 ≤ sizeLine; omega), fun p hp => ?_⟩
      have V13 := V12.junk (o := .tup [.str "copy", .str "falling"]) hp
      generalize upd H12 p _ = H13 at V13 ⊢
      refine ⟨h, xs1.reverse, .ref p, rfl, rfl, V13.here, by rw [List.length_reverse]; omega, ?_⟩
      have V14 := (V13.put (o' := .lst (xs1.reverse ++ [.ref p]))).tail.tail
      generalize upd H13 h _ = H14 at V14 ⊢
      clear V11 V12 V13
      -- the comparisons
      have r1 := hR1.mono V14.kn
      have r2 := hR2.mono V14.kn
      have s1 := hS1.mono V14.kn
      have s2 := hS2.mono V14.kn
      refine ⟨_, rfl, _, rfl, eq_rules t r1 r2 s1 s2 gd1.ok gd2.ok ?_⟩
      refine ⟨_, rfl, _, rfl, eq_rules t r2 r1 s2 s1 gd2.ok gd1.ok ?_⟩
      refine ⟨_, rfl, _, rfl, eq_rules t r1 r2 s1 s2 gd1.ok gd2.ok ?_⟩
      refine ⟨_, rfl, _, rfl, p1, xs1, rfl, .inl ⟨V14.kn.seq a1, fun tq2 htq2 => ?_⟩⟩
      have V15 := V14.newP (o := .tup xs1) htq2
      have e15 := V14.newG htq2 (o := .tup xs1)
      have a1 := e15.seq a1
      have a2 := e15.seq a2
      have hS1 := hS1.mono e15
      have hS2 := hS2.mono e15
      have hR1 := hR1.mono e15
      have hR2 := hR2.mono e15
      have aq : SqT K (upd G11 tq2 (.tup xs1)) tq2 xs1 := SqT.of upd_same
      generalize upd G11 tq2 _ = G15 at V15 a1 a2 hS1 hS2 aq hR1 hR2
      generalize upd H14 tq2 _ = H15 at V15 ⊢
      clear V14 e15 r1 r2 s1 s2
      refine fun thi dx3 n3 n3' hne3 => rule_at n3 n3' hne3 V15.kn (.inr (same_t V15.kn aq)) hS1 gd1 l1 l6 fun G16 H16 g16 hR3 => ?_
      have V16 := V15.call g16
      have a1 := g16.g.seq a1
      have a2 := g16.g.seq a2
      have hS1 := hS1.mono g16.g
      have hS2 := hS2.mono g16.g
      have hR1 := hR1.mono g16.g
      have hR2 := hR2.mono g16.g
      clear V15 g16 aq
      refine eq_rules t (hR1.mono V16.kn) (hR3.mono V16.kn) (hS1.mono V16.kn) (hS1.mono V16.kn) gd1.ok gd1.ok ?_
      refine ⟨(by show 4 ≤ sizeLine; omega), fun Lf hLf => ?_⟩
      have V17 := V16.newP (o := .lst ([false != decide (st1 = st2), false != decide (st2 = st1), true != decide (st1 = st2), false != decide (st1 = st1)].map V.bl)) hLf
      have e17 := V16.newG hLf (o := .lst ([false != decide (st1 = st2), false != decide (st2 = st1), true != decide (st1 = st2), false != decide (st1 = st1)].map V.bl))
      have aF : SqL K (upd G16 Lf (.lst ([false != decide (st1 = st2), false != decide (st2 = st1), true != decide (st1 = st2), false != decide (st1 = st1)].map V.bl))) Lf ([false != decide (st1 = st2), false != decide (st2 = st1), true != decide (st1 = st2), false != decide (st1 = st1)].map V.bl) := SqL.of upd_same
      have a1 := e17.seq a1
      have a2 := e17.seq a2
      have hS1 := hS1.mono e17
      have hS2 := hS2.mono e17
      have hR1 := hR1.mono e17
      have hR2 := hR2.mono e17
      generalize upd G16 Lf _ = G17 at V17 a1 a2 hS1 hS2 hR1 hR2 aF
      generalize hH17 : upd H16 Lf (.lst [.bl (false != decide (st1 = st2)), .bl (false != decide (st2 = st1)), .bl (true != decide (st1 = st2)), .bl (false != decide (st1 = st1))]) = H17
      have V17 : Wd [] G H G17 [] H17 := hH17 ▸ V17
      clear V16 e17 hR3 hLf
      have w4 := bls4_shw (false != decide (st1 = st2)) (false != decide (st2 = st1)) (true != decide (st1 = st2)) (false != decide (st1 = st1))
      refine ⟨_, rfl, _, blsD [false != decide (st1 = st2), false != decide (st2 = st1), true != decide (st1 = st2), false != decide (st1 = st1)], rfl, .inl ⟨.lst (V17.kn.seq aF) (bls_dp _), w4.2⟩, w4.1, ?_⟩
      have d1 : ∀ {H' : Hp}, Same G17 H' → Dp K H' (.ref p1) (stepsD st1) := fun e => .lst (e.seq a1) (steps_dp (hS1.mono e))
      have d2 : ∀ {H' : Hp}, Same G17 H' → Dp K H' (.ref p2) (stepsD st2) := fun e => .lst (e.seq a2) (steps_dp (hS2.mono e))
      have t1 := steps_shaped gd1.ok
      have t2 := steps_shaped gd2.ok
      refine ⟨_, rfl, _, rfl, stepsD st1, stepsD st2, d1 V17.kn, d2 V17.kn, t1, t2, _, rfl, _, rfl, stepsD st1, stepsD st2, d1 V17.kn, d2 V17.kn, t1, t2, _, rfl, _, rfl, stepsD st1, stepsD st2, d1 V17.kn, d2 V17.kn, t1, t2, (by show 4 ≤ sizeLine; omega), fun L2 hL2 => ?_⟩
      have ee : PyData.eqv (stepsD st1) (stepsD st2) = decide (st1 = st2) := by simp only [stepsD, PyData.eqv]; exact steps_eqv
      rw [ee]
      have V18 := V17.junk (o := .lst ([decide (st1 = st2), decide (st1 = st2), !decide (st1 = st2), true].map V.bl)) hL2
      have aF2 : SqL K (upd H17 L2 (.lst ([decide (st1 = st2), decide (st1 = st2), !decide (st1 = st2), true].map V.bl))) L2 ([decide (st1 = st2), decide (st1 = st2), !decide (st1 = st2), true].map V.bl) := SqL.of upd_same
      generalize hH18 : upd H17 L2 (.lst [.bl (decide (st1 = st2)), .bl (decide (st1 = st2)), .bl (!decide (st1 = st2)), .bl true]) = H18
      have V18 : Wd [] G H G17 [] H18 := hH18 ▸ V18
      have aF2 : SqL K H18 L2 ([decide (st1 = st2), decide (st1 = st2), !decide (st1 = st2), true].map V.bl) := hH18 ▸ aF2
      have u4 := bls4_shw (decide (st1 = st2)) (decide (st1 = st2)) (!decide (st1 = st2)) true
      refine ⟨_, blsD [decide (st1 = st2), decide (st1 = st2), !decide (st1 = st2), true], rfl, .inl ⟨.lst aF2 (bls_dp _), u4.2⟩, u4.1, rfl, _, rfl, ?_⟩
      have lists : [false != decide (st1 = st2), false != decide (st2 = st1), true != decide (st1 = st2), false != decide (st1 = st1)] = [decide (st1 = st2), decide (st1 = st2), !decide (st1 = st2), true] := by
        have c : decide (st2 = st1) = decide (st1 = st2) := by rw [Bool.eq_iff_iff]; simp [eq_comm]
        rw [c]
        cases decide (st1 = st2) <;> simp
      rw [lists]
      refine ite2 (fun hc => absurd hc (by simp)) fun _ => ?_
      clear V17 aF aF2 hH17 hH18 hL2 w4 u4 lists ee
      -- asked twice over
      refine ⟨_, rfl, _, rfl, G17, .ref one, p1, xs1, xs1, st1, rfl, V18.kn, hR1, hS1, a1, hS1, gd1.ok, l6, fun H19 g19 => ⟨_, rfl, ?_⟩⟩
      have V19 := V18.call g19
      refine ⟨_, rfl, _, rfl, G17, .ref oth, p2, xs2, xs2, st2, rfl, V19.kn, hR2, hS2, a2, hS2, gd2.ok, m6, fun H20 g20 => ⟨_, rfl, ?_⟩⟩
      have V20 := V19.call g20
      refine ⟨_, rfl, _, rfl, G17, .ref one, p1, xs1, xs1, st1, rfl, V20.kn, hR1, hS1, a1, hS1, gd1.ok, l6, fun H21 g21 => ⟨_, rfl, ?_⟩⟩
      have V21 := V20.call g21
      -- against other things
      refine ⟨_, rfl, _, rfl, eq_other (hR1.mono V21.kn) (tyL (V21.kn.seq a1)) t.f_Rule_list t.q_Rule_list ⟨_, rfl, ?_⟩⟩
      obtain ⟨x1, dx5, f5, ex1, ax1, bx1⟩ := id hR1
      cases ex1
      refine ⟨_, rfl, one, dx5, _, .type "str", rfl, V21.kn _ _ ax1, .base (.str _), t.f_Rule_str, .ref one, .str "words", xs1, rfl, hR1.mono V21.kn, .inl ⟨"str", .base (.str _), t.q_Rule_str, _, rfl, _, rfl, ?_⟩⟩
      refine ⟨_, rfl, _, rfl, p1, xs1, rfl, .inl (V21.kn.seq a1), one, dx5, _, .type "int", rfl, V21.kn _ _ ax1, .base (.int _), t.f_Rule_int, .ref one, .int xs1.length, xs1, rfl, hR1.mono V21.kn, .inl ⟨"int", .base (.int _), t.q_Rule_int, _, rfl, _, rfl, ?_⟩⟩
      obtain ⟨x2', dx6, f6, ex2, ax2, bx2⟩ := id hR2
      cases ex2
      refine ⟨_, rfl, _, rfl, p2, xs2, rfl, .inl ⟨V21.kn.seq a2, fun tq5 htq5 => ?_⟩⟩
      have V22 := V21.junk (o := .tup xs2) htq5
      have ty5 : TyX K (upd H21 tq5 (.tup xs2)) (.ref tq5) (.type "tuple") := tyT (SqT.of upd_same)
      exact ⟨oth, dx6, _, .type "tuple", rfl, V22.kn _ _ ax2, ty5, t.f_Rule_tuple, .ref oth, .ref tq5, xs2, rfl, hR2.mono V22.kn, .inl ⟨"tuple", ty5, t.q_Rule_tuple, _, rfl, _, rfl, ⟨_, _, _, _, _, _, _, _, rfl⟩, G17, V22⟩⟩
    · rintro σ H2 ⟨⟨c1, c2, c3, c4, c5, c6, c7, c8, rfl⟩, G1, V0⟩
      exact ⟨rfl, G1, V0.kn, fun G2 H3 g => q G2 H3 (V0.call g).gr⟩
end
end K51
set_option Elab.async false
set_option linter.all false
set_option maxRecDepth 100000
set_option maxHeartbeats 4000000
set_option pp.maxSteps 400
namespace K51
open PySem PySem.Spec PyProof.Rows L2 Sv
def kindOf (C : Str) : Str := if C = "NoSteps" then "whole" else if C = "NoStep" then "step" else if C = "NoPart" then "part" else if C = "NoWay" then "way" else "twice"
section
variable {P : Program} {w : World} {K : PySem.W.Frag} {mg : Str → Option Value} {base : Heap}
theorem Bad.names {G : Hp} {m : Option Addr} {st : List (Str × Str)} {v y : V} {C : Str} (h : Bad K G m st v C y) : C = "NoStep" ∨ C = "NoPart" ∨ C = "NoWay" ∨ C = "Twice" := by
  cases h
  · exact .inl rfl
  · exact .inr (.inl rfl)
  · exact .inr (.inr (.inl rfl))
  · exact .inr (.inr (.inr rfl))
theorem Whole.names {G : Hp} {m : Option Addr} {v y : V} {C : Str} (h : Whole K G m v C y) : C = "NoSteps" ∨ C = "NoStep" ∨ C = "NoPart" ∨ C = "NoWay" ∨ C = "Twice" := by
  cases h with
  | flat => exact .inl rfl
  | dict => exact .inl rfl
  | seq => exact .inl rfl
  | row _ _ _ _ h => exact .inr h.names
/-- Rule(..) of what is refused, whatever would follow -/
theorem rule_no {G H1 : Hp} {m : Option Addr} {v y : V} {C : Str} {x dx : Addr} {R : VK} {E : XK} (nx : H1 x = none) (nd : H1 dx = none) (hne : dx ≠ x) (hA : At G m H1) (hw : Whole K G m v C y)
    (q : ∀ d H', H1 d = none → Same H1 H' → H' d = some (.xd [("found", y)]) → E (.ref (He.ga K C)) (some d) H') :
    spInit K [.ref x, v] (upd (upd H1 dx (.own x)) x (.ins (He.ga K "Rule") dx [])) R E := by
  have e1 : Same H1 (upd (upd H1 dx (.own x)) x (.ins (He.ga K "Rule") dx [])) := same_put nx (same_new nd)
  exact ⟨G, m, x, dx, v, rfl, hA.mono e1, hA.g.free nx, upd_same, .inr ⟨C, y, hw, fun d H' h1 h2 h3 => q d H' (e1.free h1) (e1.trans h2) h3⟩⟩
def spCaught (K : PySem.W.Frag) : Sp := fun vs H Q _ => ∃ (G : Hp) (m : Option Addr) (v y : V) (C : Str), vs = [v] ∧ At G m H ∧ Whole K G m v C y ∧
  ∀ p H', H p = none → Same H H' → H' p = some (.tup [.str (kindOf C), y, .bl false, .bl false]) → Q (.ref p) H'
theorem ok_law_caught (t : T K mg) : Ok P w K mg base CX0 7 (He.ga K "_law_caught") "_law_caught" ["thing"] (spCaught K) := by
  obtain ⟨fd, F⟩ := t.d_law_caught
  obtain ⟨fI, FI, bI⟩ := ok_init (P := P) (w := w) (base := base) t
  refine Ok.mk0 F t.g_law_caught sc_law_caught (F.binds fun _ _ _ _ _ _ us hl => match us, hl with | [_], _ => rfl) (fun vs H Q E h => ?_) (fun cdv A outer s H vs Q E hr h => ?_)
  · obtain ⟨G, m, v, y, C, rfl, _⟩ := h
    rfl
  · obtain ⟨G, m, v, y, C, rfl, hA, hw, q⟩ := h
    refine ⟨_, (pss_cons (ps_set (i := 1) sc_law_caught.nd rfl (Or.inl rfl) pe_non)
      (pss_cons (ps_try_cl (n := "e") (i := 2) rfl rfl sc_law_caught.nd rfl (by rfl) takes0
          (fun W pn xe tk hp => pss_one (ps_expr (pe_makeS t.mkr FI hr (by rfl) t.g_Rule bI (fun σ => passAt tk σ) (pa_cons (pv 0) pa_nil))))
          (.named (c := .ref (He.ga K "NoSteps")) ⟨by rfl, by decide, .inl t.g_NoSteps⟩ (fun a oe cls d pn hz hf => pss_one (ps_set (i := 1) sc_law_caught.nd rfl (Or.inl rfl) (pe_tup (pa_cons pe_str (pa_cons (pe_xf t.xc_NoSteps.1 t.xn_NoSteps hz hf (pv 2)) (pa_cons (pe_callB (call_isX hz hf) (by rfl) t.z_isinstance (by decide +kernel) (pa_cons (pv 2) (pa_cons (pe_glob (v := .ref (He.ga K "NoStep")) rfl t.g_NoStep rfl) pa_nil))) (pa_cons (pe_callB (call_isX hz hf) (by rfl) t.z_isinstance (by decide +kernel) (pa_cons (pv 2) (pa_cons (pe_glob (v := .ref (He.ga K "Missing")) rfl t.g_Missing rfl) pa_nil))) pa_nil)))))))
          (.named (c := .ref (He.ga K "NoStep")) ⟨by rfl, by decide, .inl t.g_NoStep⟩ (fun a oe cls d pn hz hf => pss_one (ps_set (i := 1) sc_law_caught.nd rfl (Or.inl rfl) (pe_tup (pa_cons pe_str (pa_cons (pe_xf t.xc_NoStep.1 t.xn_NoStep hz hf (pv 2)) (pa_cons (pe_callB (call_isX hz hf) (by rfl) t.z_isinstance (by decide +kernel) (pa_cons (pv 2) (pa_cons (pe_glob (v := .ref (He.ga K "NoSteps")) rfl t.g_NoSteps rfl) pa_nil))) (pa_cons (pe_callB (call_isX hz hf) (by rfl) t.z_isinstance (by decide +kernel) (pa_cons (pv 2) (pa_cons (pe_glob (v := .ref (He.ga K "Missing")) rfl t.g_Missing rfl) pa_nil))) pa_nil)))))))
          (.named (c := .ref (He.ga K "NoPart")) ⟨by rfl, by decide, .inl t.g_NoPart⟩ (fun a oe cls d pn hz hf => pss_one (ps_set (i := 1) sc_law_caught.nd rfl (Or.inl rfl) (pe_tup (pa_cons pe_str (pa_cons (pe_xf t.xc_NoPart.1 t.xn_NoPart hz hf (pv 2)) (pa_cons (pe_callB (call_isX hz hf) (by rfl) t.z_isinstance (by decide +kernel) (pa_cons (pv 2) (pa_cons (pe_glob (v := .ref (He.ga K "NoWay")) rfl t.g_NoWay rfl) pa_nil))) (pa_cons (pe_callB (call_isX hz hf) (by rfl) t.z_isinstance (by decide +kernel) (pa_cons (pv 2) (pa_cons (pe_glob (v := .ref (He.ga K "Missing")) rfl t.g_Missing rfl) pa_nil))) pa_nil)))))))
          (.named (c := .ref (He.ga K "NoWay")) ⟨by rfl, by decide, .inl t.g_NoWay⟩ (fun a oe cls d pn hz hf => pss_one (ps_set (i := 1) sc_law_caught.nd rfl (Or.inl rfl) (pe_tup (pa_cons pe_str (pa_cons (pe_xf t.xc_NoWay.1 t.xn_NoWay hz hf (pv 2)) (pa_cons (pe_callB (call_isX hz hf) (by rfl) t.z_isinstance (by decide +kernel) (pa_cons (pv 2) (pa_cons (pe_glob (v := .ref (He.ga K "NoPart")) rfl t.g_NoPart rfl) pa_nil))) (pa_cons (pe_callB (call_isX hz hf) (by rfl) t.z_isinstance (by decide +kernel) (pa_cons (pv 2) (pa_cons (pe_glob (v := .ref (He.ga K "Missing")) rfl t.g_Missing rfl) pa_nil))) pa_nil)))))))
          (.named (c := .ref (He.ga K "Twice")) ⟨by rfl, by decide, .inl t.g_Twice⟩ (fun a oe cls d pn hz hf => pss_one (ps_set (i := 1) sc_law_caught.nd rfl (Or.inl rfl) (pe_tup (pa_cons pe_str (pa_cons (pe_xf t.xc_Twice.1 t.xn_Twice hz hf (pv 2)) (pa_cons (pe_callB (call_isX hz hf) (by rfl) t.z_isinstance (by decide +kernel) (pa_cons (pv 2) (pa_cons (pe_glob (v := .ref (He.ga K "NoPart")) rfl t.g_NoPart rfl) pa_nil))) (pa_cons (pe_callB (call_isX hz hf) (by rfl) t.z_isinstance (by decide +kernel) (pa_cons (pv 2) (pa_cons (pe_glob (v := .ref (He.ga K "Missing")) rfl t.g_Missing rfl) pa_nil))) pa_nil)))))))
          (.bare (c := .ref (He.ga K "MarkError")) ⟨by rfl, by decide, .inl t.g_MarkError⟩ (fun a oe cls d pn hz hf => pss_one (ps_set (i := 1) sc_law_caught.nd rfl (Or.inl rfl) pe_non)) .nil)))))))
      (pss_one (ps_ret (pv 1))))), ?_⟩
    have hz : (20 : Nat) ≤ sizeLine := by rw [sizeLine_eq]; decide
    refine ⟨_, rfl, fun x dx n1 n2 hne => rule_no n1 n2 hne hA hw fun d H' h1 h2 h3 => ?_⟩
    rcases hw.names with rfl | rfl | rfl | rfl | rfl
    · refine ⟨true, t.m_NoSteps_NoSteps, fun _ a ha => ⟨_, rfl, rfl, rfl, d, _, y, rfl, h3, rfl, _, rfl, _, d, _, _, _, false, rfl, rfl, t.xc_NoSteps.2, h3, rfl, fun u r => r, t.q_NoSteps_NoStep, _, rfl, _, d, _, _, _, false, rfl, rfl, t.xc_NoSteps.2, h3, rfl, fun u r => r, t.q_NoSteps_Missing, (by show 4 ≤ sizeLine; omega), fun p hp => ⟨_, rfl, q p _ (h2.free hp) (h2.trans (same_new hp)) upd_same⟩⟩, fun h => by cases h⟩
    · refine ⟨false, t.m_NoStep_NoSteps, fun h => (by cases h), fun _ => ?_⟩
      refine ⟨true, t.m_NoStep_NoStep, fun _ a ha => ⟨_, rfl, rfl, rfl, d, _, y, rfl, h3, rfl, _, rfl, _, d, _, _, _, false, rfl, rfl, t.xc_NoStep.2, h3, rfl, fun u r => r, t.q_NoStep_NoSteps, _, rfl, _, d, _, _, _, false, rfl, rfl, t.xc_NoStep.2, h3, rfl, fun u r => r, t.q_NoStep_Missing, (by show 4 ≤ sizeLine; omega), fun p hp => ⟨_, rfl, q p _ (h2.free hp) (h2.trans (same_new hp)) upd_same⟩⟩, fun h => by cases h⟩
    · refine ⟨false, t.m_NoPart_NoSteps, fun h => (by cases h), fun _ => ?_⟩
      refine ⟨false, t.m_NoPart_NoStep, fun h => (by cases h), fun _ => ?_⟩
      refine ⟨true, t.m_NoPart_NoPart, fun _ a ha => ⟨_, rfl, rfl, rfl, d, _, y, rfl, h3, rfl, _, rfl, _, d, _, _, _, false, rfl, rfl, t.xc_NoPart.2, h3, rfl, fun u r => r, t.q_NoPart_NoWay, _, rfl, _, d, _, _, _, false, rfl, rfl, t.xc_NoPart.2, h3, rfl, fun u r => r, t.q_NoPart_Missing, (by show 4 ≤ sizeLine; omega), fun p hp => ⟨_, rfl, q p _ (h2.free hp) (h2.trans (same_new hp)) upd_same⟩⟩, fun h => by cases h⟩
    · refine ⟨false, t.m_NoWay_NoSteps, fun h => (by cases h), fun _ => ?_⟩
      refine ⟨false, t.m_NoWay_NoStep, fun h => (by cases h), fun _ => ?_⟩
      refine ⟨false, t.m_NoWay_NoPart, fun h => (by cases h), fun _ => ?_⟩
      refine ⟨true, t.m_NoWay_NoWay, fun _ a ha => ⟨_, rfl, rfl, rfl, d, _, y, rfl, h3, rfl, _, rfl, _, d, _, _, _, false, rfl, rfl, t.xc_NoWay.2, h3, rfl, fun u r => r, t.q_NoWay_NoPart, _, rfl, _, d, _, _, _, false, rfl, rfl, t.xc_NoWay.2, h3, rfl, fun u r => r, t.q_NoWay_Missing, (by show 4 ≤ sizeLine; omega), fun p hp => ⟨_, rfl, q p _ (h2.free hp) (h2.trans (same_new hp)) upd_same⟩⟩, fun h => by cases h⟩
    · refine ⟨false, t.m_Twice_NoSteps, fun h => (by cases h), fun _ => ?_⟩
      refine ⟨false, t.m_Twice_NoStep, fun h => (by cases h), fun _ => ?_⟩
      refine ⟨false, t.m_Twice_NoPart, fun h => (by cases h), fun _ => ?_⟩
      refine ⟨false, t.m_Twice_NoWay, fun h => (by cases h), fun _ => ?_⟩
      refine ⟨true, t.m_Twice_Twice, fun _ a ha => ⟨_, rfl, rfl, rfl, d, _, y, rfl, h3, rfl, _, rfl, _, d, _, _, _, false, rfl, rfl, t.xc_Twice.2, h3, rfl, fun u r => r, t.q_Twice_NoPart, _, rfl, _, d, _, _, _, false, rfl, rfl, t.xc_Twice.2, h3, rfl, fun u r => r, t.q_Twice_Missing, (by show 4 ≤ sizeLine; omega), fun p hp => ⟨_, rfl, q p _ (h2.free hp) (h2.trans (same_new hp)) upd_same⟩⟩, fun h => by cases h⟩
end
end K51
set_option Elab.async false
set_option linter.all false
set_option maxRecDepth 100000
set_option maxHeartbeats 400000
set_option pp.maxSteps 400
namespace Sv
open PySem PySem.Spec PyProof.Rows L2
section
variable {K : PySem.W.Frag} {G H : Hp}
mutual
theorem Dp.same (e : Same G H) : ∀ {v : V} {d : PyData}, Dp K G v d → Dp K H v d
  | _, _, .non => .non
  | _, _, .bl b => .bl b
  | _, _, .int i => .int i
  | _, _, .str x => .str x
  | _, _, .lst h t => .lst (e.seq h) (DpAll.same e t)
  | _, _, .tup h t => .tup (same_t e h) (DpAll.same e t)
theorem DpAll.same (e : Same G H) : ∀ {vs : List V} {ds : List PyData}, DpAll K G vs ds → DpAll K H vs ds
  | _, _, .nil => .nil
  | _, _, .cons h t => .cons (Dp.same e h) (DpAll.same e t)
end
mutual
theorem Dz.same (e : Same G H) : ∀ {v : V} {d : PyData}, Dz K G v d → Dz K H v d
  | _, _, .flat f => .flat f
  | _, _, .dict h t => .dict (e _ _ h) t
  | _, _, .tup h t => .tup (same_t e h) (DzAll.same e t)
theorem DzAll.same (e : Same G H) : ∀ {vs : List V} {ds : List PyData}, DzAll K G vs ds → DzAll K H vs ds
  | _, _, .nil => .nil
  | _, _, .cons h t => .cons (Dz.same e h) (DzAll.same e t)
end
/-- data that repr shows -/
def RepOk (K : PySem.W.Frag) (H : Hp) (v : V) (d : PyData) : Prop := (Dp K H v d ∧ d.hasDict = false) ∨ Dz K H v d
theorem RepOk.same {v : V} {d : PyData} (e : Same G H) (h : RepOk K G v d) : RepOk K H v d := h.elim (fun z => .inl ⟨Dp.same e z.1, z.2⟩) (fun z => .inr (Dz.same e z))
end
section
variable {bs : List Addr} {G H H' H'' : Hp} {a : Addr} {o : HO}
theorem Grow.stay (g : Grow bs G H G H') (e : Same H' H'') : Grow bs G H G H'' :=
  ⟨g.g, g.h.trans e, fun b u z hb => e b u (g.keep b u z hb), fun b _ z => z, fun b hb z => by
    cases q : H' b with
    | none => exact g.there b hb q
    | some u => rw [e b u q] at z; cases z⟩
theorem Grow.wrote (g : Grow bs G H G H') (ha : a ∈ bs) (hg : G a = none) : Grow bs G H G (upd H' a o) := by
  refine ⟨g.g, fun b u z => ?_, fun b u z hb => ?_, fun b _ z => z, fun b hb => ?_⟩
  · rw [upd_ne (ne_of_none z hg)]
    exact g.h b u z
  · rw [upd_ne (fun y => by rw [y] at hb; exact hb ha)]
    exact g.keep b u z hb
  · by_cases hba : b = a
    · rw [hba, upd_same]
      exact fun z => nomatch z
    · rw [upd_ne hba]
      exact g.there b hb
end
end Sv
namespace K51
open PySem PySem.Spec PyProof.Rows L2 Sv
def okW (x : Str) : Prop := (PyData.str x).leavesShort 64 = true ∧ (PyData.str x).weight ≤ 40
/-- the list that may be written: short texts -/
def Ws (H : Hp) (m : Option Addr) (n : Nat) : Prop := ∀ a, m = some a → ∃ xs : List Str, H a = some (.lst (xs.map V.str)) ∧ xs.length ≤ n ∧ ∀ x ∈ xs, okW x
theorem Ws.same {H H' : Hp} {m : Option Addr} {n : Nat} (h : Ws H m n) (e : Same H H') : Ws H' m n := fun a ha => let ⟨xs, h1, h2⟩ := h a ha; ⟨xs, e _ _ h1, h2⟩
theorem Ws.at_ {G H : Hp} {m : Option Addr} {n : Nat} (h : Ws H m n) (e : Same G H) : At G m H := ⟨e, fun a ha => let ⟨xs, h1, _⟩ := h a ha; ⟨xs, h1⟩⟩
inductive Shows (K : PySem.W.Frag) (G : Hp) (m : Option Addr) : V → Prop
  | fix {v : V} {d : PyData} : RepOk K G v d → Shq 9 d → d.weight ≤ 900 → Shows K G m v
  | lst {a : Addr} : m = some a → Shows K G m (.ref a)
theorem strs_show (n : Nat) : ∀ {xs : List Str}, xs.length ≤ n → (∀ x ∈ xs, okW x) → PyData.showableAll (xs.map .str) = true ∧ PyData.depthAll (xs.map .str) = 0 ∧ PyData.leavesShortAll 64 (xs.map .str) = true ∧ PyData.weightAll (xs.map .str) ≤ 41 * xs.length ∧ PyData.hasDictAll (xs.map .str) = false
  | [], _, _ => by simp [PyData.showableAll, PyData.depthAll, PyData.leavesShortAll, PyData.weightAll, PyData.hasDictAll]
  | x :: xs, hn, h => by
    obtain ⟨h1, h2, h3, h4, h5⟩ := strs_show n (xs := xs) (by rw [List.length_cons] at hn; omega) fun y hy => h y (List.mem_cons_of_mem _ hy)
    obtain ⟨k1, k2⟩ := h x (List.mem_cons_self ..)
    refine ⟨by simp [PyData.showableAll, PyData.showable, h1], by simp [PyData.depthAll, PyData.depth, h2], by simp [PyData.leavesShortAll, k1, h3], ?_, by simp [PyData.hasDictAll, PyData.hasDict, h5]⟩
    simp only [List.map_cons, PyData.weightAll, List.length_cons]
    omega
theorem Shows.at_ {K : PySem.W.Frag} {G H : Hp} {m : Option Addr} {v : V} (h : Shows K G m v) (e : Same G H) (w : Ws H m 6) : ∃ d, RepOk K H v d ∧ Shq 9 d ∧ d.weight ≤ 900 := by
  cases h with
  | fix h1 h2 h3 => exact ⟨_, h1.same e, h2, h3⟩
  | lst hm =>
    obtain ⟨xs, h1, h2, h3⟩ := w _ hm
    obtain ⟨k1, k2, k3, k4, k5⟩ := strs_show 6 h2 h3
    have hw : (strsD xs).weight ≤ 900 := by simp only [strsD, PyData.weight]; omega
    refine ⟨strsD xs, .inl ⟨.lst (SqL.of h1) (strs_dp xs), by simp only [strsD, PyData.hasDict]; exact k5⟩, ⟨by simp only [strsD, PyData.showable]; exact k1, by simp only [strsD, PyData.depth]; omega, by simp only [strsD, PyData.leavesShort]; exact k3, by omega⟩, hw⟩
theorem okW_shq {x : Str} (h : okW x) : Shq 9 (.str x) ∧ (PyData.str x).weight ≤ 900 := ⟨⟨rfl, by simp [PyData.depth], h.1, by have := h.2; omega⟩, by have := h.2; omega⟩
theorem kind_okW {C : Str} (h : C = "NoSteps" ∨ C = "NoStep" ∨ C = "NoPart" ∨ C = "NoWay" ∨ C = "Twice") : okW (kindOf C) := by
  rcases h with rfl | rfl | rfl | rfl | rfl <;> exact ⟨by decide +kernel, by decide +kernel⟩
theorem bool_shq (b : Bool) : Shq 9 (.bool b) ∧ (PyData.bool b).weight ≤ 900 := ⟨⟨rfl, by simp [PyData.depth], rfl, by simp [PyData.weight]⟩, by simp [PyData.weight]⟩
/-- (kind, thing, False, False) -/
theorem rep4 {K : PySem.W.Frag} {H : Hp} {p : Addr} {k : Str} {y : V} {d : PyData} (hp : SqT K H p [.str k, y, .bl false, .bl false]) (h : RepOk K H y d) : RepOk K H (.ref p) (.tuple [.str k, d, .bool false, .bool false]) := by
  rcases h with ⟨h1, h2⟩ | h1
  · exact .inl ⟨.tup hp (.cons (.str _) (.cons h1 (.cons (.bl _) (.cons (.bl _) .nil)))), by simp [PyData.hasDict, PyData.hasDictAll, h2]⟩
  · exact .inr (.tup hp (.cons (.flat (.str _)) (.cons h1 (.cons (.flat (.bl _)) (.cons (.flat (.bl _)) .nil)))))
theorem shw4 {k : Str} {d : PyData} (hk : okW k) (h : Shq 9 d) (hw : d.weight ≤ 900) : Shw (.tuple [.str k, d, .bool false, .bool false]) := by
  refine ((Shq.tup (n := 9) (fun e he => ?_) (by simp) (fun e he => ?_) (by decide)).mono (by decide)).shw
  · simp only [List.mem_cons, List.not_mem_nil, or_false] at he
    rcases he with rfl | rfl | rfl | rfl
    · exact (okW_shq hk).1
    · exact h
    · exact (bool_shq _).1
    · exact (bool_shq _).1
  · simp only [List.mem_cons, List.not_mem_nil, or_false] at he
    rcases he with rfl | rfl | rfl | rfl
    · exact (okW_shq hk).2
    · exact hw
    · exact (bool_shq _).2
    · exact (bool_shq _).2
theorem rep2 {K : PySem.W.Frag} {H : Hp} {p : Addr} {y : V} {d : PyData} (hp : SqT K H p [y, .bl false]) (h : RepOk K H y d) : RepOk K H (.ref p) (.tuple [d, .bool false]) := by
  rcases h with ⟨h1, h2⟩ | h1
  · exact .inl ⟨.tup hp (.cons h1 (.cons (.bl _) .nil)), by simp [PyData.hasDict, PyData.hasDictAll, h2]⟩
  · exact .inr (.tup hp (.cons h1 (.cons (.flat (.bl _)) .nil)))
theorem shw2 {d : PyData} (h : Shq 9 d) (hw : d.weight ≤ 900) : Shw (.tuple [d, .bool false]) := by
  refine ((Shq.tup (n := 9) (fun e he => ?_) (by simp) (fun e he => ?_) (by decide)).mono (by decide)).shw
  · simp only [List.mem_cons, List.not_mem_nil, or_false] at he
    rcases he with rfl | rfl
    · exact h
    · exact (bool_shq _).1
  · simp only [List.mem_cons, List.not_mem_nil, or_false] at he
    rcases he with rfl | rfl
    · exact hw
    · exact (bool_shq _).2
section
variable {P : Program} {w : World} {K : PySem.W.Frag} {mg : Str → Option Value} {base : Heap}
def spNoPart (K : PySem.W.Frag) : Sp := fun vs H Q _ => ∃ (G : Hp) (m : Option Addr) (v : V), vs = [v] ∧ Same G H ∧ Ws H m 6 ∧ Thing K G m v ∧ (∀ k, k < 6 → v ≠ .str (partW k)) ∧ Shows K G m v ∧ ∀ H', Same H H' → Q (.bl true) H'
theorem ok_law_no_part (t : T K mg) : OkG P w K mg base 4 (He.ga K "_law_no_part") "_law_no_part" ["thing"] (spNoPart K) := by
  obtain ⟨fd, F⟩ := t.d_law_no_part
  have O_ways := ok_ways (P := P) (w := w) (base := base) t
  refine OkG.mk0 F t.g_law_no_part sc_law_no_part (F.binds fun _ _ _ _ _ _ us hl => match us, hl with | [_], _ => rfl) (fun vs H Q E h => ?_) (fun cdv A outer s H vs Q E hG hr h => ?_)
  · obtain ⟨G, m, v, rfl, _⟩ := h
    rfl
  · obtain ⟨G, m, v, rfl, hSm, hw, hth, hnp, hsh, q⟩ := h
    refine ⟨_, (pss_cons (ps_set (i := 1) sc_law_no_part.nd rfl (Or.inl rfl) pe_non)
      (pss_cons (ps_try_cl (n := "e") (i := 2) rfl rfl sc_law_no_part.nd rfl (by rfl) takes0
          (fun W pn xe tk hp => pss_one (ps_expr (pe_callNS O_ways hr (fun σ => passAt tk σ) (pa_cons (pv 0) pa_nil))))
          (.named (c := .ref (He.ga K "NoPart")) ⟨by rfl, by decide, .inl t.g_NoPart⟩ (fun a oe cls d pn hz hf => pss_one (ps_set (i := 1) sc_law_no_part.nd rfl (Or.inl rfl) (pe_tup (pa_cons (pe_xf t.xc_NoPart.1 t.xn_NoPart hz hf (pv 2)) (pa_cons (pe_callB (call_isX hz hf) (by rfl) t.z_isinstance (by decide +kernel) (pa_cons (pv 2) (pa_cons (pe_glob (v := .ref (He.ga K "NoWay")) rfl t.g_NoWay rfl) pa_nil))) pa_nil)))))
          (.bare (c := .ref (He.ga K "MarkError")) ⟨by rfl, by decide, .inl t.g_MarkError⟩ (fun a oe cls d pn hz hf => pss_one (ps_set (i := 1) sc_law_no_part.nd rfl (Or.inl rfl) pe_non)) .nil)))
      (pss_one (ps_ret (pe_cmpR op_eq (pe_callB (call_repr hG (Room.u100 hr)) (by rfl) t.z_repr (by decide +kernel) (pa_cons (pv 1) pa_nil)) (pe_callB (call_repr hG (Room.u100 hr)) (by rfl) t.z_repr (by decide +kernel) (pa_cons (pe_tup (pa_cons (pv 0) (pa_cons pe_bl pa_nil))) pa_nil)) (nomark _)))))), ?_⟩
    have hz : (20 : Nat) ≤ sizeLine := by rw [sizeLine_eq]; decide
    refine ⟨_, rfl, v, rfl, .inr ⟨hth.notPart (hw.at_ hSm) hnp, fun d H' h1 h2 h3 => ?_⟩⟩
    refine ⟨true, t.m_NoPart_NoPart, fun _ a ha => ⟨_, rfl, rfl, rfl, d, _, v, rfl, h3, rfl, _, rfl, _, d, _, _, _, false, rfl, rfl, t.xc_NoPart.2, h3, rfl, fun u r => r, t.q_NoPart_NoWay, (by show 2 ≤ sizeLine; omega), fun p hp => ?_⟩, fun h => (by cases h)⟩
    have e1 := h2.trans (same_new (o := .tup [v, .bl false]) hp)
    have aT : SqT K (upd H' p (.tup [v, .bl false])) p [v, .bl false] := SqT.of upd_same
    generalize upd H' p (.tup [v, .bl false]) = H1 at e1 aT ⊢
    obtain ⟨dv, r1, r2, r3⟩ := hsh.at_ (hSm.trans e1) (hw.same e1)
    refine ⟨_, rfl, _, _, rfl, rep2 aT r1, shw2 r2 r3, _, rfl, (by show 2 ≤ sizeLine; omega), fun p2 hp2 => ?_⟩
    have e2 := same_new (o := .tup [v, .bl false]) hp2
    refine ⟨_, _, rfl, rep2 (SqT.of upd_same) (r1.same e2), shw2 r2 r3, rfl, ?_⟩
    rw [decide_eq_true rfl]
    exact q _ (e1.trans e2)
/-- the thing told: whether isinstance(.., list) and the kind let it be written -/
inductive Knd (K : PySem.W.Frag) (G : Hp) (m : Option Addr) (C : Str) : V → Prop
  | flat {v : V} {d : PyData} : Flat1 v d → Knd K G m C v
  | dict {a : Addr} {kvs : List (Key × V)} : G a = some (.dK kvs) → Knd K G m C (.ref a)
  | tup {a : Addr} {xs : List V} : SqT K G a xs → Knd K G m C (.ref a)
  | lst {a : Addr} {xs : List V} : SqL K G a xs → C = "NoSteps" → Knd K G m C (.ref a)
  | own {a : Addr} : m = some a → C ≠ "NoSteps" → Knd K G m C (.ref a)
def spRefused (K : PySem.W.Frag) : Sp := fun vs H Q _ => ∃ (G : Hp) (m : Option Addr) (wv y : V) (C : Str), vs = [wv, .str (kindOf C), y] ∧ Same G H ∧ Ws H m 4 ∧ (∀ a, m = some a → G a = none) ∧ Whole K G m wv C y ∧ Shows K G m y ∧ Knd K G m C y ∧
  ∀ H', Grow m.toList G H G H' → Q (.bl true) H'
theorem kind_not_whole {C : Str} (h : C = "NoSteps" ∨ C = "NoStep" ∨ C = "NoPart" ∨ C = "NoWay" ∨ C = "Twice") (hn : C ≠ "NoSteps") : kindOf C ≠ "whole" := by
  rcases h with rfl | rfl | rfl | rfl | rfl
  · exact absurd rfl hn
  all_goals decide +kernel
theorem ok_more : okW "more" := ⟨by decide +kernel, by decide +kernel⟩
theorem ok_law_refused (t : T K mg) : OkG P w K mg base 8 (He.ga K "_law_refused") "_law_refused" ["whole", "kind", "thing"] (spRefused K) := by
  obtain ⟨fd, F⟩ := t.d_law_refused
  have O_law_caught := ok_law_caught (P := P) (w := w) (base := base) t
  refine OkG.mk0 F t.g_law_refused sc_law_refused (F.binds fun _ _ _ _ _ _ us hl => match us, hl with | [_, _, _], _ => rfl) (fun vs H Q E h => ?_) (fun cdv A outer s H vs Q E hG hr h => ?_)
  · obtain ⟨G, m, wv, y, C, rfl, _⟩ := h
    rfl
  · obtain ⟨G, m, wv, y, C, rfl, hSm, hw, hgm, hwh, hsh, hkd, q⟩ := h
    refine ⟨_, (pss_cons (ps_for PassesOwn.never rfl (pi_range1 rfl t.z_range (pa_cons pe_int pa_nil)) (pg_name (i := 3) sc_law_refused.nd rfl (Or.inl rfl))
        (pss_cons (ps_set (i := 4) sc_law_refused.nd rfl (Or.inl rfl) (pe_callN O_law_caught hr pass0 (pa_cons (pv 0) pa_nil)))
        (pss_cons (ps_if (PW.pt (pw_or (pt_cmpR op_isN (pv 4) pe_non (nomark _)) (pw_or1 (pt_cmpR op_ne (pe_callB (call_repr hG (Room.u100 hr)) (by rfl) t.z_repr (by decide +kernel) (pa_cons (pv 4) pa_nil)) (pe_callB (call_repr hG (Room.u100 hr)) (by rfl) t.z_repr (by decide +kernel) (pa_cons (pe_tup (pa_cons (pv 1) (pa_cons (pv 2) (pa_cons pe_bl (pa_cons pe_bl pa_nil))))) pa_nil)) (nomark _)))))
          (pss_one (ps_ret pe_bl))
          pss_nil)
        (pss_one (ps_if (PW.pt (pw_and (pt_val (pe_callB call_isi (by rfl) t.z_isinstance (by decide +kernel) (pa_cons (pv 2) (pa_cons (pe_bltn (v := .ty "list") (by rfl) t.z_list (by kernel_rfl) rfl) pa_nil)))) (pw_and1 (pt_cmpR op_ne (pv 1) pe_str (nomark _)))))
          (pss_cons (ps_expr (pe_bm PySem.F.plainAttrs_list PySem.F.slot_list_append PySem.F.type_list_append mt_append (pv 2) (pa_cons pe_str pa_nil)))
          (pss_one (ps_if (pt_cmpR op_ne (pe_callB (call_repr hG (Room.u100 hr)) (by rfl) t.z_repr (by decide +kernel) (pa_cons (pe_ix ix_tup (pv 4) pe_int (fun _ _ => rfl)) pa_nil)) (pe_callB (call_repr hG (Room.u100 hr)) (by rfl) t.z_repr (by decide +kernel) (pa_cons (pv 2) pa_nil)) (nomark _))
            (pss_one (ps_ret pe_bl))
            pss_nil)))
          pss_nil)))))
      (pss_one (ps_ret pe_bl))), ?_⟩
    have hz : (20 : Nat) ≤ sizeLine := by rw [sizeLine_eq]; decide
    have hk := kind_okW hwh.names
    have hkn := fun hn => kind_not_whole hwh.names hn
    have hkw : C = "NoSteps" → kindOf C = "whole" := fun e => by rw [e]; decide +kernel
    generalize hkd0 : kindOf C = kd at hk hkn hkw ⊢
    refine ⟨2, rfl, by decide, by decide, for_range (lo := 0) (n := 2) (fun i σ H' => (∃ c d, σ = [some wv, some (.str kd), some y, c, d]) ∧ Grow m.toList G H G H' ∧ Ws H' m (4 + i)) ⟨⟨none, none, rfl⟩, Grow.refl hSm, hw⟩ ?_ ?_⟩
    · rintro i σ H2 hi ⟨⟨c, d, rfl⟩, g0, w0⟩
      have w6 : Ws H2 m 6 := fun a ha => let ⟨xs, h1, h2, h3⟩ := w0 a ha; ⟨xs, h1, by omega, h3⟩
      refine ⟨_, rfl, G, m, wv, y, C, rfl, w0.at_ g0.h, hwh, fun p H3 hp e3 h3 => ?_⟩
      rw [hkd0] at h3
      have aT3 : SqT K H3 p [.str kd, y, .bl false, .bl false] := SqT.of h3
      have g1 := g0.stay e3
      have w1 := w6.same e3
      have w01 := w0.same e3
      obtain ⟨dv, r1, r2, r3⟩ := hsh.at_ g1.h w1
      refine ⟨_, rfl, rfl, _, rfl, ?_⟩
      refine ite2 (fun hc => absurd hc (by simp)) fun _ => ?_
      refine ⟨_, rfl, _, _, rfl, rep4 aT3 r1, shw4 hk r2 r3, _, rfl, _, rfl, (by show 4 ≤ sizeLine; omega), fun p2 hp2 => ?_⟩
      have e4 := same_new (o := .tup [.str kd, y, .bl false, .bl false]) hp2
      refine ⟨_, _, rfl, rep4 (SqT.of upd_same) (r1.same e4), shw4 hk r2 r3, rfl, _, rfl, ?_⟩
      have g2 := g1.stay e4
      have w2 := w1.same e4
      have w02 := w01.same e4
      have h4 := e4 _ _ h3
      generalize upd H3 p2 (.tup [.str kd, y, .bl false, .bl false]) = H4 at g2 w2 w02 h4 ⊢
      generalize (PyData.tuple [.str kd, dv, .bool false, .bool false]).shown = tx
      refine ite2 (fun hc => absurd hc (by simp)) fun _ => ?_
      have nxt : Ws H4 m (4 + (i + 1)) := fun a ha => let ⟨xs, h1, h2, h3⟩ := w02 a ha; ⟨xs, h1, by omega, h3⟩
      cases hkd with
      | flat f =>
        obtain ⟨ty, k1, k2, k3, _⟩ := tyF (K := K) (H := H4) f
        exact ⟨_, rfl, _, _, .type ty, _, false, rfl, .ty _, k1, kit_ty k3, _, rfl, ⟨_, _, rfl⟩, g2, nxt⟩
      | dict hd => exact ⟨_, rfl, _, _, .type "dict", _, false, rfl, .ty _, .base (.dK (g2.h _ _ hd)), kit_ty (by decide +kernel), _, rfl, ⟨_, _, rfl⟩, g2, nxt⟩
      | tup hT => exact ⟨_, rfl, _, _, .type "tuple", _, false, rfl, .ty _, tyT (same_t g2.h hT), kit_ty (by decide +kernel), _, rfl, ⟨_, _, rfl⟩, g2, nxt⟩
      | lst hL hC =>
        have hkw := hkw hC
        subst hkw
        refine ⟨_, rfl, _, _, .type "list", _, true, rfl, .ty _, tyL (g2.h.seq hL), kit_ty (by decide +kernel), _, rfl, _, rfl, rfl, _, rfl, ?_⟩
        refine ite2 (fun hc => absurd hc (by decide +kernel)) fun _ => ?_
        exact ⟨⟨_, _, rfl⟩, g2, nxt⟩
      | @own a hm hC =>
        obtain ⟨xs, x1, x2, x3⟩ := w02 a hm
        refine ⟨_, rfl, _, _, .type "list", _, true, rfl, .ty _, .base (.lst x1), kit_ty (by decide +kernel), _, rfl, _, rfl, rfl, _, rfl, ?_⟩
        refine ite2 (fun _ => ?_) fun hc => absurd ?_ hc
        · refine ⟨_, rfl, .inl ⟨rfl, _, SqL.of x1⟩, a, _, .str "more", rfl, rfl, x1, by rw [List.length_map]; omega, ?_⟩
          have ex : xs.map V.str ++ [.str "more"] = (xs ++ [("more" : Str)]).map V.str := by rw [List.map_append]; rfl
          rw [ex]
          have g3 : Grow m.toList G H G (upd H4 a (.lst ((xs ++ [("more" : Str)]).map V.str))) := g2.wrote (by rw [hm]; simp) (hgm a hm)
          have w3 : Ws (upd H4 a (.lst ((xs ++ [("more" : Str)]).map V.str))) m (4 + (i + 1)) := fun b hb => by
            rw [hm] at hb
            cases hb
            refine ⟨_, upd_same, by rw [List.length_append, List.length_singleton]; omega, fun x hx => ?_⟩
            rcases List.mem_append.mp hx with h | h
            · exact x3 x h
            · obtain rfl : x = "more" := by simpa using h
              exact ok_more
          have w36 : Ws (upd H4 a (.lst ((xs ++ [("more" : Str)]).map V.str))) m 6 := fun b hb => let ⟨xs, h1, h2, h3⟩ := w3 b hb; ⟨xs, h1, by omega, h3⟩
          have pa : p ≠ a := fun z => by rw [z, x1] at h4; cases h4
          have h5 : (upd H4 a (.lst ((xs ++ [("more" : Str)]).map V.str))) p = some (.tup [.str kd, .ref a, .bl false, .bl false]) := by rw [upd_ne pa]; exact h4
          generalize upd H4 a (.lst ((xs ++ [("more" : Str)]).map V.str)) = H5 at g3 w3 w36 h5 ⊢
          obtain ⟨dv2, u1, u2, u3⟩ := hsh.at_ g3.h w36
          refine ⟨_, rfl, p, _, 1, .ref a, rfl, rfl, SqT.of h5, atI_nat (j := 1) rfl, _, dv2, rfl, u1, (u2.mono (by decide)).shw, _, rfl, _, dv2, rfl, u1, (u2.mono (by decide)).shw, rfl, _, rfl, ?_⟩
          generalize dv2.shown = tx2
          refine ite2 (fun hc => absurd hc (by simp)) fun _ => ?_
          exact ⟨⟨_, _, rfl⟩, g3, w3⟩
        · have := hkn hC
          simp [this]
    · rintro σ H2 ⟨⟨c, d, rfl⟩, g0, w0⟩
      exact q H2 g0
end
end K51
set_option Elab.async false
set_option linter.all false
set_option maxRecDepth 100000
set_option maxHeartbeats 1000000
set_option pp.maxSteps 600
namespace Sv
open PySem PySem.Spec PyProof.Rows L2
/-- a call that writes the first cell, which is let go -/
theorem Wd.call1x {bs : List Addr} {G0 H0 G G' : Hp} {M : List (Addr × HO)} {H H' : Hp} {a : Addr} {o : HO} (W : Wd bs G0 H0 G ((a, o) :: M) H) (g : Grow [a] G H G' H') : Wd bs G0 H0 G' M H' := by
  have : ∃ o', H' a = Option.some o' := by
    cases q : H' a with
    | none => exact absurd q (g.there a (by rw [W.here]; exact fun z => nomatch z))
    | some u => exact ⟨u, rfl⟩
  obtain ⟨o', h⟩ := this
  exact (W.call1 g h).tail
end Sv
namespace K51
open PySem PySem.Spec PyProof.Rows L2 Sv
def NotWord (z : Str) : Prop := ∀ k : _root_.Fin 6, z ≠ partW k ∧ z ∉ waysOf k
/-- data that is no step, no part and no way, and that repr shows -/
inductive Fixed (K : PySem.W.Frag) (G : Hp) : V → Prop
  | flat {v : V} {d : PyData} : Flat1 v d → Shq 9 d → d.weight ≤ 900 → (∀ z, v = .str z → NotWord z) → Fixed K G v
  | dict {a : Addr} {kvs : List (Key × V)} {d : PyData} : G a = some (.dK kvs) → RepOk K G (.ref a) d → Shq 9 d → d.weight ≤ 900 → Fixed K G (.ref a)
  | tup {a : Addr} {xs : List V} {d : PyData} : SqT K G a xs → xs.length ≠ 2 → RepOk K G (.ref a) d → Shq 9 d → d.weight ≤ 900 → Fixed K G (.ref a)
section
variable {K : PySem.W.Frag} {G H : Hp} {m : Option Addr} {v : V}
theorem Fixed.thing (h : Fixed K G v) : Thing K G m v := by
  cases h with
  | flat f => exact .flat f
  | dict f => exact .dict f
  | tup f => exact .tup f
theorem Fixed.notStep (h : Fixed K G v) : NotStep K G m v := by
  cases h with
  | flat f => exact .flat f
  | dict f => exact .dict f
  | tup f g => exact .tup f g
theorem Fixed.shows (h : Fixed K G v) : Shows K G m v := by
  cases h with
  | flat f h1 h2 => exact .fix (.inr (.flat f)) h1 h2
  | dict _ f h1 h2 => exact .fix f h1 h2
  | tup _ _ f h1 h2 => exact .fix f h1 h2
theorem Fixed.knd {C : Str} (h : Fixed K G v) : Knd K G m C v := by
  cases h with
  | flat f => exact .flat f
  | dict f => exact .dict f
  | tup f => exact .tup f
theorem Fixed.np (h : Fixed K G v) : ∀ k, k < 6 → v ≠ .str (partW k) := by
  intro k hk e
  cases h with
  | flat f _ _ n => exact (n _ e ⟨k, hk⟩).1 rfl
  | dict => cases e
  | tup => cases e
theorem Fixed.nw (h : Fixed K G v) : ∀ k, k < 6 → ∀ z, v = .str z → z ∉ waysOf k := by
  intro k hk z e
  cases h with
  | flat f _ _ n => exact (n _ e ⟨k, hk⟩).2
  | dict => cases e
  | tup => cases e
theorem Fixed.same (e : Same G H) (h : Fixed K G v) : Fixed K H v := by
  cases h with
  | flat f h1 h2 h3 => exact .flat f h1 h2 h3
  | dict f g h1 h2 => exact .dict (e _ _ f) (g.same e) h1 h2
  | tup f n g h1 h2 => exact .tup (same_t e f) n (g.same e) h1 h2
theorem Fixed.none : Fixed K G .non := .flat .non ⟨rfl, by simp [PyData.depth], rfl, by simp [PyData.weight]⟩ (by simp [PyData.weight]) fun z e => nomatch e
theorem Fixed.bl (b : Bool) : Fixed K G (.bl b) := .flat (.bl b) (bool_shq b).1 (bool_shq b).2 fun z e => nomatch e
theorem Fixed.int {i : Int} (h1 : (PyData.int i).showable = true) (h2 : (PyData.int i).leavesShort 64 = true) (h3 : (PyData.int i).weight ≤ 900) : Fixed K G (.int i) := .flat (.int i) ⟨h1, by simp [PyData.depth], h2, by omega⟩ h3 fun z e => nomatch e
theorem Fixed.str {x : Str} (h : okW x) (n : NotWord x) : Fixed K G (.str x) := .flat (.str x) (okW_shq h).1 (okW_shq h).2 fun z e => by cases e; exact n
theorem Fixed.d0 {a : Addr} (h : G a = some (.dK [])) : Fixed K G (.ref a) :=
  .dict (d := .dict []) h (.inr (.dict h .nil)) ⟨by decide +kernel, by decide +kernel, by decide +kernel, by decide +kernel⟩ (by decide +kernel)
theorem Fixed.d1 {a : Addr} (h : G a = some (.dK [(.inr "a", .int 1)])) : Fixed K G (.ref a) :=
  .dict (d := .dict [(.str "a", .int 1)]) h (.inr (.dict (ds := [.int 1]) h (.cons (.int 1) .nil))) ⟨by decide +kernel, by decide +kernel, by decide +kernel, by decide +kernel⟩ (by decide +kernel)
end
/-- what is drawn: fixed data, or a new list that may be written -/
def Given (K : PySem.W.Frag) (G' H H' : Hp) (m : Option Addr) (v : V) : Prop :=
  (m = none ∧ Fixed K G' v) ∨ ∃ (a : Addr) (ws : List Str), v = .ref a ∧ m = some a ∧ H' a = some (.lst (ws.map V.str)) ∧ ws.length ≤ 2 ∧ (∀ x ∈ ws, okW x) ∧ G' a = none ∧ H a = none
def spThing (K : PySem.W.Frag) : Sp := fun vs H Q _ => ∃ (b : Addr) (x y z : Int) (G : Hp), vs = [.ref b] ∧ Same G H ∧ G b = none ∧ H b = some (bx x y z) ∧ YOk y ∧
  ∀ v m G' H' x' z', Grow [b] G H G' H' → H' b = some (bx x' y z') → Given K G' H H' m v → Q v H'
section
variable {P : Program} {w : World} {K : PySem.W.Frag} {mg : Str → Option Value} {base : Heap}
theorem big_eq : (10 : Int) ^ (29 : Int).toNat = 100000000000000000000000000000 := by decide +kernel
theorem ok_law_thing (t : T K mg) : Ok P w K mg base CX0 2 (He.ga K "_law_thing") "_law_thing" ["box"] (spThing K) := by
  obtain ⟨fd, F⟩ := t.d_law_thing
  have O_law_take_two := ok_law_take_two (P := P) (w := w) (base := base) t
  refine Ok.mk0 F t.g_law_thing sc_law_thing (F.binds fun _ _ _ _ _ _ us hl => match us, hl with | [_], _ => rfl) (fun vs H Q E h => ?_) (fun cdv A outer s H vs Q E hr h => ?_)
  · obtain ⟨b, x, y, z, G, rfl, _⟩ := h
    rfl
  · obtain ⟨b, x, y, z, G, rfl, hG, gb, hb, hy, q⟩ := h
    refine ⟨_, (pss_cons (ps_set (i := 1) sc_law_thing.nd rfl (Or.inl rfl) (pe_lst (pa_cons pe_non (pa_cons pe_bl (pa_cons pe_int (pa_cons (pe_op op_pow pe_int pe_int) (pa_cons pe_str (pa_cons pe_str (pa_cons pe_str (pa_cons pe_str (pa_cons (pe_lst pa_nil) (pa_cons (pe_lst (pa_cons pe_str pa_nil)) (pa_cons (pe_tup (pa_cons pe_int pa_nil)) (pa_cons pe_dnewK (pa_cons (pe_disp (pps_cons pe_str pe_int pps_nil) (by rfl) (by rfl) (fun z => by cases z) (by decide)) (pa_cons (pe_tup (pa_cons (pe_tup pa_nil) pa_nil)) (pa_cons (pe_un un_neg pe_int) pa_nil)))))))))))))))))
      (pss_one (ps_ret (pe_ix ix_list (pv 1) (pe_callN O_law_take_two (hr.mono (by decide)) pass0 (pa_cons (pv 0) (pa_cons pe_int pa_nil))) (fun _ _ => rfl))))), ?_⟩
    have hz : (20 : Nat) ≤ sizeLine := by rw [sizeLine_eq]; decide
    have W0 := Wd.start1 hG hb gb
    refine ⟨_, _, rfl, rfl, ⟨by decide, by decide, by decide⟩, (by show 0 ≤ sizeLine; omega), fun p1 h1 => ?_⟩
    have W1 := W0.newM (o := .lst []) h1
    have f1 := W0.fresh0 h1
    generalize upd H p1 _ = H1 at W1 ⊢
    refine ⟨(by show 1 ≤ sizeLine; omega), fun p2 h2 => ?_⟩
    have W2 := W1.newM (o := .lst [.str "a"]) h2
    have f2 := W1.fresh0 h2
    generalize upd H1 p2 _ = H2 at W2 ⊢
    refine ⟨(by show 1 ≤ sizeLine; omega), fun p3 h3 => ?_⟩
    have W3 := W2.newP (o := .tup [.int 1]) h3
    have a3 : SqT K (upd G p3 (.tup [.int 1])) p3 [.int 1] := SqT.of upd_same
    generalize upd G p3 _ = G3 at W3 a3
    generalize upd H2 p3 _ = H3 at W3 ⊢
    intro p4 h4
    have W4 := W3.newP (o := .dK []) h4
    have a3 := same_t (W3.newG h4 (o := .dK [])) a3
    have a4 : (upd G3 p4 (.dK [])) p4 = some (.dK []) := upd_same
    generalize upd G3 p4 _ = G4 at W4 a3 a4
    generalize upd H3 p4 _ = H4 at W4 ⊢
    intro p5 h5
    refine ⟨upd_same, [(.inr "a", .int 1)], rfl, by decide, ?_⟩
    rw [upd_upd]
    have W5 := W4.newP (o := .dK (mergeK [] [(.inr "a", .int 1)])) h5
    have e5 := W4.newG h5 (o := .dK (mergeK [] [(.inr "a", .int 1)]))
    have a3 := same_t e5 a3
    have a4 := e5 _ _ a4
    have a5 : (upd G4 p5 (.dK (mergeK [] [(.inr "a", .int 1)]))) p5 = some (.dK [(.inr "a", .int 1)]) := upd_same
    generalize upd G4 p5 _ = G5 at W5 a3 a4 a5
    generalize upd H4 p5 _ = H5 at W5 ⊢
    refine ⟨(by show 0 ≤ sizeLine; omega), fun p6 h6 => ?_⟩
    have W6 := W5.newP (o := .tup []) h6
    have e6 := W5.newG h6 (o := .tup [])
    have a3 := same_t e6 a3
    have a4 := e6 _ _ a4
    have a5 := e6 _ _ a5
    have a6 : SqT K (upd G5 p6 (.tup [])) p6 [] := SqT.of upd_same
    generalize upd G5 p6 _ = G6 at W6 a3 a4 a5 a6
    generalize upd H5 p6 _ = H6 at W6 ⊢
    refine ⟨(by show 1 ≤ sizeLine; omega), fun p7 h7 => ?_⟩
    have W7 := W6.newP (o := .tup [.ref p6]) h7
    have e7 := W6.newG h7 (o := .tup [.ref p6])
    have a3 := same_t e7 a3
    have a4 := e7 _ _ a4
    have a5 := e7 _ _ a5
    have a6 := same_t e7 a6
    have a7 : SqT K (upd G6 p7 (.tup [.ref p6])) p7 [.ref p6] := SqT.of upd_same
    generalize upd G6 p7 _ = G7 at W7 a3 a4 a5 a6 a7
    generalize upd H6 p7 _ = H7 at W7 ⊢
    refine ⟨_, rfl, (by show 15 ≤ sizeLine; omega), fun L hL => ?_⟩
    have W8 := W7.newP (o := .lst [.non, .bl true, .int 0, .int ((10 : Int) ^ (29 : Int).toNat), .str "", .str "word", .str "ways", .str "letters words", .ref p1, .ref p2, .ref p3, .ref p4, .ref p5, .ref p7, .int (-3)]) hL
    have e8 := W7.newG hL (o := .lst [.non, .bl true, .int 0, .int ((10 : Int) ^ (29 : Int).toNat), .str "", .str "word", .str "ways", .str "letters words", .ref p1, .ref p2, .ref p3, .ref p4, .ref p5, .ref p7, .int (-3)])
    have a3 := same_t e8 a3
    have a4 := e8 _ _ a4
    have a5 := e8 _ _ a5
    have a6 := same_t e8 a6
    have a7 := same_t e8 a7
    have aL : SqL K (upd G7 L (.lst [.non, .bl true, .int 0, .int ((10 : Int) ^ (29 : Int).toNat), .str "", .str "word", .str "ways", .str "letters words", .ref p1, .ref p2, .ref p3, .ref p4, .ref p5, .ref p7, .int (-3)])) L
      [.non, .bl true, .int 0, .int ((10 : Int) ^ (29 : Int).toNat), .str "", .str "word", .str "ways", .str "letters words", .ref p1, .ref p2, .ref p3, .ref p4, .ref p5, .ref p7, .int (-3)] := SqL.of upd_same
    generalize upd G7 L _ = G8 at W8 a3 a4 a5 a6 a7 aL
    generalize hH8 : upd H7 L _ = H8
    have W8 : Wd [b] G H G8 [(p2, .lst [.str "a"]), (p1, .lst []), (b, bx x y z)] H8 := hH8 ▸ W8
    have V8 := W8.rot.rot
    refine ⟨_, rfl, _, rfl, b, x, y, z, 15, rfl, V8.here, hy, by decide, by decide, fun r x1 z1 r0 r1 => ?_⟩
    have V9 := V8.put (o' := .lst [.int x1, .int y, .int z1])
    generalize upd H8 b _ = H9 at V9 ⊢
    have fin : ∀ {v m}, Given K G8 H H9 m v → Q v H9 := fun {v m} g => q v m G8 H9 x1 z1 V9.gr V9.here g
    have fx : ∀ {v}, Fixed K G8 v → Q v H9 := fun {v} f => fin (m := none) (.inl ⟨rfl, f⟩)
    have h1' : H9 p1 = some (.lst ([].map V.str)) := V9.at_ (p1, .lst []) (by simp)
    have h2' : H9 p2 = some (.lst ([("a" : Str)].map V.str)) := V9.at_ (p2, .lst [.str "a"]) (by simp)
    have g1' : G8 p1 = none := V9.no (p1, .lst []) (by simp)
    have g2' : G8 p2 = none := V9.no (p2, .lst [.str "a"]) (by simp)
    have aL := V9.kn.seq aL
    obtain rfl | rfl | rfl | rfl | rfl | rfl | rfl | rfl | rfl | rfl | rfl | rfl | rfl | rfl | rfl : r = 0 ∨ r = 1 ∨ r = 2 ∨ r = 3 ∨ r = 4 ∨ r = 5 ∨ r = 6 ∨ r = 7 ∨ r = 8 ∨ r = 9 ∨ r = 10 ∨ r = 11 ∨ r = 12 ∨ r = 13 ∨ r = 14 := by omega
    · exact ⟨L, _, 0, _, rfl, rfl, aL, atI_nat (j := 0) rfl, fx .none⟩
    · exact ⟨L, _, 1, _, rfl, rfl, aL, atI_nat (j := 1) rfl, fx (.bl _)⟩
    · exact ⟨L, _, 2, _, rfl, rfl, aL, atI_nat (j := 2) rfl, fx (.int (by decide +kernel) (by decide +kernel) (by decide +kernel))⟩
    · exact ⟨L, _, 3, _, rfl, rfl, aL, atI_nat (j := 3) rfl, fx (.int (by decide +kernel) (by decide +kernel) (by decide +kernel))⟩
    · exact ⟨L, _, 4, _, rfl, rfl, aL, atI_nat (j := 4) rfl, fx (.str ⟨by decide +kernel, by decide +kernel⟩ (by unfold NotWord; decide +kernel))⟩
    · exact ⟨L, _, 5, _, rfl, rfl, aL, atI_nat (j := 5) rfl, fx (.str ⟨by decide +kernel, by decide +kernel⟩ (by unfold NotWord; decide +kernel))⟩
    · exact ⟨L, _, 6, _, rfl, rfl, aL, atI_nat (j := 6) rfl, fx (.str ⟨by decide +kernel, by decide +kernel⟩ (by unfold NotWord; decide +kernel))⟩
    · exact ⟨L, _, 7, _, rfl, rfl, aL, atI_nat (j := 7) rfl, fx (.str ⟨by decide +kernel, by decide +kernel⟩ (by unfold NotWord; decide +kernel))⟩
    · exact ⟨L, _, 8, _, rfl, rfl, aL, atI_nat (j := 8) rfl, fin (m := some p1) (.inr ⟨p1, [], rfl, rfl, h1', by decide, by simp, g1', f1⟩)⟩
    · exact ⟨L, _, 9, _, rfl, rfl, aL, atI_nat (j := 9) rfl, fin (m := some p2) (.inr ⟨p2, [("a" : Str)], rfl, rfl, h2', by decide, fun x hx => (by obtain rfl : x = "a" := (by simpa using hx); exact ⟨by decide +kernel, by decide +kernel⟩), g2', f2⟩)⟩
    · exact ⟨L, _, 10, _, rfl, rfl, aL, atI_nat (j := 10) rfl, fx (.tup (d := .tuple [.int 1]) a3 (by decide) (.inr (.tup a3 (.cons (.flat (.int 1)) .nil))) ⟨by decide +kernel, by decide +kernel, by decide +kernel, by decide +kernel⟩ (by decide +kernel))⟩
    · exact ⟨L, _, 11, _, rfl, rfl, aL, atI_nat (j := 11) rfl, fx (.d0 a4)⟩
    · exact ⟨L, _, 12, _, rfl, rfl, aL, atI_nat (j := 12) rfl, fx (.d1 a5)⟩
    · exact ⟨L, _, 13, _, rfl, rfl, aL, atI_nat (j := 13) rfl, fx (.tup (d := .tuple [.tuple []]) a7 (by simp) (.inr (.tup a7 (.cons (.tup a6 .nil) .nil))) ⟨by decide +kernel, by decide +kernel, by decide +kernel, by decide +kernel⟩ (by decide +kernel))⟩
    · exact ⟨L, _, 14, _, rfl, rfl, aL, atI_nat (j := 14) rfl, fx (.int (by decide +kernel) (by decide +kernel) (by decide +kernel))⟩
end
end K51
set_option Elab.async false
set_option linter.all false
set_option maxRecDepth 100000
set_option maxHeartbeats 1000000
set_option pp.maxSteps 600
namespace K51
open PySem PySem.Spec PyProof.Rows L2 Sv
section
variable {st : List (Str × Str)}
theorem steps_shq9 (h : ∀ p ∈ st, StepOk p) (hl : st.length ≤ 20) : Shq 9 (stepsD st) ∧ (stepsD st).weight ≤ 900 := by
  have h1 := steps_depth (st := st)
  have h2 := steps_weight h
  refine ⟨⟨by simp only [stepsD, PyData.showable]; exact steps_show, by simp only [stepsD, PyData.depth]; omega, by simp only [stepsD, PyData.leavesShort]; exact steps_leaf h, by simp only [stepsD, PyData.weight]; omega⟩, by simp only [stepsD, PyData.weight]; omega⟩
theorem steps_shq9t (h : ∀ p ∈ st, StepOk p) (hl : st.length ≤ 20) : Shq 9 (.tuple (st.map stepD)) ∧ (PyData.tuple (st.map stepD)).weight ≤ 900 := by
  have h1 := steps_depth (st := st)
  have h2 := steps_weight h
  refine ⟨⟨by simp only [PyData.showable]; exact steps_show, by simp only [PyData.depth]; omega, by simp only [PyData.leavesShort]; exact steps_leaf h, by simp only [PyData.weight]; omega⟩, by simp only [PyData.weight]; omega⟩
end
theorem paired_append {α β : Type} {R : α → β → Prop} : ∀ {xs xs' : List α} {ys ys' : List β}, Paired R xs ys → Paired R xs' ys' → Paired R (xs ++ xs') (ys ++ ys')
  | _, _, _, _, .nil, h => h
  | _, _, _, _, .cons r t, h => .cons r (paired_append t h)
theorem paired_rep {α β : Type} {R : α → β → Prop} {xs : List α} {ys : List β} (h : Paired R xs ys) : ∀ n : Nat, Paired R (List.replicate n xs).flatten (List.replicate n ys).flatten
  | 0 => .nil
  | n + 1 => by
    rw [List.replicate_succ, List.replicate_succ, List.flatten_cons, List.flatten_cons]
    exact paired_append h (paired_rep h n)
theorem mem_rep {α : Type} {ys : List α} {p : α} : ∀ {n : Nat}, p ∈ (List.replicate n ys).flatten → p ∈ ys
  | n, h => by
    obtain ⟨l, h1, h2⟩ := List.mem_flatten.mp h
    rw [List.eq_of_mem_replicate h1] at h2
    exact h2
theorem len_rep {α : Type} {ys : List α} : ∀ n : Nat, (List.replicate n ys).flatten.length = n * ys.length
  | 0 => by simp
  | n + 1 => by rw [List.replicate_succ, List.flatten_cons, List.length_append, len_rep n, Nat.succ_mul, Nat.add_comm]
theorem cut_take (xs : List V) (k : Nat) : cutV xs none (some (k : Int)) = xs.take k := by
  unfold cutV
  rw [HT.sIx_none, HT.sIx_nat, List.drop_zero, Nat.sub_zero]
  by_cases h : k ≤ xs.length
  · rw [Nat.min_eq_left h]
  · rw [Nat.min_eq_right (by omega), List.take_length, List.take_of_length_le (by omega)]
theorem cut_drop (xs : List V) (k : Nat) : cutV xs (some (k : Int)) none = xs.drop k := by
  unfold cutV
  rw [HT.sIx_none, HT.sIx_nat]
  by_cases h : k ≤ xs.length
  · rw [Nat.min_eq_left h, List.take_of_length_le (by rw [List.length_drop]; omega)]
  · rw [Nat.min_eq_right (by omega), List.drop_length, List.drop_of_length_le (by omega)]
    simp
structure WholeOk (K : PySem.W.Frag) (G : Hp) (v : V) : Prop where
  bad : Whole K G none v "NoSteps" v
  sh : Shows K G none v
  kn : Knd K G none "NoSteps" v
theorem Fixed.whole {K : PySem.W.Frag} {G : Hp} {v : V} (h : Fixed K G v) (hT : ∀ a xs, v = .ref a → SqT K G a xs → xs.length = 0 ∨ 6 < xs.length) : WholeOk K G v := by
  refine ⟨?_, h.shows, h.knd⟩
  cases h with
  | flat f => exact .flat f
  | dict f => exact .dict f
  | tup f => exact .seq (.inr f) (hT _ _ rfl f)
section
variable {P : Program} {w : World} {K : PySem.W.Frag} {mg : Str → Option Value} {base : Heap}
theorem whole_flat {G : Hp} {v : V} {d : PyData} (f : Flat1 v d) (h1 : Shq 9 d) (h2 : d.weight ≤ 900) : WholeOk K G v := ⟨.flat f, .fix (.inr (.flat f)) h1 h2, .flat f⟩
theorem whole_dict {G : Hp} {a : Addr} {kvs : List (Key × V)} {d : PyData} (h : G a = some (.dK kvs)) (r : RepOk K G (.ref a) d) (h1 : Shq 9 d) (h2 : d.weight ≤ 900) : WholeOk K G (.ref a) := ⟨.dict h, .fix r h1 h2, .dict h⟩
theorem whole_list {G : Hp} {a : Addr} {xs : List V} {st : List (Str × Str)} (h : SqL K G a xs) (hS : AreSteps K G xs st) (ok : ∀ p ∈ st, StepOk p) (hl : st.length = 0 ∨ (6 < st.length ∧ st.length ≤ 20)) : WholeOk K G (.ref a) := by
  have e : xs.length = st.length := Paired.length hS
  have hs := steps_shq9 ok (by omega)
  exact ⟨.seq (.inl h) (by omega), .fix (.inl (dpS h hS)) hs.1 hs.2, .lst h rfl⟩
theorem whole_tup {G : Hp} {a : Addr} {xs : List V} {st : List (Str × Str)} (h : SqT K G a xs) (hS : AreSteps K G xs st) (ok : ∀ p ∈ st, StepOk p) (hl : st.length = 0 ∨ (6 < st.length ∧ st.length ≤ 20)) : WholeOk K G (.ref a) := by
  have e : xs.length = st.length := Paired.length hS
  have hs := steps_shq9t ok (by omega)
  exact ⟨.seq (.inr h) (by omega), .fix (.inl ⟨.tup h (steps_dp hS), by simp only [PyData.hasDict]; exact steps_noDict⟩) hs.1 hs.2, .tup h⟩
def spWhole (K : PySem.W.Frag) : Sp := fun vs H Q _ => ∃ (b s : Addr) (x y z : Int) (G : Hp) (xs : List V) (st : List (Str × Str)), vs = [.ref b, .ref s] ∧ Same G H ∧ G b = none ∧ H b = some (bx x y z) ∧ YOk y ∧
  G s = some (.lst xs) ∧ AreSteps K G xs st ∧ (∀ p ∈ st, StepOk p) ∧ 1 ≤ st.length ∧ st.length ≤ 6 ∧
  ∀ v G' H' x' z', Grow [b] G H G' H' → H' b = some (bx x' y z') → WholeOk K G' v → Q v H'
theorem ok_law_whole (t : T K mg) : Ok P w K mg base CX0 2 (He.ga K "_law_whole") "_law_whole" ["box", "steps"] (spWhole K) := by
  obtain ⟨fd, F⟩ := t.d_law_whole
  have O_law_take_two := ok_law_take_two (P := P) (w := w) (base := base) t
  refine Ok.mk0 F t.g_law_whole sc_law_whole (F.binds fun _ _ _ _ _ _ us hl => match us, hl with | [_, _], _ => rfl) (fun vs H Q E h => ?_) (fun cdv A outer s H vs Q E hr h => ?_)
  · obtain ⟨b, s, x, y, z, G, xs, st, rfl, _⟩ := h
    rfl
  · obtain ⟨b, s, x, y, z, G, xs, st, rfl, hG, gb, hb, hy, gs, hS, ok, l1, l6, q⟩ := h
    refine ⟨_, (pss_cons (ps_set (i := 2) sc_law_whole.nd rfl (Or.inl rfl) (pe_lst (pa_cons pe_non (pa_cons pe_bl (pa_cons pe_int (pa_cons pe_str (pa_cons pe_str (pa_cons pe_dnewK (pa_cons (pe_disp (pps_cons pe_str pe_int pps_nil) (by rfl) (by rfl) (fun z => by cases z) (by decide)) (pa_cons (pe_lst pa_nil) (pa_cons (pe_tup pa_nil) (pa_cons (pe_slice sl_list (pe_op op_rep (pv 1) pe_int) po_none (po_some pe_int)) (pa_cons (pe_callTy call_tuple_of (by rfl) t.z_tuple (by decide +kernel) (pa_cons (pe_slice sl_list (pe_op op_rep (pv 1) pe_int) po_none (po_some (pe_op op_add pe_int (pe_callB call_len_seq (by rfl) t.z_len boot_len (pa_cons (pv 1) pa_nil))))) pa_nil)) pa_nil)))))))))))))
      (pss_one (ps_ret (pe_ix ix_list (pv 2) (pe_callN O_law_take_two (hr.mono (by decide)) pass0 (pa_cons (pv 0) (pa_cons pe_int pa_nil))) (fun _ _ => rfl))))), ?_⟩
    have hz : (100 : Nat) ≤ sizeLine := by rw [sizeLine_eq]; decide
    have hlx : xs.length = st.length := Paired.length hS
    have W0 := Wd.start1 hG hb gb
    intro p4 h4
    have W1 := W0.newP (o := .dK []) h4
    have e1 := W0.newG h4 (o := .dK [])
    have gs := e1 _ _ gs
    have hS := hS.mono e1
    have a4 : (upd G p4 (.dK [])) p4 = some (.dK []) := upd_same
    generalize upd G p4 _ = G1 at W1 gs hS a4
    generalize upd H p4 _ = H1 at W1 ⊢
    intro p5 h5
    refine ⟨upd_same, [(.inr "a", .int 1)], rfl, by decide, ?_⟩
    rw [upd_upd]
    have W2 := W1.newP (o := .dK (mergeK [] [(.inr "a", .int 1)])) h5
    have e2 := W1.newG h5 (o := .dK (mergeK [] [(.inr "a", .int 1)]))
    have gs := e2 _ _ gs
    have hS := hS.mono e2
    have a4 := e2 _ _ a4
    have a5 : (upd G1 p5 (.dK (mergeK [] [(.inr "a", .int 1)]))) p5 = some (.dK [(.inr "a", .int 1)]) := upd_same
    generalize upd G1 p5 _ = G2 at W2 gs hS a4 a5
    generalize upd H1 p5 _ = H2 at W2 ⊢
    refine ⟨(by show 0 ≤ sizeLine; omega), fun p6 h6 => ?_⟩
    have W3 := W2.newP (o := .lst []) h6
    have e3 := W2.newG h6 (o := .lst [])
    have gs := e3 _ _ gs
    have hS := hS.mono e3
    have a4 := e3 _ _ a4
    have a5 := e3 _ _ a5
    have a6 : SqL K (upd G2 p6 (.lst [])) p6 [] := SqL.of upd_same
    generalize upd G2 p6 _ = G3 at W3 gs hS a4 a5 a6
    generalize upd H2 p6 _ = H3 at W3 ⊢
    refine ⟨(by show 0 ≤ sizeLine; omega), fun p7 h7 => ?_⟩
    have W4 := W3.newP (o := .tup []) h7
    have e4 := W3.newG h7 (o := .tup [])
    have gs := e4 _ _ gs
    have hS := hS.mono e4
    have a4 := e4 _ _ a4
    have a5 := e4 _ _ a5
    have a6 := e4.seq a6
    have a7 : SqT K (upd G3 p7 (.tup [])) p7 [] := SqT.of upd_same
    generalize upd G3 p7 _ = G4 at W4 gs hS a4 a5 a6 a7
    generalize upd H3 p7 _ = H4 at W4 ⊢
    refine ⟨_, rfl, s, 7, xs, rfl, rfl, W4.kn _ _ gs, by decide, by decide, (by show xs.length * 7 ≤ sizeLine; omega), fun p8 h8 => ?_⟩
    have W5 := W4.newP (o := .lst (List.replicate (7 : Int).toNat xs).flatten) h8
    have e5 := W4.newG h8 (o := .lst (List.replicate (7 : Int).toNat xs).flatten)
    have gs := e5 _ _ gs
    have hS := hS.mono e5
    have a4 := e5 _ _ a4
    have a5 := e5 _ _ a5
    have a6 := e5.seq a6
    have a7 := same_t e5 a7
    have a8 : SqL K (upd G4 p8 (.lst (List.replicate (7 : Int).toNat xs).flatten)) p8 (List.replicate (7 : Int).toNat xs).flatten := SqL.of upd_same
    generalize upd G4 p8 _ = G5 at W5 gs hS a4 a5 a6 a7 a8
    generalize hH5 : upd H4 p8 _ = H5
    have W5 : Wd [b] G H G5 [(b, bx x y z)] H5 := hH5 ▸ W5
    refine ⟨_, rfl, p8, _, rfl, W5.kn.seq a8, fun p9 h9 => ?_⟩
    have W6 := W5.newP (o := .lst (cutV (List.replicate (7 : Int).toNat xs).flatten none (some 7))) h9
    have e6 := W5.newG h9 (o := .lst (cutV (List.replicate (7 : Int).toNat xs).flatten none (some 7)))
    have gs := e6 _ _ gs
    have hS := hS.mono e6
    have a4 := e6 _ _ a4
    have a5 := e6 _ _ a5
    have a6 := e6.seq a6
    have a7 := same_t e6 a7
    have a9 : SqL K (upd G5 p9 (.lst (cutV (List.replicate (7 : Int).toNat xs).flatten none (some 7)))) p9 (cutV (List.replicate (7 : Int).toNat xs).flatten none (some 7)) := SqL.of upd_same
    generalize upd G5 p9 _ = G6 at W6 gs hS a4 a5 a6 a7 a9
    generalize hH6 : upd H5 p9 _ = H6
    have W6 : Wd [b] G H G6 [(b, bx x y z)] H6 := hH6 ▸ W6
    refine ⟨_, rfl, s, 9, xs, rfl, rfl, W6.kn _ _ gs, by decide, by decide, (by show xs.length * 9 ≤ sizeLine; omega), fun p10 h10 => ?_⟩
    have W7 := W6.newP (o := .lst (List.replicate (9 : Int).toNat xs).flatten) h10
    have e7 := W6.newG h10 (o := .lst (List.replicate (9 : Int).toNat xs).flatten)
    have gs := e7 _ _ gs
    have hS := hS.mono e7
    have a4 := e7 _ _ a4
    have a5 := e7 _ _ a5
    have a6 := e7.seq a6
    have a7 := same_t e7 a7
    have a9 := e7.seq a9
    have a10 : SqL K (upd G6 p10 (.lst (List.replicate (9 : Int).toNat xs).flatten)) p10 (List.replicate (9 : Int).toNat xs).flatten := SqL.of upd_same
    generalize upd G6 p10 _ = G7 at W7 gs hS a4 a5 a6 a7 a9 a10
    generalize hH7 : upd H6 p10 _ = H7
    have W7 : Wd [b] G H G7 [(b, bx x y z)] H7 := hH7 ▸ W7
    refine ⟨_, rfl, s, xs, rfl, .inl (SqL.of (W7.kn _ _ gs)), _, _, rfl, rfl, _, rfl, p10, _, rfl, W7.kn.seq a10, fun p11 h11 => ?_⟩
    have W8 := W7.newP (o := .lst (cutV (List.replicate (9 : Int).toNat xs).flatten none (some (8 + (xs.length : Int))))) h11
    have e8 := W7.newG h11 (o := .lst (cutV (List.replicate (9 : Int).toNat xs).flatten none (some (8 + (xs.length : Int)))))
    have gs := e8 _ _ gs
    have hS := hS.mono e8
    have a4 := e8 _ _ a4
    have a5 := e8 _ _ a5
    have a6 := e8.seq a6
    have a7 := same_t e8 a7
    have a9 := e8.seq a9
    have a11 : SqL K (upd G7 p11 (.lst (cutV (List.replicate (9 : Int).toNat xs).flatten none (some (8 + (xs.length : Int)))))) p11 (cutV (List.replicate (9 : Int).toNat xs).flatten none (some (8 + (xs.length : Int)))) := SqL.of upd_same
    generalize upd G7 p11 _ = G8 at W8 gs hS a4 a5 a6 a7 a9 a11
    generalize hH8 : upd H7 p11 _ = H8
    have W8 : Wd [b] G H G8 [(b, bx x y z)] H8 := hH8 ▸ W8
    refine ⟨p11, _, rfl, .inl ⟨W8.kn.seq a11, fun p12 h12 => ?_⟩⟩
    have W9 := W8.newP (o := .tup (cutV (List.replicate (9 : Int).toNat xs).flatten none (some (8 + (xs.length : Int))))) h12
    have e9 := W8.newG h12 (o := .tup (cutV (List.replicate (9 : Int).toNat xs).flatten none (some (8 + (xs.length : Int)))))
    have gs := e9 _ _ gs
    have hS := hS.mono e9
    have a4 := e9 _ _ a4
    have a5 := e9 _ _ a5
    have a6 := e9.seq a6
    have a7 := same_t e9 a7
    have a9 := e9.seq a9
    have a12 : SqT K (upd G8 p12 (.tup (cutV (List.replicate (9 : Int).toNat xs).flatten none (some (8 + (xs.length : Int)))))) p12 (cutV (List.replicate (9 : Int).toNat xs).flatten none (some (8 + (xs.length : Int)))) := SqT.of upd_same
    generalize upd G8 p12 _ = G9 at W9 gs hS a4 a5 a6 a7 a9 a12
    generalize hH9 : upd H8 p12 _ = H9
    have W9 : Wd [b] G H G9 [(b, bx x y z)] H9 := hH9 ▸ W9
    refine ⟨(by show 11 ≤ sizeLine; omega), fun p13 h13 => ?_⟩
    have W10 := W9.newP (o := .lst [.non, .bl false, .int 6, .str "", .str "words", .ref p4, .ref p5, .ref p6, .ref p7, .ref p9, .ref p12]) h13
    have e10 := W9.newG h13 (o := .lst [.non, .bl false, .int 6, .str "", .str "words", .ref p4, .ref p5, .ref p6, .ref p7, .ref p9, .ref p12])
    have gs := e10 _ _ gs
    have hS := hS.mono e10
    have a4 := e10 _ _ a4
    have a5 := e10 _ _ a5
    have a6 := e10.seq a6
    have a7 := same_t e10 a7
    have a9 := e10.seq a9
    have a12 := same_t e10 a12
    have aL : SqL K (upd G9 p13 (.lst [.non, .bl false, .int 6, .str "", .str "words", .ref p4, .ref p5, .ref p6, .ref p7, .ref p9, .ref p12])) p13 [.non, .bl false, .int 6, .str "", .str "words", .ref p4, .ref p5, .ref p6, .ref p7, .ref p9, .ref p12] := SqL.of upd_same
    generalize upd G9 p13 _ = G10 at W10 gs hS a4 a5 a6 a7 a9 a12 aL
    generalize hH10 : upd H9 p13 _ = H10
    have W10 : Wd [b] G H G10 [(b, bx x y z)] H10 := hH10 ▸ W10
    refine ⟨_, rfl, _, rfl, b, x, y, z, 11, rfl, W10.here, hy, by decide, by decide, fun r x1 z1 r0 r1 => ?_⟩
    have V9 := W10.put (o' := .lst [.int x1, .int y, .int z1])
    generalize upd H10 b _ = H11 at V9 ⊢
    have fin : ∀ {v}, WholeOk K G10 v → Q v H11 := fun {v} g => q v G10 H11 x1 z1 V9.gr V9.here g
    have aL := V9.kn.seq aL
    have l7 : (List.replicate (7 : Int).toNat st).flatten.length = 7 * st.length := len_rep 7
    have l9 : (List.replicate (9 : Int).toNat st).flatten.length = 9 * st.length := len_rep 9
    have S7 : AreSteps K G10 (cutV (List.replicate (7 : Int).toNat xs).flatten none (some 7)) ((List.replicate (7 : Int).toNat st).flatten.take 7) := by
      rw [show (7 : Int) = ((7 : Nat) : Int) from rfl, cut_take]
      exact paired_take 7 (paired_rep hS 7)
    have S9 : AreSteps K G10 (cutV (List.replicate (9 : Int).toNat xs).flatten none (some (8 + (xs.length : Int)))) ((List.replicate (9 : Int).toNat st).flatten.take (8 + xs.length)) := by
      rw [show (8 : Int) + (xs.length : Int) = ((8 + xs.length : Nat) : Int) from by omega, cut_take]
      exact paired_take _ (paired_rep hS 9)
    obtain rfl | rfl | rfl | rfl | rfl | rfl | rfl | rfl | rfl | rfl | rfl : r = 0 ∨ r = 1 ∨ r = 2 ∨ r = 3 ∨ r = 4 ∨ r = 5 ∨ r = 6 ∨ r = 7 ∨ r = 8 ∨ r = 9 ∨ r = 10 := by omega
    · exact ⟨p13, _, 0, _, rfl, rfl, aL, atI_nat (j := 0) rfl, fin (whole_flat .non ⟨rfl, by simp [PyData.depth], rfl, by simp [PyData.weight]⟩ (by simp [PyData.weight]))⟩
    · exact ⟨p13, _, 1, _, rfl, rfl, aL, atI_nat (j := 1) rfl, fin (whole_flat (.bl _) (bool_shq _).1 (bool_shq _).2)⟩
    · exact ⟨p13, _, 2, _, rfl, rfl, aL, atI_nat (j := 2) rfl, fin (whole_flat (.int _) ⟨by decide +kernel, by decide +kernel, by decide +kernel, by decide +kernel⟩ (by decide +kernel))⟩
    · exact ⟨p13, _, 3, _, rfl, rfl, aL, atI_nat (j := 3) rfl, fin (whole_flat (.str _) ⟨by decide +kernel, by decide +kernel, by decide +kernel, by decide +kernel⟩ (by decide +kernel))⟩
    · exact ⟨p13, _, 4, _, rfl, rfl, aL, atI_nat (j := 4) rfl, fin (whole_flat (.str _) ⟨by decide +kernel, by decide +kernel, by decide +kernel, by decide +kernel⟩ (by decide +kernel))⟩
    · exact ⟨p13, _, 5, _, rfl, rfl, aL, atI_nat (j := 5) rfl, fin (whole_dict (d := .dict []) a4 (.inr (.dict a4 .nil)) ⟨by decide +kernel, by decide +kernel, by decide +kernel, by decide +kernel⟩ (by decide +kernel))⟩
    · exact ⟨p13, _, 6, _, rfl, rfl, aL, atI_nat (j := 6) rfl, fin (whole_dict (d := .dict [(.str "a", .int 1)]) a5 (.inr (.dict (ds := [.int 1]) a5 (.cons (.int 1) .nil))) ⟨by decide +kernel, by decide +kernel, by decide +kernel, by decide +kernel⟩ (by decide +kernel))⟩
    · exact ⟨p13, _, 7, _, rfl, rfl, aL, atI_nat (j := 7) rfl, fin (whole_list (st := []) a6 .nil (by simp) (.inl rfl))⟩
    · exact ⟨p13, _, 8, _, rfl, rfl, aL, atI_nat (j := 8) rfl, fin (whole_tup (st := []) a7 .nil (by simp) (.inl rfl))⟩
    · exact ⟨p13, _, 9, _, rfl, rfl, aL, atI_nat (j := 9) rfl, fin (whole_list a9 S7 (fun p hp => ok p (mem_rep (List.mem_of_mem_take hp))) (.inr (by rw [List.length_take, l7]; omega)))⟩
    · exact ⟨p13, _, 10, _, rfl, rfl, aL, atI_nat (j := 10) rfl, fin (whole_tup a12 S9 (fun p hp => ok p (mem_rep (List.mem_of_mem_take hp))) (.inr (by rw [List.length_take, l9]; omega)))⟩
end
end K51
set_option Elab.async false
set_option linter.all false
set_option maxRecDepth 100000
set_option maxHeartbeats 1000000
set_option pp.maxSteps 600
namespace K51
open PySem PySem.Spec PyProof.Rows L2 Sv
def okwB (x : Str) : Bool := (PyData.str x).leavesShort 64 && decide ((PyData.str x).weight ≤ 40)
theorem okwB_ok {x : Str} (h : okwB x = true) : okW x := by
  obtain ⟨h1, h2⟩ := Bool.and_eq_true_iff.mp h
  exact ⟨h1, of_decide_eq_true h2⟩
/-- a text that is no part -/
def NoPartT (z : Str) : Prop := okwB z = true ∧ ∀ k : _root_.Fin 6, z ≠ partW k
def NoWayT (k : Nat) (z : Str) : Prop := okwB z = true ∧ z ∉ waysOf k
theorem part_bent : ∀ k : _root_.Fin 6, NoPartT (Txt.upper (partW k)) ∧ NoPartT (partW k ++ " ") ∧ NoPartT (cutS (partW k) none (some (-1))) ∧ NoPartT (partW k ++ "s") ∧ okwB (partW k) = true := by unfold NoPartT; decide +kernel
theorem way_bent : ∀ k : _root_.Fin 6, ∀ z ∈ waysOf k, NoWayT k (z ++ "s") ∧ NoWayT k (Txt.upper z) ∧ NoWayT k (cutS z none (some (-1))) ∧ okwB z = true ∧ z.length ≤ 10 := by unfold NoWayT; decide +kernel
theorem way_else : NoWayT 0 "late" ∧ ∀ k : _root_.Fin 6, k.1 ≠ 0 → NoWayT k "short" := by unfold NoWayT; decide +kernel
theorem part_is0 : ∀ k : _root_.Fin 6, decide (V.str (partW k) = V.str "letters") = decide (k.1 = 0) := by decide +kernel
def MC : Option Addr → List Str → List (Addr × HO)
  | none, _ => []
  | some a, ws => [(a, .lst (ws.map V.str))]
def MOk (G' H H' : Hp) (m : Option Addr) : Prop := ∀ a, m = some a → ∃ ws : List Str, H' a = some (.lst (ws.map V.str)) ∧ ws.length ≤ 2 ∧ (∀ x ∈ ws, okW x) ∧ G' a = none ∧ H a = none
/-- a thing that is given: fixed data, or the list that may be written -/
def Giv (K : PySem.W.Frag) (G : Hp) (m : Option Addr) (v : V) : Prop := (m = none ∧ Fixed K G v) ∨ ∃ a, v = .ref a ∧ m = some a
section
variable {K : PySem.W.Frag} {G H : Hp} {m : Option Addr} {v : V}
theorem Giv.same (e : Same G H) (h : Giv K G m v) : Giv K H m v := h.elim (fun z => .inl ⟨z.1, z.2.same e⟩) .inr
theorem Giv.notStep (h : Giv K G m v) : NotStep K G m v := by
  rcases h with ⟨rfl, f⟩ | ⟨a, rfl, e⟩
  · exact f.notStep
  · exact .lst e
theorem Giv.thing (h : Giv K G m v) : Thing K G m v := by
  rcases h with ⟨rfl, f⟩ | ⟨a, rfl, e⟩
  · exact f.thing
  · exact .lst e
theorem Giv.shows (h : Giv K G m v) : Shows K G m v := by
  rcases h with ⟨rfl, f⟩ | ⟨a, rfl, e⟩
  · exact f.shows
  · exact .lst e
theorem Giv.knd {C : Str} (h : Giv K G m v) (hC : C ≠ "NoSteps") : Knd K G m C v := by
  rcases h with ⟨rfl, f⟩ | ⟨a, rfl, e⟩
  · exact f.knd
  · exact .own e hC
theorem Giv.np (h : Giv K G m v) : ∀ k, k < 6 → v ≠ .str (partW k) := by
  rcases h with ⟨rfl, f⟩ | ⟨a, rfl, e⟩
  · exact f.np
  · exact fun _ _ z => nomatch z
theorem Giv.nw (h : Giv K G m v) : ∀ k, k < 6 → ∀ z, v = .str z → z ∉ waysOf k := by
  rcases h with ⟨rfl, f⟩ | ⟨a, rfl, e⟩
  · exact f.nw
  · exact fun _ _ _ z => nomatch z
theorem NotStep.same (e : Same G H) (h : NotStep K G m v) : NotStep K H m v := by
  cases h with
  | flat f => exact .flat f
  | lst f => exact .lst f
  | dict f => exact .dict (e _ _ f)
  | tup f g => exact .tup (same_t e f) g
theorem Thing.same (e : Same G H) (h : Thing K G m v) : Thing K H m v := by
  cases h with
  | flat f => exact .flat f
  | lst f => exact .lst f
  | dict f => exact .dict (e _ _ f)
  | tup f => exact .tup (same_t e f)
theorem Shows.same (e : Same G H) (h : Shows K G m v) : Shows K H m v := by
  cases h with
  | fix f h1 h2 => exact .fix (f.same e) h1 h2
  | lst f => exact .lst f
theorem Knd.same {C : Str} (e : Same G H) (h : Knd K G m C v) : Knd K H m C v := by
  cases h with
  | flat f => exact .flat f
  | dict f => exact .dict (e _ _ f)
  | tup f => exact .tup (same_t e f)
  | lst f g => exact .lst (e.seq f) g
  | own f g => exact .own f g
theorem Bad.same {st : List (Str × Str)} {C : Str} {u : V} (e : Same G H) (h : Bad K G m st v C u) : Bad K H m st v C u := by
  cases h with
  | step f => exact .step (f.same e)
  | part f g h => exact .part (same_t e f) (g.same e) h
  | way f g h k => exact .way (same_t e f) g (h.same e) k
  | twice f g h k => exact .twice (same_t e f) g h k
theorem str_shows {x : Str} (h : okW x) : Shows K G m (.str x) := .fix (.inr (.flat (.str x))) (okW_shq h).1 (okW_shq h).2
/-- texts in a tuple, told by repr -/
theorem tup_rep {a : Addr} {ws : List Str} (h : SqT K G a (ws.map V.str)) (hl : ws.length ≤ 6) (ok : ∀ x ∈ ws, okW x) : ∃ d, RepOk K G (.ref a) d ∧ Shq 9 d ∧ d.weight ≤ 900 := by
  obtain ⟨k1, k2, k3, k4, k5⟩ := strs_show 6 hl ok
  refine ⟨.tuple (ws.map .str), .inl ⟨.tup h (strs_dp ws), by simp only [PyData.hasDict]; exact k5⟩, ⟨by simp only [PyData.showable]; exact k1, by simp only [PyData.depth]; omega, by simp only [PyData.leavesShort]; exact k3, by simp only [PyData.weight]; omega⟩, by simp only [PyData.weight]; omega⟩
theorem MC.ok {bs : List Addr} {G0 H0 G' : Hp} {H' : Hp} {b : Addr} {o : HO} {ws : List Str} (W : Wd bs G0 H0 G' ((b, o) :: MC m ws) H') (hb : ∀ a, m = some a → a ∉ bs) (hl : ws.length ≤ 2) (ok : ∀ x ∈ ws, okW x) : MOk G' H0 H' m := by
  rintro a rfl
  have hm : (a, HO.lst (ws.map V.str)) ∈ (b, o) :: MC (some a) ws := List.mem_cons_of_mem _ (List.mem_cons_self ..)
  exact ⟨ws, W.at_ _ hm, hl, ok, W.no _ hm, (W.own _ hm).resolve_left (hb a rfl)⟩
end
def spSpoilt (K : PySem.W.Frag) : Sp := fun vs H Q _ => ∃ (b s : Addr) (x y z : Int) (G : Hp) (xs : List V) (st : List (Str × Str)) (j : Nat), vs = [.ref b, .ref s, .int (j : Int)] ∧ Same G H ∧ G b = none ∧ H b = some (bx x y z) ∧ YOk y ∧
  SqL K G s xs ∧ AreSteps K G xs st ∧ Good st ∧ j < st.length ∧ st.length ≤ 6 ∧
  ∀ r v C u m G' H' x' z', Grow [b] G H G' H' → H' b = some (bx x' y z') → SqL K G' r [v, .str (kindOf C), u] → Bad K G' m (st.take j) v C u → Shows K G' m u → Knd K G' m C u → MOk G' H H' m → Q (.ref r) H'
section
variable {P : Program} {w : World} {K : PySem.W.Frag} {mg : Str → Option Value} {base : Heap}
theorem ok_law_spoilt (t : T K mg) : Ok P w K mg base CX0 3 (He.ga K "_law_spoilt") "_law_spoilt" ["box", "steps", "at"] (spSpoilt K) := by
  obtain ⟨fd, F⟩ := t.d_law_spoilt
  have O_law_take_two := ok_law_take_two (P := P) (w := w) (base := base) t
  have O_law_thing := ok_law_thing (P := P) (w := w) (base := base) t
  refine Ok.mk0 F t.g_law_spoilt sc_law_spoilt (F.binds fun _ _ _ _ _ _ us hl => match us, hl with | [_, _, _], _ => rfl) (fun vs H Q E h => ?_) (fun cdv A outer s H vs Q E hr h => ?_)
  · obtain ⟨b, s, x, y, z, G, xs, st, j, rfl, _⟩ := h
    rfl
  · obtain ⟨b, s, x, y, z, G, xs, st, j, rfl, hG, gb, hb, hy, hs, hS, gd, hj, l6, q⟩ := h
    refine ⟨_, (pss_cons (ps_asg (pe_ix ix_list (pv 1) (pv 2) (fun _ _ => rfl)) (pg_tup rfl (pgs_cons (pg_name (i := 3) sc_law_spoilt.nd rfl (Or.inl rfl)) (pgs_cons (pg_name (i := 4) sc_law_spoilt.nd rfl (Or.inl rfl)) pgs_nil))))
      (pss_cons (ps_set (i := 5) sc_law_spoilt.nd rfl (Or.inl rfl) (pe_callN O_law_take_two (hr.mono (by decide)) pass0 (pa_cons (pv 0) (pa_cons pe_int pa_nil))))
      (pss_cons (ps_set (i := 6) sc_law_spoilt.nd rfl (Or.inl rfl) (pe_callN O_law_thing (hr.mono (by decide)) pass0 (pa_cons (pv 0) pa_nil)))
      (pss_cons (ps_set (i := 7) sc_law_spoilt.nd rfl (Or.inl rfl) (pe_callN O_law_take_two (hr.mono (by decide)) pass0 (pa_cons (pv 0) (pa_cons pe_int pa_nil))))
      (pss_cons (ps_if (pt_cmpR op_eq (pv 5) pe_int (nomark _))
        (pss_cons (ps_set (i := 6) sc_law_spoilt.nd rfl (Or.inl rfl) (pe_ix ix_list (pe_lst (pa_cons (pv 6) (pa_cons (pe_lst (pa_cons (pv 3) (pa_cons (pv 4) pa_nil))) (pa_cons (pe_tup (pa_cons (pv 3) pa_nil)) (pa_cons (pe_tup (pa_cons (pv 3) (pa_cons (pv 4) (pa_cons (pv 4) pa_nil)))) (pa_cons (pv 3) pa_nil)))))) (pv 7) (fun _ _ => rfl)))
        (pss_one (ps_ret (pe_lst (pa_cons (pv 6) (pa_cons pe_str (pa_cons (pv 6) pa_nil)))))))
        pss_nil)
      (pss_cons (ps_if (pt_cmpR op_eq (pv 5) pe_int (nomark _))
        (pss_cons (ps_set (i := 6) sc_law_spoilt.nd rfl (Or.inl rfl) (pe_ix ix_list (pe_lst (pa_cons (pv 6) (pa_cons (pe_upper (pv 3)) (pa_cons (pe_op op_add_str (pv 3) pe_str) (pa_cons (pe_slice sl_str (pv 3) po_none (po_some (pe_un un_neg pe_int))) (pa_cons (pe_op op_add_str (pv 3) pe_str) pa_nil)))))) (pv 7) (fun _ _ => rfl)))
        (pss_one (ps_ret (pe_lst (pa_cons (pe_tup (pa_cons (pv 6) (pa_cons (pe_ix ix_list (pe_lst (pa_cons (pv 4) (pa_cons pe_non pa_nil))) (pe_callN O_law_take_two (hr.mono (by decide)) pass0 (pa_cons (pv 0) (pa_cons pe_int pa_nil))) (fun _ _ => rfl)) pa_nil))) (pa_cons pe_str (pa_cons (pv 6) pa_nil)))))))
        pss_nil)
      (pss_cons (ps_if (PW.pt (pw_and (pt_cmpR op_eq (pv 5) pe_int (nomark _)) (pw_and1 (pt_cmpR op_gt (pv 2) pe_int (nomark _)))))
        (pss_cons (ps_asg (pe_ix ix_list (pv 1) (pe_callN O_law_take_two (hr.mono (by decide)) pass0 (pa_cons (pv 0) (pa_cons (pv 2) pa_nil))) (fun _ _ => rfl)) (pg_tup rfl (pgs_cons (pg_name (i := 3) sc_law_spoilt.nd rfl (Or.inl rfl)) (pgs_cons (pg_name (i := 4) sc_law_spoilt.nd rfl (Or.inl rfl)) pgs_nil))))
        (pss_one (ps_if (pt_cmpR op_gt (pe_callN O_law_take_two (hr.mono (by decide)) pass0 (pa_cons (pv 0) (pa_cons pe_int pa_nil))) pe_int (nomark _))
          (pss_one (ps_ret (pe_lst (pa_cons (pe_tup (pa_cons (pv 3) (pa_cons (pv 4) pa_nil))) (pa_cons pe_str (pa_cons (pv 3) pa_nil))))))
          pss_nil)))
        pss_nil)
      (pss_cons (ps_set (i := 8) sc_law_spoilt.nd rfl (Or.inl rfl) (pe_ix ix_list (pe_lst (pa_cons (pv 6) (pa_cons (pe_ix ix_list (pe_lst (pa_cons pe_str (pa_cons pe_str pa_nil))) (pe_callTy call_int1 (by rfl) t.z_int (by decide +kernel) (pa_cons (pe_cmpR op_eq (pv 3) pe_str (nomark _)) pa_nil)) (fun _ _ => rfl)) (pa_cons (pe_op op_add_str (pv 4) pe_str) (pa_cons (pe_upper (pv 4)) (pa_cons (pe_slice sl_str (pv 4) po_none (po_some (pe_un un_neg pe_int))) pa_nil)))))) (pv 7) (fun _ _ => rfl)))
      (pss_one (ps_ret (pe_lst (pa_cons (pe_tup (pa_cons (pv 3) (pa_cons (pv 8) pa_nil))) (pa_cons pe_str (pa_cons (pv 8) pa_nil)))))))))))))), ?_⟩
    have hz : (100 : Nat) ≤ sizeLine := by rw [sizeLine_eq]; decide
    have hlx : xs.length = st.length := Paired.length hS
    have kNS : kindOf "NoStep" = "step" := by decide +kernel
    have kNP : kindOf "NoPart" = "part" := by decide +kernel
    have kNW : kindOf "NoWay" = "way" := by decide +kernel
    have kTW : kindOf "Twice" = "twice" := by decide +kernel
    -- part, way = steps[at]
    have hjx : j < xs.length := by omega
    obtain ⟨⟨p1, z1⟩, hp1, ⟨a1, ea1, hT1⟩⟩ := paired_at hS (List.getElem?_eq_getElem hjx)
    obtain ⟨k, hk, e1, hz1⟩ := gd.ok _ (List.mem_of_getElem? hp1)
    dsimp only at e1 hz1 hT1
    subst e1
    refine ⟨_, rfl, _, rfl, s, xs, j, .ref a1, rfl, rfl, hG.seq hs, atI_nat (by rw [List.getElem?_eq_getElem hjx, ea1]), a1, _, rfl, same_t hG hT1, rfl, _, _, rfl, _, _, rfl, rfl, ?_⟩
    have W0 := Wd.start1 hG hb gb
    -- kind
    refine ⟨_, rfl, b, x, y, z, 4, rfl, W0.here, hy, by decide, by decide, fun kd x1 z2 kd0 kd1 => ?_⟩
    have W1 := W0.put (o' := .lst [.int x1, .int y, .int z2])
    generalize upd H b _ = H1 at W1 ⊢
    -- thing
    refine ⟨_, rfl, b, x1, y, z2, G, rfl, W1.kn, gb, W1.here, hy, fun v m G2 H2 x2 z3 g2 hb2 gv => ?_⟩
    have W2 := W1.call1 g2 hb2
    have gv2 : ∃ ws : List Str, Wd [b] G H G2 ((b, .lst [.int x2, .int y, .int z3]) :: MC m ws) H2 ∧ ws.length ≤ 2 ∧ (∀ x ∈ ws, okW x) ∧ (∀ a, m = some a → a ∉ [b]) ∧ Giv K G2 m v := by
      rcases gv with ⟨rfl, f⟩ | ⟨a, ws, rfl, rfl, h1, h2, h3, h4, h5⟩
      · exact ⟨[], W2, by decide, by simp, (fun a e => nomatch e), .inl ⟨rfl, f⟩⟩
      · have ab : b ≠ a := fun e => by rw [← e, W1.here] at h5; cases h5
        refine ⟨ws, (W2.got h1 h4 (W1.fresh0 h5) (by simpa using ab)).swap, h2, h3, fun a' e => ?_, .inr ⟨a, rfl, rfl⟩⟩
        cases e
        simpa using Ne.symm ab
    clear gv W2
    obtain ⟨ws, W2, wl, wok, mb, gv⟩ := gv2
    have hs := g2.g.seq hs
    have hS := hS.mono g2.g
    have hT1 := same_t g2.g hT1
    -- pick
    refine ⟨_, rfl, b, x2, y, z3, 5, rfl, W2.here, hy, by decide, by decide, fun pk x3 z4 pk0 pk1 => ?_⟩
    have W3 := W2.put (o' := .lst [.int x3, .int y, .int z4])
    generalize upd H2 b _ = H3 at W3 ⊢
    clear W1 W0 W2
    have oz1 := okwB_ok (way_bent ⟨k, hk⟩ z1 hz1).2.2.2.1
    have op1 := okwB_ok (part_bent ⟨k, hk⟩).2.2.2.2
    refine ⟨_, rfl, rfl, _, rfl, ?_⟩
    obtain rfl | rfl | rfl | rfl : kd = 0 ∨ kd = 1 ∨ kd = 2 ∨ kd = 3 := by omega
    · -- no step
      refine ite2 (fun _ => ?_) (fun hc => absurd (by decide) hc)
      refine ⟨_, rfl, _, rfl, _, rfl, (by show 2 ≤ sizeLine; omega), fun p2 h2 => ?_⟩
      have W4 := (W3.newM (o := .lst [.str (partW k), .str z1]) h2).swap
      have f2 := W3.fresh0 h2
      have b2 : p2 ∉ [b] := by
        have : b ≠ p2 := W3.ne h2 (List.mem_cons_self ..)
        simpa using Ne.symm this
      generalize upd H3 p2 _ = H4 at W4 ⊢
      refine ⟨_, rfl, (by show 1 ≤ sizeLine; omega), fun p3 h3 => ?_⟩
      have W5 := W4.newP (o := .tup [.str (partW k)]) h3
      have gv := gv.same (W4.newG h3 (o := .tup [.str (partW k)]))
      have a3 : SqT K (upd G2 p3 (.tup [.str (partW k)])) p3 [.str (partW k)] := SqT.of upd_same
      generalize upd G2 p3 _ = G5 at W5 gv a3
      generalize upd H4 p3 _ = H5 at W5 ⊢
      refine ⟨_, rfl, _, rfl, _, rfl, (by show 3 ≤ sizeLine; omega), fun p4 h4 => ?_⟩
      have W6 := W5.newP (o := .tup [.str (partW k), .str z1, .str z1]) h4
      have e6 := W5.newG h4 (o := .tup [.str (partW k), .str z1, .str z1])
      have gv := gv.same e6
      have a3 := same_t e6 a3
      have a4 : SqT K (upd G5 p4 (.tup [.str (partW k), .str z1, .str z1])) p4 [.str (partW k), .str z1, .str z1] := SqT.of upd_same
      generalize upd G5 p4 _ = G6 at W6 gv a3 a4
      generalize upd H5 p4 _ = H6 at W6 ⊢
      refine ⟨_, rfl, (by show 5 ≤ sizeLine; omega), fun L hL => ?_⟩
      have W7 := W6.newP (o := .lst [v, .ref p2, .ref p3, .ref p4, .str (partW k)]) hL
      have e7 := W6.newG hL (o := .lst [v, .ref p2, .ref p3, .ref p4, .str (partW k)])
      have gv := gv.same e7
      have a3 := same_t e7 a3
      have a4 := same_t e7 a4
      have aL : SqL K (upd G6 L (.lst [v, .ref p2, .ref p3, .ref p4, .str (partW k)])) L [v, .ref p2, .ref p3, .ref p4, .str (partW k)] := SqL.of upd_same
      generalize upd G6 L _ = G7 at W7 gv a3 a4 aL
      generalize upd H6 L _ = H7 at W7 ⊢
      -- what is handed back
      have fin : ∀ {v' : V} {m' : Option Addr} {ws' : List Str} {r : Addr}, Wd [b] G H G7 ((b, .lst [.int x3, .int y, .int z4]) :: MC m' ws') H7 → ws'.length ≤ 2 → (∀ x ∈ ws', okW x) → (∀ a, m' = some a → a ∉ [b]) → NotStep K G7 m' v' → Shows K G7 m' v' → Knd K G7 m' "NoStep" v' → H7 r = none →
          Q (.ref r) (upd H7 r (.lst [v', .str "step", v'])) := by
        intro v' m' ws' r W hl hok hmb n1 n2 n3 hr0
        have e8 := W.newG hr0 (o := .lst [v', .str "step", v'])
        have W8 := W.newP (o := .lst [v', .str "step", v']) hr0
        have aR : SqL K (upd G7 r (.lst [v', .str "step", v'])) r [v', .str (kindOf "NoStep"), v'] := by rw [kNS]; exact SqL.of upd_same
        exact q r v' "NoStep" v' m' _ _ x3 z4 W8.gr W8.here aR (.step (n1.same e8)) (n2.same e8) (n3.same e8) (MC.ok W8 hmb hl hok)
      have cut : ∀ {M : List (Addr × HO)} {o : HO} {Hx : Hp}, Wd [b] G H G7 ((b, o) :: M) Hx → Wd [b] G H G7 ((b, o) :: MC none []) Hx := fun W => W.some (fun q hq => by
        obtain rfl : q = _ := by simpa [MC] using hq
        exact List.mem_cons_self ..) (by simp [MC])
      obtain rfl | rfl | rfl | rfl | rfl : pk = 0 ∨ pk = 1 ∨ pk = 2 ∨ pk = 3 ∨ pk = 4 := by omega
      · refine ⟨_, rfl, L, _, 0, v, rfl, rfl, W7.kn.seq aL, atI_nat (j := 0) rfl, _, rfl, _, rfl, (by show 3 ≤ sizeLine; omega), fun r hr0 => ?_⟩
        have W8 : Wd [b] G H G7 ((b, .lst [.int x3, .int y, .int z4]) :: MC m ws) H7 := W7.some (fun q hq => by
          rcases List.mem_cons.mp hq with rfl | h
          · exact List.mem_cons_self ..
          · exact List.mem_cons_of_mem _ (List.mem_cons_of_mem _ h)) (by
            have nd := W7.nd
            simp only [List.map_cons, List.nodup_cons, List.mem_cons, not_or] at nd ⊢
            exact ⟨nd.1.2, nd.2.2⟩)
        exact fin W8 wl wok mb gv.notStep gv.shows (gv.knd (by decide)) hr0
      · refine ⟨_, rfl, L, _, 1, .ref p2, rfl, rfl, W7.kn.seq aL, atI_nat (j := 1) rfl, _, rfl, _, rfl, (by show 3 ≤ sizeLine; omega), fun r hr0 => ?_⟩
        have W8 : Wd [b] G H G7 ((b, .lst [.int x3, .int y, .int z4]) :: MC (some p2) [partW k, z1]) H7 := W7.some (fun q hq => by
          simp only [MC, List.mem_cons, List.not_mem_nil, or_false] at hq
          rcases hq with rfl | rfl
          · exact List.mem_cons_self ..
          · exact List.mem_cons_of_mem _ (List.mem_cons_self ..)) (by
            have : b ≠ p2 := fun e => b2 (by simp [e])
            simp [MC, this])
        refine fin W8 (by simp) (fun x hx => ?_) (fun a e => by cases e; exact b2) (.lst rfl) (.lst rfl) (.own rfl (by decide)) hr0
        simp only [List.mem_cons, List.not_mem_nil, or_false] at hx
        rcases hx with rfl | rfl
        · exact op1
        · exact oz1
      · refine ⟨_, rfl, L, _, 2, .ref p3, rfl, rfl, W7.kn.seq aL, atI_nat (j := 2) rfl, _, rfl, _, rfl, (by show 3 ≤ sizeLine; omega), fun r hr0 => ?_⟩
        obtain ⟨d, r1, r2, r3⟩ := tup_rep (ws := [partW k]) a3 (by simp) (by simpa using op1)
        exact fin (cut W7) (by simp) (by simp) (fun a e => nomatch e) (.tup a3 (by simp)) (.fix r1 r2 r3) (.tup a3) hr0
      · refine ⟨_, rfl, L, _, 3, .ref p4, rfl, rfl, W7.kn.seq aL, atI_nat (j := 3) rfl, _, rfl, _, rfl, (by show 3 ≤ sizeLine; omega), fun r hr0 => ?_⟩
        obtain ⟨d, r1, r2, r3⟩ := tup_rep (ws := [partW k, z1, z1]) a4 (by simp) (fun x hx => by
          simp only [List.mem_cons, List.not_mem_nil, or_false] at hx
          rcases hx with rfl | rfl | rfl
          · exact op1
          · exact oz1
          · exact oz1)
        exact fin (cut W7) (by simp) (by simp) (fun a e => nomatch e) (.tup a4 (by simp)) (.fix r1 r2 r3) (.tup a4) hr0
      · refine ⟨_, rfl, L, _, 4, .str (partW k), rfl, rfl, W7.kn.seq aL, atI_nat (j := 4) rfl, _, rfl, _, rfl, (by show 3 ≤ sizeLine; omega), fun r hr0 => ?_⟩
        exact fin (cut W7) (by simp) (by simp) (fun a e => nomatch e) (.flat (.str _)) (str_shows op1) (.flat (.str _)) hr0
    · -- no part
      refine ite2 (fun hc => absurd hc (by decide)) (fun _ => ?_)
      refine ⟨_, rfl, rfl, _, rfl, ?_⟩
      refine ite2 (fun _ => ?_) (fun hc => absurd (by decide) hc)
      obtain ⟨q1, q2, q3, q4, q5⟩ := part_bent ⟨k, hk⟩
      have pl := part_short ⟨k, hk⟩
      have pl : (partW k).length ≤ 10 := pl
      refine ⟨_, rfl, _, rfl, ⟨_, rfl⟩, _, rfl, rfl, by omega, ?_⟩
      refine ⟨_, rfl, _, _, rfl, rfl, (by have : (Str.ofString " ").length ≤ 5 := by decide +kernel
                                          omega), _, rfl, _, rfl, _, rfl, _, rfl, by omega, _, rfl, _, _, rfl, rfl, (by have : (Str.ofString "s").length ≤ 5 := by decide +kernel
                                                                                                                        omega), (by show 5 ≤ sizeLine; omega), fun L hL => ?_⟩
      have LX : List V := []
      clear LX
      have W4 := W3.newP (o := .lst [v, .str (Txt.upper (partW k)), .str (partW k ++ " "), .str (cutS (partW k) none (some (-1))), .str (partW k ++ "s")]) hL
      have e4 := W3.newG hL (o := .lst [v, .str (Txt.upper (partW k)), .str (partW k ++ " "), .str (cutS (partW k) none (some (-1))), .str (partW k ++ "s")])
      have aL : SqL K (upd G2 L (.lst [v, .str (Txt.upper (partW k)), .str (partW k ++ " "), .str (cutS (partW k) none (some (-1))), .str (partW k ++ "s")])) L [v, .str (Txt.upper (partW k)), .str (partW k ++ " "), .str (cutS (partW k) none (some (-1))), .str (partW k ++ "s")] := SqL.of upd_same
      have gv := gv.same e4
      generalize upd G2 L _ = G4 at W4 gv aL
      generalize hH4 : upd H3 L _ = H4
      have W4 : Wd [b] G H G4 ((b, .lst [.int x3, .int y, .int z4]) :: MC m ws) H4 := hH4 ▸ W4
      have tx : ∀ z, NoPartT z → Thing K G4 m (.str z) ∧ (∀ i, i < 6 → V.str z ≠ .str (partW i)) ∧ Shows K G4 m (.str z) ∧ Knd K G4 m "NoPart" (.str z) := fun z h =>
        ⟨.flat (.str z), fun i hi e => h.2 ⟨i, hi⟩ (by cases e; rfl), str_shows (okwB_ok h.1), .flat (.str z)⟩
      have pick : ∃ v', atI [v, .str (Txt.upper (partW k)), .str (partW k ++ " "), .str (cutS (partW k) none (some (-1))), .str (partW k ++ "s")] pk = some v' ∧ Thing K G4 m v' ∧ (∀ i, i < 6 → v' ≠ .str (partW i)) ∧ Shows K G4 m v' ∧ Knd K G4 m "NoPart" v' := by
        obtain rfl | rfl | rfl | rfl | rfl : pk = 0 ∨ pk = 1 ∨ pk = 2 ∨ pk = 3 ∨ pk = 4 := by omega
        · exact ⟨_, atI_nat (j := 0) rfl, gv.thing, gv.np, gv.shows, gv.knd (by decide)⟩
        · exact ⟨_, atI_nat (j := 1) rfl, tx _ q1⟩
        · exact ⟨_, atI_nat (j := 2) rfl, tx _ q2⟩
        · exact ⟨_, atI_nat (j := 3) rfl, tx _ q3⟩
        · exact ⟨_, atI_nat (j := 4) rfl, tx _ q4⟩
      obtain ⟨v', pk0', n1, n2, n3, n4⟩ := pick
      refine ⟨_, rfl, L, _, pk, v', rfl, rfl, W4.kn.seq aL, pk0', ?_⟩
      refine ⟨_, rfl, _, rfl, (by show 2 ≤ sizeLine; omega), fun L2 hL2 => ?_⟩
      have W5 := W4.newP (o := .lst [.str z1, .non]) hL2
      have e5 := W4.newG hL2 (o := .lst [.str z1, .non])
      have aL2 : SqL K (upd G4 L2 (.lst [.str z1, .non])) L2 [.str z1, .non] := SqL.of upd_same
      have n1 := n1.same e5
      have n3 := n3.same e5
      have n4 := n4.same e5
      generalize upd G4 L2 _ = G5 at W5 aL2 n1 n3 n4
      generalize upd H4 L2 _ = H5 at W5 ⊢
      refine ⟨_, rfl, b, x3, y, z4, 2, rfl, W5.here, hy, by decide, by decide, fun r2 x4 z5 u0 u1 => ?_⟩
      have W6 := W5.put (o' := .lst [.int x4, .int y, .int z5])
      generalize upd H5 b _ = H6 at W6 ⊢
      have pick2 : ∃ v2, atI [V.str z1, .non] r2 = some v2 := by
        obtain rfl | rfl : r2 = 0 ∨ r2 = 1 := by omega
        · exact ⟨_, rfl⟩
        · exact ⟨_, rfl⟩
      obtain ⟨v2, hv2⟩ := pick2
      refine ⟨L2, _, r2, v2, rfl, rfl, W6.kn.seq aL2, hv2, (by show 2 ≤ sizeLine; omega), fun TT hTT => ?_⟩
      have W7 := W6.newP (o := .tup [v', v2]) hTT
      have e7 := W6.newG hTT (o := .tup [v', v2])
      have aT : SqT K (upd G5 TT (.tup [v', v2])) TT [v', v2] := SqT.of upd_same
      have n1 := n1.same e7
      have n3 := n3.same e7
      have n4 := n4.same e7
      generalize upd G5 TT _ = G7 at W7 aT n1 n3 n4
      generalize upd H6 TT _ = H7 at W7 ⊢
      refine ⟨_, rfl, (by show 3 ≤ sizeLine; omega), fun r hr0 => ?_⟩
      have W8 := W7.newP (o := .lst [.ref TT, .str "part", v']) hr0
      have e8 := W7.newG hr0 (o := .lst [.ref TT, .str "part", v'])
      have aR : SqL K (upd G7 r (.lst [.ref TT, .str "part", v'])) r [.ref TT, .str (kindOf "NoPart"), v'] := by rw [kNP]; exact SqL.of upd_same
      exact q r (.ref TT) "NoPart" v' m _ _ x4 z5 W8.gr W8.here aR (.part (same_t e8 aT) (n1.same e8) n2) (n3.same e8) (n4.same e8) (MC.ok W8 mb wl wok)
    · -- twice
      refine ite2 (fun hc => absurd hc (by decide)) (fun _ => ?_)
      refine ⟨_, rfl, rfl, _, rfl, ?_⟩
      refine ite2 (fun hc => absurd hc (by decide)) (fun _ => ?_)
      refine ⟨_, rfl, rfl, _, rfl, ?_⟩
      refine ite2 (fun _ => ?_) (fun hc => absurd (by decide) hc)
      refine ⟨_, rfl, _, _, rfl, rfl, _, rfl, ?_⟩
      refine ite2 (fun hj0 => ?_) (fun hj0 => ?_)
      · have hj0 := of_decide_eq_true hj0
        refine ⟨_, rfl, _, rfl, _, rfl, b, x3, y, z4, (j : Int), rfl, W3.here, hy, by omega, by omega, fun r3 x4 z5 u0 u1 => ?_⟩
        have W4 := W3.put (o' := .lst [.int x4, .int y, .int z5])
        generalize upd H3 b _ = H4 at W4 ⊢
        have er3 : r3 = (r3.toNat : Int) := by omega
        have hr3 : r3.toNat < xs.length := by omega
        obtain ⟨⟨p2, z6⟩, hp2, ⟨a2, ea2, hT2⟩⟩ := paired_at hS (List.getElem?_eq_getElem hr3)
        obtain ⟨k2, hk2, e2, hz6⟩ := gd.ok _ (List.mem_of_getElem? hp2)
        dsimp only at e2 hz6 hT2
        subst e2
        have at2 : atI xs r3 = some (.ref a2) := (congrArg _ er3).trans (atI_nat (by rw [List.getElem?_eq_getElem hr3, ea2]))
        refine ⟨s, xs, r3, .ref a2, rfl, rfl, W4.kn.seq hs, at2, a2, _, rfl, same_t W4.kn hT2, rfl, _, _, rfl, _, _, rfl, rfl, ?_⟩
        refine ⟨_, rfl, b, x4, y, z5, 3, rfl, W4.here, hy, by decide, by decide, fun r4 x5 z7 u2 u3 => ?_⟩
        have W5 := W4.put (o' := .lst [.int x5, .int y, .int z7])
        generalize upd H4 b _ = H5 at W5 ⊢
        refine ⟨_, _, rfl, rfl, _, rfl, ?_⟩
        refine ite2 (fun _ => ?_) (fun _ => ?_)
        · refine ⟨_, rfl, _, rfl, (by show 2 ≤ sizeLine; omega), fun TT hTT => ?_⟩
          have W6 := W5.newP (o := .tup [.str (partW k2), .str z6]) hTT
          have aT : SqT K (upd G2 TT (.tup [.str (partW k2), .str z6])) TT [.str (partW k2), .str z6] := SqT.of upd_same
          generalize upd G2 TT _ = G6 at W6 aT
          generalize upd H5 TT _ = H6 at W6 ⊢
          refine ⟨_, rfl, (by show 3 ≤ sizeLine; omega), fun r hr0 => ?_⟩
          have W8 := W6.newP (o := .lst [.ref TT, .str "twice", .str (partW k2)]) hr0
          have e8 := W6.newG hr0 (o := .lst [.ref TT, .str "twice", .str (partW k2)])
          have aR : SqL K (upd G6 r (.lst [.ref TT, .str "twice", .str (partW k2)])) r [.ref TT, .str (kindOf "Twice"), .str (partW k2)] := by rw [kTW]; exact SqL.of upd_same
          have hin : partW k2 ∈ (st.take j).map (·.1) := List.mem_map.mpr ⟨(partW k2, z6), by
            have h1 : (st.take j)[r3.toNat]? = some (partW k2, z6) := by rw [List.getElem?_take_of_lt (by omega)]; exact hp2
            exact List.mem_of_getElem? h1, rfl⟩
          exact q r (.ref TT) "Twice" (.str (partW k2)) m _ _ x5 z7 W8.gr W8.here aR (.twice (same_t e8 aT) hk2 hz6 hin) (str_shows (okwB_ok (part_bent ⟨k2, hk2⟩).2.2.2.2)) (.flat (.str _)) (MC.ok W8 mb wl wok)
        · refine ⟨_, rfl, ?_⟩
          obtain ⟨w1, w2, w3, w4, wlen⟩ := way_bent ⟨k2, hk2⟩ z6 hz6
          have sl : (Str.ofString "s").length ≤ 5 := by decide +kernel
          refine ⟨(by show 2 ≤ sizeLine; omega), fun L1 hL1 => ?_⟩
          have X4 := W5.newP (o := .lst [.str "short", .str "late"]) hL1
          have d4 := W5.newG hL1 (o := .lst [.str "short", .str "late"])
          have gv := gv.same d4
          have aS : SqL K (upd G2 L1 (.lst [.str "short", .str "late"])) L1 [.str "short", .str "late"] := SqL.of upd_same
          generalize upd G2 L1 _ = J4 at X4 gv aS
          generalize upd H5 L1 _ = I4 at X4 ⊢
          have pickS : ∃ v1, atI [V.str "short", .str "late"] (if decide (V.str (partW k2) = V.str "letters") = true then (1 : Int) else 0) = some (.str v1) ∧ NoWayT k2 v1 := by
            rw [part_is0 ⟨k2, hk2⟩]
            by_cases h0 : k2 = 0
            · subst h0
              exact ⟨"late", rfl, way_else.1⟩
            · rw [decide_eq_false h0]
              exact ⟨"short", rfl, way_else.2 ⟨k2, hk2⟩ h0⟩
          obtain ⟨v1, hv1, nv1⟩ := pickS
          refine ⟨_, rfl, rfl, .inr ⟨_, rfl, L1, _, _, .str v1, rfl, rfl, X4.kn.seq aS, hv1, ?_⟩⟩
          refine ⟨_, rfl, _, _, rfl, rfl, by omega, _, rfl, ⟨_, rfl⟩, _, rfl, rfl, by omega, _, rfl, _, rfl, _, rfl, _, rfl, by omega, (by show 5 ≤ sizeLine; omega), fun L hL => ?_⟩
          have X5 := X4.newP (o := .lst [v, .str v1, .str (z6 ++ "s"), .str (Txt.upper z6), .str (cutS z6 none (some (-1)))]) hL
          have d5 := X4.newG hL (o := .lst [v, .str v1, .str (z6 ++ "s"), .str (Txt.upper z6), .str (cutS z6 none (some (-1)))])
          have aL : SqL K (upd J4 L (.lst [v, .str v1, .str (z6 ++ "s"), .str (Txt.upper z6), .str (cutS z6 none (some (-1)))])) L [v, .str v1, .str (z6 ++ "s"), .str (Txt.upper z6), .str (cutS z6 none (some (-1)))] := SqL.of upd_same
          have gv := gv.same d5
          generalize upd J4 L _ = J5 at X5 gv aL
          generalize hI5 : upd I4 L _ = I5
          have X5 : Wd [b] G H J5 ((b, .lst [.int x5, .int y, .int z7]) :: MC m ws) I5 := hI5 ▸ X5
          have tx : ∀ u, NoWayT k2 u → Thing K J5 m (.str u) ∧ (∀ w, V.str u = .str w → w ∉ waysOf k2) ∧ Shows K J5 m (.str u) ∧ Knd K J5 m "NoWay" (.str u) := fun u h =>
            ⟨.flat (.str u), fun w e => by cases e; exact h.2, str_shows (okwB_ok h.1), .flat (.str u)⟩
          have pick : ∃ v', atI [v, .str v1, .str (z6 ++ "s"), .str (Txt.upper z6), .str (cutS z6 none (some (-1)))] pk = some v' ∧ Thing K J5 m v' ∧ (∀ w, v' = .str w → w ∉ waysOf k2) ∧ Shows K J5 m v' ∧ Knd K J5 m "NoWay" v' := by
            obtain rfl | rfl | rfl | rfl | rfl : pk = 0 ∨ pk = 1 ∨ pk = 2 ∨ pk = 3 ∨ pk = 4 := by omega
            · exact ⟨_, atI_nat (j := 0) rfl, gv.thing, gv.nw k2 hk2, gv.shows, gv.knd (by decide)⟩
            · exact ⟨_, atI_nat (j := 1) rfl, tx _ nv1⟩
            · exact ⟨_, atI_nat (j := 2) rfl, tx _ w1⟩
            · exact ⟨_, atI_nat (j := 3) rfl, tx _ w2⟩
            · exact ⟨_, atI_nat (j := 4) rfl, tx _ w3⟩
          obtain ⟨v', pk0', n1, n2, n3, n4⟩ := pick
          refine ⟨_, rfl, L, _, pk, v', rfl, rfl, X5.kn.seq aL, pk0', ?_⟩
          refine ⟨_, rfl, _, rfl, (by show 2 ≤ sizeLine; omega), fun TT hTT => ?_⟩
          have X7 := X5.newP (o := .tup [.str (partW k2), v']) hTT
          have d7 := X5.newG hTT (o := .tup [.str (partW k2), v'])
          have aT : SqT K (upd J5 TT (.tup [.str (partW k2), v'])) TT [.str (partW k2), v'] := SqT.of upd_same
          have n1 := n1.same d7
          have n3 := n3.same d7
          have n4 := n4.same d7
          generalize upd J5 TT _ = J7 at X7 aT n1 n3 n4
          generalize upd I5 TT _ = I7 at X7 ⊢
          refine ⟨_, rfl, (by show 3 ≤ sizeLine; omega), fun r hr0 => ?_⟩
          have X8 := X7.newP (o := .lst [.ref TT, .str "way", v']) hr0
          have d8 := X7.newG hr0 (o := .lst [.ref TT, .str "way", v'])
          have aR : SqL K (upd J7 r (.lst [.ref TT, .str "way", v'])) r [.ref TT, .str (kindOf "NoWay"), v'] := by rw [kNW]; exact SqL.of upd_same
          exact q r (.ref TT) "NoWay" v' m _ _ x5 z7 X8.gr X8.here aR (.way (same_t d8 aT) hk2 (n1.same d8) n2) (n3.same d8) (n4.same d8) (MC.ok X8 mb wl wok)
      · refine ⟨_, rfl, ?_⟩
        obtain ⟨w1, w2, w3, w4, wlen⟩ := way_bent ⟨k, hk⟩ z1 hz1
        have sl : (Str.ofString "s").length ≤ 5 := by decide +kernel
        refine ⟨(by show 2 ≤ sizeLine; omega), fun L1 hL1 => ?_⟩
        have X4 := W3.newP (o := .lst [.str "short", .str "late"]) hL1
        have d4 := W3.newG hL1 (o := .lst [.str "short", .str "late"])
        have gv := gv.same d4
        have aS : SqL K (upd G2 L1 (.lst [.str "short", .str "late"])) L1 [.str "short", .str "late"] := SqL.of upd_same
        generalize upd G2 L1 _ = J4 at X4 gv aS
        generalize upd H3 L1 _ = I4 at X4 ⊢
        have pickS : ∃ v1, atI [V.str "short", .str "late"] (if decide (V.str (partW k) = V.str "letters") = true then (1 : Int) else 0) = some (.str v1) ∧ NoWayT k v1 := by
          rw [part_is0 ⟨k, hk⟩]
          by_cases h0 : k = 0
          · subst h0
            exact ⟨"late", rfl, way_else.1⟩
          · rw [decide_eq_false h0]
            exact ⟨"short", rfl, way_else.2 ⟨k, hk⟩ h0⟩
        obtain ⟨v1, hv1, nv1⟩ := pickS
        refine ⟨_, rfl, rfl, .inr ⟨_, rfl, L1, _, _, .str v1, rfl, rfl, X4.kn.seq aS, hv1, ?_⟩⟩
        refine ⟨_, rfl, _, _, rfl, rfl, by omega, _, rfl, ⟨_, rfl⟩, _, rfl, rfl, by omega, _, rfl, _, rfl, _, rfl, _, rfl, by omega, (by show 5 ≤ sizeLine; omega), fun L hL => ?_⟩
        have X5 := X4.newP (o := .lst [v, .str v1, .str (z1 ++ "s"), .str (Txt.upper z1), .str (cutS z1 none (some (-1)))]) hL
        have d5 := X4.newG hL (o := .lst [v, .str v1, .str (z1 ++ "s"), .str (Txt.upper z1), .str (cutS z1 none (some (-1)))])
        have aL : SqL K (upd J4 L (.lst [v, .str v1, .str (z1 ++ "s"), .str (Txt.upper z1), .str (cutS z1 none (some (-1)))])) L [v, .str v1, .str (z1 ++ "s"), .str (Txt.upper z1), .str (cutS z1 none (some (-1)))] := SqL.of upd_same
        have gv := gv.same d5
        generalize upd J4 L _ = J5 at X5 gv aL
        generalize hI5 : upd I4 L _ = I5
        have X5 : Wd [b] G H J5 ((b, .lst [.int x3, .int y, .int z4]) :: MC m ws) I5 := hI5 ▸ X5
        have tx : ∀ u, NoWayT k u → Thing K J5 m (.str u) ∧ (∀ w, V.str u = .str w → w ∉ waysOf k) ∧ Shows K J5 m (.str u) ∧ Knd K J5 m "NoWay" (.str u) := fun u h =>
          ⟨.flat (.str u), fun w e => by cases e; exact h.2, str_shows (okwB_ok h.1), .flat (.str u)⟩
        have pick : ∃ v', atI [v, .str v1, .str (z1 ++ "s"), .str (Txt.upper z1), .str (cutS z1 none (some (-1)))] pk = some v' ∧ Thing K J5 m v' ∧ (∀ w, v' = .str w → w ∉ waysOf k) ∧ Shows K J5 m v' ∧ Knd K J5 m "NoWay" v' := by
          obtain rfl | rfl | rfl | rfl | rfl : pk = 0 ∨ pk = 1 ∨ pk = 2 ∨ pk = 3 ∨ pk = 4 := by omega
          · exact ⟨_, atI_nat (j := 0) rfl, gv.thing, gv.nw k hk, gv.shows, gv.knd (by decide)⟩
          · exact ⟨_, atI_nat (j := 1) rfl, tx _ nv1⟩
          · exact ⟨_, atI_nat (j := 2) rfl, tx _ w1⟩
          · exact ⟨_, atI_nat (j := 3) rfl, tx _ w2⟩
          · exact ⟨_, atI_nat (j := 4) rfl, tx _ w3⟩
        obtain ⟨v', pk0', n1, n2, n3, n4⟩ := pick
        refine ⟨_, rfl, L, _, pk, v', rfl, rfl, X5.kn.seq aL, pk0', ?_⟩
        refine ⟨_, rfl, _, rfl, (by show 2 ≤ sizeLine; omega), fun TT hTT => ?_⟩
        have X7 := X5.newP (o := .tup [.str (partW k), v']) hTT
        have d7 := X5.newG hTT (o := .tup [.str (partW k), v'])
        have aT : SqT K (upd J5 TT (.tup [.str (partW k), v'])) TT [.str (partW k), v'] := SqT.of upd_same
        have n1 := n1.same d7
        have n3 := n3.same d7
        have n4 := n4.same d7
        generalize upd J5 TT _ = J7 at X7 aT n1 n3 n4
        generalize upd I5 TT _ = I7 at X7 ⊢
        refine ⟨_, rfl, (by show 3 ≤ sizeLine; omega), fun r hr0 => ?_⟩
        have X8 := X7.newP (o := .lst [.ref TT, .str "way", v']) hr0
        have d8 := X7.newG hr0 (o := .lst [.ref TT, .str "way", v'])
        have aR : SqL K (upd J7 r (.lst [.ref TT, .str "way", v'])) r [.ref TT, .str (kindOf "NoWay"), v'] := by rw [kNW]; exact SqL.of upd_same
        exact q r (.ref TT) "NoWay" v' m _ _ x3 z4 X8.gr X8.here aR (.way (same_t d8 aT) hk (n1.same d8) n2) (n3.same d8) (n4.same d8) (MC.ok X8 mb wl wok)
    · -- no way
      refine ite2 (fun hc => absurd hc (by decide)) (fun _ => ?_)
      refine ⟨_, rfl, rfl, _, rfl, ?_⟩
      refine ite2 (fun hc => absurd hc (by decide)) (fun _ => ?_)
      refine ⟨_, rfl, rfl, _, rfl, ?_⟩
      refine ite2 (fun hc => absurd hc (by decide)) (fun _ => ?_)
      refine ⟨_, rfl, ?_⟩
      obtain ⟨w1, w2, w3, w4, wlen⟩ := way_bent ⟨k, hk⟩ z1 hz1
      have sl : (Str.ofString "s").length ≤ 5 := by decide +kernel
      refine ⟨(by show 2 ≤ sizeLine; omega), fun L1 hL1 => ?_⟩
      have X4 := W3.newP (o := .lst [.str "short", .str "late"]) hL1
      have d4 := W3.newG hL1 (o := .lst [.str "short", .str "late"])
      have gv := gv.same d4
      have aS : SqL K (upd G2 L1 (.lst [.str "short", .str "late"])) L1 [.str "short", .str "late"] := SqL.of upd_same
      generalize upd G2 L1 _ = J4 at X4 gv aS
      generalize upd H3 L1 _ = I4 at X4 ⊢
      have pickS : ∃ v1, atI [V.str "short", .str "late"] (if decide (V.str (partW k) = V.str "letters") = true then (1 : Int) else 0) = some (.str v1) ∧ NoWayT k v1 := by
        rw [part_is0 ⟨k, hk⟩]
        by_cases h0 : k = 0
        · subst h0
          exact ⟨"late", rfl, way_else.1⟩
        · rw [decide_eq_false h0]
          exact ⟨"short", rfl, way_else.2 ⟨k, hk⟩ h0⟩
      obtain ⟨v1, hv1, nv1⟩ := pickS
      refine ⟨_, rfl, rfl, .inr ⟨_, rfl, L1, _, _, .str v1, rfl, rfl, X4.kn.seq aS, hv1, ?_⟩⟩
      refine ⟨_, rfl, _, _, rfl, rfl, by omega, _, rfl, ⟨_, rfl⟩, _, rfl, rfl, by omega, _, rfl, _, rfl, _, rfl, _, rfl, by omega, (by show 5 ≤ sizeLine; omega), fun L hL => ?_⟩
      have X5 := X4.newP (o := .lst [v, .str v1, .str (z1 ++ "s"), .str (Txt.upper z1), .str (cutS z1 none (some (-1)))]) hL
      have d5 := X4.newG hL (o := .lst [v, .str v1, .str (z1 ++ "s"), .str (Txt.upper z1), .str (cutS z1 none (some (-1)))])
      have aL : SqL K (upd J4 L (.lst [v, .str v1, .str (z1 ++ "s"), .str (Txt.upper z1), .str (cutS z1 none (some (-1)))])) L [v, .str v1, .str (z1 ++ "s"), .str (Txt.upper z1), .str (cutS z1 none (some (-1)))] := SqL.of upd_same
      have gv := gv.same d5
      generalize upd J4 L _ = J5 at X5 gv aL
      generalize hI5 : upd I4 L _ = I5
      have X5 : Wd [b] G H J5 ((b, .lst [.int x3, .int y, .int z4]) :: MC m ws) I5 := hI5 ▸ X5
      have tx : ∀ u, NoWayT k u → Thing K J5 m (.str u) ∧ (∀ w, V.str u = .str w → w ∉ waysOf k) ∧ Shows K J5 m (.str u) ∧ Knd K J5 m "NoWay" (.str u) := fun u h =>
        ⟨.flat (.str u), fun w e => by cases e; exact h.2, str_shows (okwB_ok h.1), .flat (.str u)⟩
      have pick : ∃ v', atI [v, .str v1, .str (z1 ++ "s"), .str (Txt.upper z1), .str (cutS z1 none (some (-1)))] pk = some v' ∧ Thing K J5 m v' ∧ (∀ w, v' = .str w → w ∉ waysOf k) ∧ Shows K J5 m v' ∧ Knd K J5 m "NoWay" v' := by
        obtain rfl | rfl | rfl | rfl | rfl : pk = 0 ∨ pk = 1 ∨ pk = 2 ∨ pk = 3 ∨ pk = 4 := by omega
        · exact ⟨_, atI_nat (j := 0) rfl, gv.thing, gv.nw k hk, gv.shows, gv.knd (by decide)⟩
        · exact ⟨_, atI_nat (j := 1) rfl, tx _ nv1⟩
        · exact ⟨_, atI_nat (j := 2) rfl, tx _ w1⟩
        · exact ⟨_, atI_nat (j := 3) rfl, tx _ w2⟩
        · exact ⟨_, atI_nat (j := 4) rfl, tx _ w3⟩
      obtain ⟨v', pk0', n1, n2, n3, n4⟩ := pick
      refine ⟨_, rfl, L, _, pk, v', rfl, rfl, X5.kn.seq aL, pk0', ?_⟩
      refine ⟨_, rfl, _, rfl, (by show 2 ≤ sizeLine; omega), fun TT hTT => ?_⟩
      have X7 := X5.newP (o := .tup [.str (partW k), v']) hTT
      have d7 := X5.newG hTT (o := .tup [.str (partW k), v'])
      have aT : SqT K (upd J5 TT (.tup [.str (partW k), v'])) TT [.str (partW k), v'] := SqT.of upd_same
      have n1 := n1.same d7
      have n3 := n3.same d7
      have n4 := n4.same d7
      generalize upd J5 TT _ = J7 at X7 aT n1 n3 n4
      generalize upd I5 TT _ = I7 at X7 ⊢
      refine ⟨_, rfl, (by show 3 ≤ sizeLine; omega), fun r hr0 => ?_⟩
      have X8 := X7.newP (o := .lst [.ref TT, .str "way", v']) hr0
      have d8 := X7.newG hr0 (o := .lst [.ref TT, .str "way", v'])
      have aR : SqL K (upd J7 r (.lst [.ref TT, .str "way", v'])) r [.ref TT, .str (kindOf "NoWay"), v'] := by rw [kNW]; exact SqL.of upd_same
      exact q r (.ref TT) "NoWay" v' m _ _ x3 z4 X8.gr X8.here aR (.way (same_t d8 aT) hk (n1.same d8) n2) (n3.same d8) (n4.same d8) (MC.ok X8 mb wl wok)
end
end K51
set_option Elab.async false
set_option linter.all false
set_option maxRecDepth 100000
set_option maxHeartbeats 1000000
set_option pp.maxSteps 600
namespace K51
open PySem PySem.Spec PyProof.Rows L2 Sv
theorem way_no_part : ∀ k : _root_.Fin 6, ∀ z ∈ waysOf k, ∀ i : _root_.Fin 6, z ≠ partW i := by decide +kernel
theorem Good.take {st : List (Str × Str)} (g : Good st) (j : Nat) : Good (st.take j) := ⟨fun p hp => g.ok p (List.mem_of_mem_take hp), by rw [List.map_take]; exact g.nd.sublist (List.take_sublist ..)⟩
section
variable {bs : List Addr} {G0 H0 G H H' : Hp} {m : Option Addr} {ws : List Str} {b : Addr} {o : HO}
/-- behind a call that may write the thing's list -/
theorem Wd.refuse (W : Wd bs G0 H0 G ((b, o) :: MC m ws) H) (g : Grow m.toList G H G H') : Wd bs G0 H0 G [(b, o)] H' := by
  cases m with
  | none => exact W.call g
  | some a => exact W.swap.call1x g
theorem Wd.mws (W : Wd bs G0 H0 G ((b, o) :: MC m ws) H) {n : Nat} (hl : ws.length ≤ n) (ok : ∀ x ∈ ws, okW x) : Ws H m n ∧ ∀ a, m = some a → G a = none := by
  refine ⟨fun a ha => ?_, fun a ha => ?_⟩
  · subst ha
    exact ⟨ws, W.at_ (a, _) (List.mem_cons_of_mem _ (List.mem_cons_self ..)), hl, ok⟩
  · subst ha
    exact W.no (a, .lst (ws.map V.str)) (List.mem_cons_of_mem _ (List.mem_cons_self ..))
theorem Wd.head1 {M : List (Addr × HO)} (W : Wd bs G0 H0 G ((b, o) :: M) H) : Wd bs G0 H0 G [(b, o)] H := W.some (fun q hq => by
  obtain rfl : q = _ := by simpa using hq
  exact List.mem_cons_self ..) (by simp)
theorem Wd.head2 {M : List (Addr × HO)} {c : Addr} {u : HO} (W : Wd bs G0 H0 G ((b, o) :: (c, u) :: M) H) : Wd bs G0 H0 G [(b, o), (c, u)] H := W.some (fun q hq => by
  simp only [List.mem_cons, List.not_mem_nil, or_false] at hq
  rcases hq with rfl | rfl
  · exact List.mem_cons_self ..
  · exact List.mem_cons_of_mem _ (List.mem_cons_self ..)) (by
  have nd := W.nd
  simp only [List.map_cons, List.nodup_cons, List.mem_cons, not_or, List.map_nil, List.not_mem_nil, not_false_eq_true, List.nodup_nil, and_true] at nd ⊢
  exact nd.1.1)
/-- the thing's list comes into sight -/
theorem Wd.mok {M : List (Addr × HO)} {Hp0 : Hp} (W : Wd bs G0 H0 G M H) (h : MOk G Hp0 H m) (hM : ∀ q ∈ M, Hp0 q.1 ≠ none) (h0 : ∀ a, Hp0 a = none → H0 a = none) : ∃ ws : List Str, Wd bs G0 H0 G (MC m ws ++ M) H ∧ ws.length ≤ 2 ∧ ∀ x ∈ ws, okW x := by
  cases m with
  | none => exact ⟨[], W, by decide, by simp⟩
  | some a =>
    obtain ⟨ws, h1, h2, h3, h4, h5⟩ := h a rfl
    exact ⟨ws, W.got h1 h4 (h0 a h5) (fun q hq e => hM q hq (e ▸ h5)), h2, h3⟩
end
/-- what the row is, i of its places spoilt: the last one at j -/
structure RowAt (K : PySem.W.Frag) (G : Hp) (m : Option Addr) (xs rx : List V) (st : List (Str × Str)) (j : Nat) (due : Addr) : Prop where
  hj : j < st.length
  bad : ∃ v C u, rx[j]? = some v ∧ Bad K G m (st.take j) v C u ∧ Shows K G m u ∧ Knd K G m C u ∧ SqL K G due [.str (kindOf C), u]
theorem RowAt.same {K : PySem.W.Frag} {G G' : Hp} {m : Option Addr} {xs rx : List V} {st : List (Str × Str)} {j : Nat} {due : Addr} (e : Same G G') (h : RowAt K G m xs rx st j due) : RowAt K G' m xs rx st j due := by
  obtain ⟨h1, v, C, u, h2, h3, h4, h5, h6⟩ := h
  exact ⟨h1, v, C, u, h2, h3.same e, h4.same e, h5.same e, e.seq h6⟩
theorem RowAt.whole {K : PySem.W.Frag} {G : Hp} {m : Option Addr} {xs rx : List V} {st : List (Str × Str)} {j : Nat} {due a : Addr} (h : RowAt K G m xs rx st j due) (hS : AreSteps K G xs st) (gd : Good st) (l6 : st.length ≤ 6) (hl : rx.length = xs.length) (ht : rx.take j = xs.take j)
    (ha : SqL K G a rx ∨ SqT K G a rx) : ∃ C u, Whole K G m (.ref a) C u ∧ Shows K G m u ∧ Knd K G m C u ∧ SqL K G due [.str (kindOf C), u] := by
  obtain ⟨h1, v, C, u, h2, h3, h4, h5, h6⟩ := h
  have hlx : xs.length = st.length := Paired.length hS
  obtain ⟨hi, hv⟩ := List.getElem?_eq_some_iff.mp h2
  have e : rx = xs.take j ++ v :: rx.drop (j + 1) := by
    rw [← ht, ← hv]
    have := (List.take_append_drop j rx).symm
    rw [List.drop_eq_getElem_cons hi] at this
    exact this
  rw [e] at ha
  have hl2 : (xs.take j ++ v :: rx.drop (j + 1)).length ≤ 6 := by rw [← e]; omega
  exact ⟨C, u, .row ha hl2 (paired_take j hS) (gd.take j) h3, h4, h5, h6⟩
section
variable {P : Program} {w : World} {K : PySem.W.Frag} {mg : Str → Option Value} {base : Heap}
theorem ok_law_second (t : T K mg) : OkG P w K mg base 9 (He.ga K "_law_second") "_law_second" ["script"] (spLaw K) := by
  obtain ⟨fd, F⟩ := t.d_law_second
  have O_law_take_two := ok_law_take_two (P := P) (w := w) (base := base) t
  have O_law_cell_two := ok_law_cell_two (P := P) (w := w) (base := base) t
  have O_law_box := ok_law_box (P := P) (w := w) (base := base) t
  have O_law_steps_two := ok_law_steps_two (P := P) (w := w) (base := base) t
  have O_law_spoilt := ok_law_spoilt (P := P) (w := w) (base := base) t
  have O_law_refused := ok_law_refused (P := P) (w := w) (base := base) t
  have O_law_whole := ok_law_whole (P := P) (w := w) (base := base) t
  have O_law_thing := ok_law_thing (P := P) (w := w) (base := base) t
  have O_law_no_part := ok_law_no_part (P := P) (w := w) (base := base) t
  obtain ⟨fI, FI, bI⟩ := ok_init (P := P) (w := w) (base := base) t
  obtain ⟨fS, FS, bS⟩ := ok_steps (P := P) (w := w) (base := base) t
  refine OkG.mk0 F t.g_law_second sc_law_second (F.binds fun _ _ _ _ _ _ us hl => match us, hl with | [_], _ => rfl) (fun vs H Q E h => ?_) (fun cdv A outer s H vs Q E hG hr h => ?_)
  · obtain ⟨G, a, ns, rfl, _⟩ := h
    rfl
  · obtain ⟨G, a, ns, rfl, hSm, ha, q⟩ := h
    refine ⟨_, (pss_cons (ps_for PassesOwn.never rfl (pi_range1 rfl t.z_range (pa_cons (pe_callB (call_max2 rfl) (by rfl) t.z_max boot_max (pa_cons pe_int (pa_cons (pe_callB (call_min2 rfl) (by rfl) t.z_min boot_min (pa_cons pe_int (pa_cons (pe_callB call_len_seq (by rfl) t.z_len boot_len (pa_cons (pv 0) pa_nil)) pa_nil))) pa_nil))) pa_nil)) (pg_name (i := 1) sc_law_second.nd rfl (Or.inl rfl))
        (pss_cons (ps_set (i := 2) sc_law_second.nd rfl (Or.inl rfl) (pe_callN O_law_box (hr.mono (by decide)) pass0 (pa_cons (pe_callN O_law_cell_two (hr.mono (by decide)) pass0 (pa_cons (pv 0) (pa_cons (pv 1) pa_nil))) pa_nil)))
        (pss_cons (ps_set (i := 3) sc_law_second.nd rfl (Or.inl rfl) (pe_callN O_law_steps_two (hr.mono (by decide)) pass0 (pa_cons (pv 2) pa_nil)))
        (pss_cons (ps_set (i := 4) sc_law_second.nd rfl (Or.inl rfl) (pe_callTy call_list_of (by rfl) t.z_list (by decide +kernel) (pa_cons (pv 3) pa_nil)))
        (pss_cons (ps_set (i := 5) sc_law_second.nd rfl (Or.inl rfl) (pe_callB cr_sorted (by rfl) t.z_sorted (by decide +kernel) (pa_cons (pe_lst (pa_cons (pe_callN O_law_take_two (hr.mono (by decide)) pass0 (pa_cons (pv 2) (pa_cons (pe_callB call_len_seq (by rfl) t.z_len boot_len (pa_cons (pv 4) pa_nil)) pa_nil))) (pa_cons (pe_callN O_law_take_two (hr.mono (by decide)) pass0 (pa_cons (pv 2) (pa_cons (pe_callB call_len_seq (by rfl) t.z_len boot_len (pa_cons (pv 4) pa_nil)) pa_nil))) pa_nil))) pa_nil)))
        (pss_cons (ps_set (i := 6) sc_law_second.nd rfl (Or.inl rfl) (pe_lst (pa_cons pe_str (pa_cons pe_non pa_nil))))
        (pss_cons (ps_for PassesOwn.never rfl (pi_list (pe_slice sl_list (pe_revL (pv 5)) (po_some (pe_callN O_law_take_two (hr.mono (by decide)) pass0 (pa_cons (pv 2) (pa_cons pe_int pa_nil)))) po_none)) (pg_name (i := 7) sc_law_second.nd rfl (Or.inl rfl))
          (pss_cons (ps_set (i := 8) sc_law_second.nd rfl (Or.inl rfl) (pe_callN O_law_spoilt (hr.mono (by decide)) pass0 (pa_cons (pv 2) (pa_cons (pv 3) (pa_cons (pv 7) pa_nil)))))
          (pss_cons (ps_asg (pe_ix ix_list (pv 8) pe_int (fun _ _ => rfl)) (pg_sub (pv 4) (pv 7) set_list))
          (pss_one (ps_set (i := 6) sc_law_second.nd rfl (Or.inl rfl) (pe_slice sl_list (pv 8) (po_some pe_int) po_none))))))
        (pss_cons (ps_if (pt_not (pt_val (pe_gcallN O_law_refused hG (hr.mono (by decide)) pass0 (pa_cons (pe_ix ix_list (pe_lst (pa_cons (pv 4) (pa_cons (pe_callTy call_tuple_of (by rfl) t.z_tuple (by decide +kernel) (pa_cons (pv 4) pa_nil)) pa_nil))) (pe_callN O_law_take_two (hr.mono (by decide)) pass0 (pa_cons (pv 2) (pa_cons pe_int pa_nil))) (fun _ _ => rfl)) (pa_cons (pe_ix ix_list (pv 6) pe_int (fun _ _ => rfl)) (pa_cons (pe_ix ix_list (pv 6) pe_int (fun _ _ => rfl)) pa_nil))))))
          (pss_one (ps_ret pe_bl))
          pss_nil)
        (pss_cons (ps_set (i := 9) sc_law_second.nd rfl (Or.inl rfl) (pe_callN O_law_whole (hr.mono (by decide)) pass0 (pa_cons (pv 2) (pa_cons (pv 3) pa_nil))))
        (pss_cons (ps_if (PW.pt (pw_or (pt_not (pt_val (pe_gcallN O_law_refused hG (hr.mono (by decide)) pass0 (pa_cons (pv 9) (pa_cons pe_str (pa_cons (pv 9) pa_nil)))))) (pw_or1 (pt_not (pt_val (pe_gcallN O_law_no_part hG (hr.mono (by decide)) pass0 (pa_cons (pe_callN O_law_thing (hr.mono (by decide)) pass0 (pa_cons (pv 2) pa_nil)) pa_nil)))))))
          (pss_one (ps_ret pe_bl))
          pss_nil)
        (pss_one (ps_if (PW.pt (pw_or (pt_cmpR (op_neD hr.units) (pe_meth0 (pe_make t.mkr FI (hr.mono (by decide)) (by rfl) t.g_Rule bI .nil passL (pa_cons (pv 3) pa_nil)) t.cls t.meth_steps FS (hr.mono (by decide)) bS .nil pass0) (pv 3) (nomark _)) (pw_or1 (pt_not (pt_val (pe_gcallN O_law_no_part hG (hr.mono (by decide)) pass0 (pa_cons (pe_ix ix_tup (pe_ix ix_list (pv 3) pe_int (fun _ _ => rfl)) pe_int (fun _ _ => rfl)) pa_nil)))))))
          (pss_one (ps_ret pe_bl))
          pss_nil))))))))))))
      (pss_one (ps_ret pe_bl))), ?_⟩
    have hz : (100 : Nat) ≤ sizeLine := by rw [sizeLine_eq]; decide
    refine ⟨_, rfl, a, _, rfl, .inl (hSm.seq ha), 12, _, rfl, 2, _, rfl, _, rfl, ?_, ?_, for_range (lo := 0) (fun i σ H' => (∃ c1 c2 c3 c4 c5 c6 c7 c8 c9, σ = [some (.ref a), c1, c2, c3, c4, c5, c6, c7, c8, c9]) ∧ ∃ G', Wd [] G H G' [] H') ⟨⟨none, none, none, none, none, none, none, none, none, rfl⟩, G, Wd.start0 hSm⟩ ?_ ?_⟩
    · split <;> split <;> omega
    · split <;> split <;> omega
    · rintro i σ H2 hi ⟨⟨c1, c2, c3, c4, c5, c6, c7, c8, c9, rfl⟩, G1, V0⟩
      -- the box
      refine ⟨_, rfl, _, rfl, a, ns, i, by simp, (V0.gr.g.trans V0.kn).seq ha, fun c => ⟨c, rfl, fun b x y z hb y0 y1 => ?_⟩⟩
      have V1 := V0.newM (o := bx x y z) hb
      have b0 := V0.fresh hb
      generalize hH3 : upd H2 b (.lst [.int x, .int y, .int z]) = H3
      have V1 : Wd [] G H G1 [(b, bx x y z)] H3 := hH3 ▸ V1
      -- the good steps
      refine ⟨_, rfl, b, x, y, z, G1, rfl, V1.kn, b0, V1.here, ⟨y0, y1⟩, fun p1 xs st G2 H4 x2 z2 gd l1 l6 hS g1 hb1 k1 k2 k3 => ?_⟩
      have bp1 : b ≠ p1 := fun e => by rw [← e, V1.here] at k1; cases k1
      have V2 := (V1.call1 g1 hb1).got k3 k2 (V1.fresh0 k1) (by simpa using bp1)
      have V3 := V2.fix (by simp)
      have hS := hS.mono V2.fixG
      have a1 : (upd G2 p1 (.lst xs)) p1 = some (.lst xs) := upd_same
      generalize upd G2 p1 (.lst xs) = G3 at V3 hS a1
      clear V2 g1 hb1 k1 k2 k3 bp1 V1 b0 hb hH3
      have hlx : xs.length = st.length := Paired.length hS
      -- the row
      refine ⟨_, rfl, p1, xs, rfl, .inl (SqL.of (V3.kn _ _ a1)), fun row hrow => ?_⟩
      have V4 := (V3.newM (o := .lst xs) hrow).swap
      generalize upd H4 row _ = H5 at V4 ⊢
      -- the places
      refine ⟨_, rfl, _, rfl, row, xs, rfl, .inl (SqL.of V4.here2), b, x2, y, z2, _, rfl, V4.here, ⟨y0, y1⟩, by omega, by omega, fun r1 x3 z3 u0 u1 => ?_⟩
      have V5 := V4.put (o' := .lst [.int x3, .int y, .int z3])
      generalize upd H5 b _ = H6 at V5 ⊢
      refine ⟨_, rfl, _, rfl, row, xs, rfl, .inl (SqL.of V5.here2), b, x3, y, z3, _, rfl, V5.here, ⟨y0, y1⟩, by omega, by omega, fun r2 x4 z4 u2 u3 => ?_⟩
      have V6 := V5.put (o' := .lst [.int x4, .int y, .int z4])
      generalize upd H6 b _ = H7 at V6 ⊢
      refine ⟨(by show 2 ≤ sizeLine; omega), fun pa hpa => ?_⟩
      have V7 := V6.junk (o := .lst ([r1, r2].map V.int)) hpa
      have sA : SqL K (upd H7 pa (.lst ([r1, r2].map V.int))) pa ([r1, r2].map V.int) := SqL.of upd_same
      generalize hH8 : upd H7 pa (.lst [.int r1, .int r2]) = H8
      have V7 : Wd [] G H G3 [(b, .lst [.int x4, .int y, .int z4]), (row, .lst xs)] H8 := hH8 ▸ V7
      have sA : SqL K H8 pa ([r1, r2].map V.int) := hH8 ▸ sA
      refine ⟨pa, [r1, r2], rfl, sA, by simp, fun ns' ats pm so hats => ?_⟩
      have V8 := V7.newP (o := .lst (ns'.map V.int)) hats
      have e8 := V7.newG hats (o := .lst (ns'.map V.int))
      have hS := hS.mono e8
      have a1 := e8 _ _ a1
      have sB : SqL K (upd G3 ats (.lst (ns'.map V.int))) ats (ns'.map V.int) := SqL.of upd_same
      generalize upd G3 ats _ = G8 at V8 hS a1 sB
      generalize upd H8 ats _ = H9 at V8 ⊢
      clear V4 V5 V6 V7 V3 e8 hH8
      -- due
      refine ⟨(by show 2 ≤ sizeLine; omega), fun du hdu => ?_⟩
      have V9 := V8.junk (o := .lst [.str "step", .non]) hdu
      generalize upd H9 du _ = H10 at V9 ⊢
      -- ats[::-1][..:]
      refine ⟨_, rfl, ats, _, rfl, V9.kn.seq sB, fun pr hpr => ?_⟩
      have V10 := V9.newP (o := .lst (ns'.map V.int).reverse) hpr
      have e10 := V9.newG hpr (o := .lst (ns'.map V.int).reverse)
      have hS := hS.mono e10
      have a1 := e10 _ _ a1
      have sC : SqL K (upd G8 pr (.lst (ns'.map V.int).reverse)) pr (ns'.map V.int).reverse := SqL.of upd_same
      generalize upd G8 pr _ = G10 at V10 hS a1 sC
      generalize upd H10 pr _ = H11 at V10 ⊢
      refine ⟨_, rfl, b, x4, y, z4, 2, rfl, V10.here, ⟨y0, y1⟩, by decide, by decide, fun tt x5 z5 u4 u5 => ?_⟩
      have V11 := V10.put (o' := .lst [.int x5, .int y, .int z5])
      generalize upd H11 b _ = H12 at V11 ⊢
      have ett : tt = (tt.toNat : Int) := by omega
      refine ⟨_, rfl, pr, _, rfl, V11.kn.seq sC, fun ts hts => ?_⟩
      have V12 := V11.newP (o := .lst (cutV (ns'.map V.int).reverse (some tt) none)) hts
      have e12 := V11.newG hts (o := .lst (cutV (ns'.map V.int).reverse (some tt) none))
      have hS := hS.mono e12
      have a1 := e12 _ _ a1
      have sD : SqL K (upd G10 ts (.lst (cutV (ns'.map V.int).reverse (some tt) none))) ts (cutV (ns'.map V.int).reverse (some tt) none) := SqL.of upd_same
      generalize upd G10 ts _ = G12 at V12 hS a1 sD
      generalize upd H12 ts _ = H13 at V12 ⊢
      clear V8 V9 V10 V11 e10 e12 sC sB
      -- they are places of the row, one or two, from the right
      have places : ∃ js : List Nat, cutV (ns'.map V.int).reverse (some tt) none = js.map (fun n => V.int (n : Nat)) ∧ 0 < js.length ∧ (∀ n ∈ js, n < xs.length) ∧ ∀ (l : Nat) (p q : Nat), js[l]? = some p → js[l + 1]? = some q → q ≤ p := by
        have hl2 : ns'.length = 2 := pm.length_eq
        have hm : ∀ n ∈ ns', 0 ≤ n ∧ n < (xs.length : Int) := fun n hn => by
          have : n ∈ [r1, r2] := pm.mem_iff.mp hn
          simp only [List.mem_cons, List.not_mem_nil, or_false] at this
          rcases this with rfl | rfl
          · exact ⟨u0, u1⟩
          · exact ⟨u2, u3⟩
        match ns', hl2, hm, so with
        | [p, q], _, hm, so =>
          have h1 := hm p (by simp)
          have h2 := hm q (by simp)
          have h3 : p ≤ q := by
            have := List.pairwise_cons.mp so
            exact this.1 q (by simp)
          have ep : V.int p = V.int (p.toNat : Nat) := by congr 1; omega
          have eq' : V.int q = V.int (q.toNat : Nat) := by congr 1; omega
          obtain h | h : tt.toNat = 0 ∨ tt.toNat = 1 := by omega
          · refine ⟨[q.toNat, p.toNat], ?_, by simp, fun n hn => ?_, fun l a b h1 h2 => ?_⟩
            · rw [ett, cut_drop, h]
              show [V.int q, V.int p] = [V.int (q.toNat : Nat), V.int (p.toNat : Nat)]
              rw [← ep, ← eq']
            · simp only [List.mem_cons, List.not_mem_nil, or_false] at hn
              rcases hn with rfl | rfl <;> omega
            · match l, h1, h2 with
              | 0, h1, h2 =>
                cases h1
                cases h2
                omega
              | l + 1, h1, h2 => simp at h2
          · refine ⟨[p.toNat], ?_, by simp, fun n hn => ?_, fun l a b h1 h2 => ?_⟩
            · rw [ett, cut_drop, h]
              show [V.int p] = [V.int (p.toNat : Nat)]
              rw [← ep]
            · simp only [List.mem_cons, List.not_mem_nil, or_false] at hn
              subst hn
              omega
            · simp at h2
      obtain ⟨js, ejs, j0, jm, jd⟩ := places
      rw [ejs] at sD
      -- the places are spoilt
      refine ⟨ts, rfl, ⟨_, V12.kn.seq sD⟩, for_n (n := js.length) (fun l σ H' => ∃ (c7 c8 c9 : Option V) (G' : Hp) (x' z' : Int) (rx : List V) (m : Option Addr) (ws : List Str) (j : Nat) (due : Addr), σ = [some (.ref a), some (.int (0 + (i : Int))), some (.ref b), some (.ref p1), some (.ref row), some (.ref ats), some (.ref due), c7, c8, c9] ∧
        Wd [] G H G' ((b, .lst [.int x', .int y, .int z']) :: (row, .lst rx) :: MC m ws) H' ∧ Same G12 G' ∧ rx.length = xs.length ∧ rx.take j = xs.take j ∧ (∀ q, js[l]? = some q → q ≤ j) ∧ ws.length ≤ 2 ∧ (∀ x ∈ ws, okW x) ∧ (0 < l → RowAt K G' m xs rx st j due)) ?_ ?_ ?_ ?_ ?_⟩
      · exact ⟨_, _, _, G12, x5, z5, xs, none, [], xs.length, du, rfl, V12, Same.refl _, rfl, rfl, fun q hq => Nat.le_of_lt (jm q (List.mem_of_getElem? hq)), by decide, by simp, fun h => absurd h (by omega)⟩
      · rintro l σ H' hl ⟨c7, c8, c9, G', x', z', rx, m, ws, j, due, rfl, W, e, _⟩
        exact ⟨_, _, (e.trans W.kn).seq sD, List.getElem?_eq_getElem (by rw [List.length_map]; exact hl)⟩
      · rintro σ H' ⟨c7, c8, c9, G', x', z', rx, m, ws, j, due, rfl, W, e, _⟩
        exact ⟨_, (e.trans W.kn).seq sD, by rw [List.length_map]; exact Nat.le_refl _⟩
      · rintro l xv σ H14 H15 hl ⟨c7, c8, c9, G', x', z', rx, m, ws, j, due, rfl, W, e, hrx, htk, hq, wl, wok, hR⟩ ⟨rfl, hx⟩
        have hx := hx _ ((e.trans W.kn).seq sD)
        rw [List.getElem?_map, List.getElem?_eq_getElem hl] at hx
        cases hx
        generalize hjl : js[l] = jl at hx ⊢
        have hjl' : js[l]? = some jl := by rw [List.getElem?_eq_getElem hl, hjl]
        have jlt : jl < xs.length := jm jl (List.mem_of_getElem? hjl')
        have jle : jl ≤ j := hq jl hjl'
        have W0 := Wd.head2 W
        have a1 := e _ _ a1
        have hS := hS.mono e
        refine ⟨_, rfl, _, rfl, _, rfl, b, p1, x', y, z', G', xs, st, jl, rfl, W0.kn, W0.no _ (List.mem_cons_self ..), W0.here, ⟨y0, y1⟩, SqL.of a1, hS, gd, by omega, l6, fun r v C u m2 G2 H16 x6 z6 g2 hb2 hr2 bad2 sh2 kn2 mo2 => ?_⟩
        have W1 := W0.call1 g2 hb2
        obtain ⟨ws2, W2, wl2, wok2⟩ := Wd.mok W1 mo2 (fun q hq => by
          simp only [List.mem_cons, List.not_mem_nil, or_false] at hq
          rcases hq with rfl | rfl
          · rw [W0.here]
            exact fun z => nomatch z
          · rw [W0.here2]
            exact fun z => nomatch z) (fun c hc => W0.fresh0 hc)
        have W3 : Wd [] G H G2 ((b, .lst [.int x6, .int y, .int z6]) :: (row, .lst rx) :: MC m2 ws2) H16 := W2.perm (N := [(b, .lst [.int x6, .int y, .int z6]), (row, .lst rx)] ++ MC m2 ws2) List.perm_append_comm
        clear W W0 W1 W2 hR
        refine ⟨_, rfl, r, _, 0, v, rfl, rfl, W3.kn.seq hr2, atI_nat (j := 0) rfl, _, rfl, _, rfl, row, rx, (jl : Int), jl, rfl, rfl, W3.here2, ixN_nat (by omega), ?_⟩
        have W4 := (W3.swap.put (o' := .lst (rx.set jl v))).swap
        generalize upd H16 row _ = H17 at W4 ⊢
        refine ⟨_, rfl, _, rfl, r, _, rfl, W4.kn.seq hr2, fun p hp => ?_⟩
        have W5 := W4.newP (o := .lst (cutV [v, .str (kindOf C), u] (some 1) none)) hp
        have e5 := W4.newG hp (o := .lst (cutV [v, .str (kindOf C), u] (some 1) none))
        have aD : SqL K (upd G2 p (.lst (cutV [v, .str (kindOf C), u] (some 1) none))) p [.str (kindOf C), u] := SqL.of (upd_same.trans (congrArg (fun l => some (HO.lst l)) (cut_drop [v, .str (kindOf C), u] 1)))
        refine ⟨_, _, _, _, x6, z6, rx.set jl v, m2, ws2, jl, p, rfl, W5, (e.trans g2.g).trans e5, by rw [List.length_set]; exact hrx, ?_, fun q hq1 => jd l jl q hjl' hq1, wl2, wok2, fun _ => ⟨by omega, v, C, u, List.getElem?_set_self (by omega), bad2.same e5, sh2.same e5, kn2.same e5, aD⟩⟩
        have h1 : (rx.set jl v).take jl = rx.take jl := by
          apply List.ext_getElem?
          intro n
          by_cases hn : n < jl
          · rw [List.getElem?_take_of_lt hn, List.getElem?_take_of_lt hn, List.getElem?_set_ne (by omega)]
          · rw [List.getElem?_eq_none (by rw [List.length_take]; omega), List.getElem?_eq_none (by rw [List.length_take]; omega)]
        rw [h1]
        have h2 : (rx.take j).take jl = (xs.take j).take jl := by rw [htk]
        rwa [List.take_take, List.take_take, Nat.min_eq_left jle] at h2
      · rintro σ H14 ⟨c7, c8, c9, G', x', z', rx, m, ws, j, due, rfl, W, e, hrx, htk, hq, wl, wok, hR⟩
        have hR := hR j0
        have W1 := W.swap.fix (by simp)
        have e1 := W.swap.fixG
        have a1 := (e.trans e1) _ _ a1
        have hS := hS.mono (e.trans e1)
        have hR := hR.same e1
        have aR : SqL K (upd G' row (.lst rx)) row rx := SqL.of upd_same
        generalize upd G' row (.lst rx) = G20 at W1 a1 hS hR aR
        clear W e e1 sD V12
        -- refused
        refine ⟨_, rfl, _, rfl, row, rx, rfl, .inl ⟨W1.kn.seq aR, fun tq htq => ?_⟩⟩
        have W2 := W1.newP (o := .tup rx) htq
        have e2 := W1.newG htq (o := .tup rx)
        have a1 := e2 _ _ a1
        have hS := hS.mono e2
        have hR := hR.same e2
        have aR := e2.seq aR
        have aQ : SqT K (upd G20 tq (.tup rx)) tq rx := SqT.of upd_same
        generalize upd G20 tq (.tup rx) = G21 at W2 a1 hS hR aR aQ
        generalize upd H14 tq (.tup rx) = H21 at W2 ⊢
        refine ⟨(by show 2 ≤ sizeLine; omega), fun L hL => ?_⟩
        have W3 := W2.newP (o := .lst [.ref row, .ref tq]) hL
        have e3 := W2.newG hL (o := .lst [.ref row, .ref tq])
        have a1 := e3 _ _ a1
        have hS := hS.mono e3
        have hR := hR.same e3
        have aR := e3.seq aR
        have aQ := same_t e3 aQ
        have aL : SqL K (upd G21 L (.lst [.ref row, .ref tq])) L [.ref row, .ref tq] := SqL.of upd_same
        generalize upd G21 L _ = G22 at W3 a1 hS hR aR aQ aL
        generalize upd H21 L _ = H22 at W3 ⊢
        refine ⟨_, rfl, b, x', y, z', 2, rfl, W3.here, ⟨y0, y1⟩, by decide, by decide, fun r7 x7 z7 v0 v1 => ?_⟩
        have W4 := W3.put (o' := .lst [.int x7, .int y, .int z7])
        generalize upd H22 b _ = H23 at W4 ⊢
        have pick : ∃ a', atI [V.ref row, .ref tq] r7 = some (.ref a') ∧ (SqL K G22 a' rx ∨ SqT K G22 a' rx) := by
          obtain rfl | rfl : r7 = 0 ∨ r7 = 1 := by omega
          · exact ⟨row, rfl, .inl aR⟩
          · exact ⟨tq, rfl, .inr aQ⟩
        obtain ⟨a', pk1, pk2⟩ := pick
        obtain ⟨C, u, hwh, hsh, hkn, hdu⟩ := hR.whole hS gd l6 hrx htk pk2
        obtain ⟨mw1, mw2⟩ := Wd.mws W4 (n := 4) (by omega) wok
        refine ⟨L, _, r7, .ref a', rfl, rfl, W4.kn.seq aL, pk1, _, rfl, due, _, 0, .str (kindOf C), rfl, rfl, W4.kn.seq hdu, atI_nat (j := 0) rfl, _, rfl, due, _, 1, u, rfl, rfl, W4.kn.seq hdu, atI_nat (j := 1) rfl, ?_⟩
        refine ⟨G22, m, .ref a', u, C, rfl, W4.kn, mw1, mw2, hwh, hsh, hkn, fun H24 g24 => ⟨_, rfl, ?_⟩⟩
        have W5 := Wd.refuse W4 g24
        clear W1 W2 W3 W4 e2 e3 hR aR aQ aL hwh hsh hkn hdu mw1 mw2 pk1 pk2 g24
        -- a whole that is refused
        refine ⟨_, rfl, _, rfl, b, p1, x7, y, z7, G22, xs, st, rfl, W5.kn, W5.no _ (List.mem_cons_self ..), W5.here, ⟨y0, y1⟩, a1, hS, gd.ok, l1, l6, fun v G25 H25 x8 z8 g25 hb25 wo => ?_⟩
        have W6 := W5.call1 g25 hb25
        have a1 := g25.g _ _ a1
        have hS := hS.mono g25.g
        have kN0 : kindOf "NoSteps" = "whole" := by decide +kernel
        refine ⟨_, rfl, _, rfl, G25, none, v, v, "NoSteps", by simp [kN0], W6.kn, (fun a h => nomatch h), (fun a h => nomatch h), wo.bad, wo.sh, wo.kn, fun H26 g26 => ⟨_, rfl, ?_⟩⟩
        have W7 := W6.call g26
        -- a thing that is no part
        refine ⟨_, rfl, b, x8, y, z8, G25, rfl, W7.kn, W7.no _ (List.mem_cons_self ..), W7.here, ⟨y0, y1⟩, fun v2 m2 G27 H27 x9 z9 g27 hb27 gv => ?_⟩
        have W8 := W7.call1 g27 hb27
        have a1 := g27.g _ _ a1
        have hS := hS.mono g27.g
        have gvn : Giv K G27 m2 v2 ∧ Ws H27 m2 6 := by
          rcases gv with ⟨rfl, f⟩ | ⟨c, ws', rfl, rfl, h1, h2, h3, h4, h5⟩
          · exact ⟨.inl ⟨rfl, f⟩, fun a h => nomatch h⟩
          · exact ⟨.inr ⟨c, rfl, rfl⟩, fun c' h => by cases h; exact ⟨ws', h1, by omega, h3⟩⟩
        refine ⟨G27, m2, v2, rfl, W8.kn, gvn.2, gvn.1.thing, gvn.1.np, gvn.1.shows, fun H28 e28 => ⟨_, rfl, ?_⟩⟩
        have W9 := (W8.stay e28).tail
        clear W5 W6 W7 W8 g25 hb25 wo g26 g27 hb27 gv gvn e28
        -- the good ones
        refine ⟨_, rfl, fun x dx n1 n2 hne => rule_at n1 n2 hne W9.kn (.inl (SqL.of (W9.kn _ _ a1))) hS gd l1 l6 fun G29 H29 g29 hRl => ?_⟩
        have W10 := W9.call g29
        have a1 := g29.g _ _ a1
        have hS := hS.mono g29.g
        obtain ⟨x1, dx1, f1, ex1, b1, c1'⟩ := hRl
        cases ex1
        refine ⟨x, dx1, _, rfl, W10.kn _ _ b1, rfl, .ref x, xs, rfl, ⟨x, dx1, f1, rfl, W10.kn _ _ b1, W10.kn.seq c1'⟩, fun lq hlq => ?_⟩
        have W11 := W10.newP (o := .lst xs) hlq
        have e11 := W10.newG hlq (o := .lst xs)
        have a1 := e11 _ _ a1
        have hS := hS.mono e11
        have aq : SqL K (upd G29 lq (.lst xs)) lq xs := SqL.of upd_same
        generalize upd G29 lq _ = G30 at W11 a1 hS aq
        generalize upd H29 lq _ = H30 at W11 ⊢
        have sS := hS.mono W11.kn
        refine ⟨_, rfl, stepsD st, stepsD st, .lst (W11.kn.seq aq) (steps_dp sS), .lst (SqL.of (W11.kn _ _ a1)) (steps_dp sS), steps_shaped gd.ok, steps_shaped gd.ok, _, rfl, ?_⟩
        have ee : PyData.eqv (stepsD st) (stepsD st) = true := by simp only [stepsD, PyData.eqv, steps_eqv, decide_true]
        rw [ee]
        have h0x : 0 < xs.length := by omega
        obtain ⟨⟨pp, z0⟩, hp0, ⟨a0, ea0, hT0⟩⟩ := paired_at hS (List.getElem?_eq_getElem h0x)
        obtain ⟨k, hk, e1, hz0⟩ := gd.ok _ (List.mem_of_getElem? hp0)
        dsimp only at e1 hz0 hT0
        refine ⟨_, rfl, p1, xs, 0, .ref a0, rfl, rfl, SqL.of (W11.kn _ _ a1), atI_nat (j := 0) (by rw [List.getElem?_eq_getElem h0x, ea0]), a0, _, 1, .str z0, rfl, rfl, same_t W11.kn hT0, atI_nat (j := 1) rfl, ?_⟩
        refine ⟨G30, none, .str z0, rfl, W11.kn, (fun a h => nomatch h), .flat (.str z0), (fun i hi e => way_no_part ⟨k, hk⟩ z0 hz0 ⟨i, hi⟩ (by cases e; rfl)), str_shows (okwB_ok (way_bent ⟨k, hk⟩ z0 hz0).2.2.2.1), fun H31 e31 => ⟨_, rfl, ?_⟩⟩
        exact ⟨⟨_, _, _, _, _, _, _, _, _, rfl⟩, G30, W11.stay e31⟩
    · rintro σ H2 ⟨⟨c1, c2, c3, c4, c5, c6, c7, c8, c9, rfl⟩, G1, V0⟩
      exact q _ _ V0.gr
end
end K51
set_option Elab.async false
set_option linter.all false
set_option maxRecDepth 100000
set_option maxHeartbeats 0
namespace K51
open PySem PySem.Spec PyProof.Rows L2 Sv
abbrev R : PySem.W.OpenRow := PySem.W.OpenLaw.row PySem.Challenge.rw_sievemarks_k51_rules_told_and_refused
abbrev hk : PySem.W.Hook := hookS 5 fs fn
def ob (s : PySem.W.SharedT) : He.AlD := obsSG 5 fs fn (HandSHeadRun.getT s)
theorem ob_eq (s : PySem.W.SharedT) : ob s = hk.obs s.abs := obsSG_eq (HandSHeadRun.getT_eq s)
abbrev ix : Nat := 65
def ls0 : List PySem.Str := ["_wall", "__name__", "MarkError", "Missing", "Twice", "NoSteps", "NoStep", "NoPart", "NoWay", "PART", "whole_in", "figures_of", "PARTS", "LATE", "letters_words", "letters_short", "number_whole", "number_figures", "points_decimal", "whole_of", "points_whole", "points_late", "makers_decimal", "makers_whole", "makers_few", "rising", "figures", "year_rising", "year_falling", "year_late"]
def ls1 : List PySem.Str := ["year_figures", "copy_rising", "copy_falling", "copy_figures", "KEYS", "ways", "key_by", "sided", "MOST", "need_step", "Rule", "first_rule", "_law_cell", "_law_box", "_law_take", "_law_ways", "_law_steps", "_law_other", "_law_right", "_law_parts_told", "_law_first", "_law_cell_two", "_law_take_two", "_law_steps_two", "_law_thing", "_law_whole", "_law_spoilt", "_law_caught", "_law_refused", "_law_no_part"]
def ls2 : List PySem.Str := ["_law_second"]
def ls : List PySem.Str := ls0 ++ ls1 ++ ls2
theorem run0 (w : World) : HandSHeadRun.RunEq R (PySem.W.view R.prog [ix]) hk ob 6000 ls (w.withFollow "special-get-raises" false) := by
  intro os
  kernel_rfl
theorem run1 (w : World) : HandSHeadRun.RunEq R (PySem.W.view R.prog [ix]) hk ob 6000 ls (w.withFollow "special-get-raises" true) := by
  intro os
  kernel_rfl
theorem run (w : World) : HandSHeadRun.RunEq R (PySem.W.view R.prog [ix]) hk ob 6000 ls w := PySem.W.byRow2 "special-get-raises" run0 run1 w
end K51
set_option Elab.async false
set_option linter.all false
set_option maxRecDepth 100000
set_option maxHeartbeats 0
namespace K51
open PySem PySem.Spec PyProof.Rows L2 Sv
section
variable {P : Program} {w : World} {K : PySem.W.Frag} {mg : Str → Option Value} {base : Heap}
theorem fn_law (t : T K mg) {fd : FuncData} (F : Fun K "law" "law" s_law (He.ga K "law") fd) : FnG P w K mg base CX0 10 (He.ga K "law") fd ["script"] (spLaw K) := by
  have O_law_first := ok_law_first (P := P) (w := w) (base := base) t
  have O_law_second := ok_law_second (P := P) (w := w) (base := base) t
  refine okG F sc_law (fun vs H Q E h => ?_) (fun cdv A outer s H vs Q E hG hr h => ?_)
  · obtain ⟨G, a, ns, rfl, _⟩ := h
    rfl
  · obtain ⟨G, a, ns, rfl, hSm, ha, q⟩ := h
    refine ⟨_, (pss_one (ps_ret (pe_and (pe_gcallN O_law_first hG (hr.mono (by decide)) pass0 (pa_cons (pv 0) pa_nil)) (pe_one (pe_gcallN O_law_second hG (hr.mono (by decide)) pass0 (pa_cons (pv 0) pa_nil)))))), ?_⟩
    exact ⟨_, rfl, G, a, ns, rfl, hSm, ha, fun G1 H1 g1 => ⟨true, rfl, _, rfl, G1, a, ns, rfl, g1.h, g1.g.seq ha, fun G2 H2 g2 => q _ _ (((Wd.start0 hSm).call g1).call g2).gr⟩⟩
end
end K51
open PySem PySem.W PySem.Calls PyProof.Rows
theorem PySem.Challenge.cw_sievemarks_k51_rules_told_and_refused_holds : PySem.Challenge.rw_sievemarks_k51_rules_told_and_refused.Holds := by
  w_on; o_law
  refine HandSHeadRun.head_any (r := K51.R) (q := view K51.R.prog [K51.ix]) (H := K51.hk) (ob := K51.ob) (M := 6000) (loose := K51.ls) (d := HandSHeadRun.topDef K51.R.prog K51.ix) (kwd := []) K51.ob_eq
    (by kernel_rfl) (fun s => by kernel_rfl) K51.run (by kernel_rfl) (by kernel_rfl) (by kernel_rfl) (by rfl) (by first | assumption | decide +kernel) (by decide +kernel) ⟨rfl, rfl, rfl, rfl, rfl, by decide +kernel⟩ ?hw ?hc
  case hw => w_witness2
  case hc =>
    refine Sv.walkG (l := PySem.Challenge.rw_sievemarks_k51_rules_told_and_refused) (n := 63) (k := 10) (x := "script") rfl (by rw [sizeLine_eq]; decide) (by kernel_rfl) ⟨rfl, by decide, by decide⟩ ?_
    intro w mg fa h Y G hmg0
    obtain ⟨K, KX, c⟩ := Y
    have hmg : mg ("law" : PySem.Str) = some (.ref fa) := by
      have e : (HandSHeadRun.topDef K51.R.prog K51.ix).name = ("law" : PySem.Str) := by kernel_rfl
      rw [← e]
      exact hmg0
    have t := K51.mkT KX G c
    have e := hmg.symm.trans t.g_law
    cases e
    obtain ⟨fd, FD⟩ := Sv.SaysS.def_ c 26 (d := K51.d_law) rfl
    have b := L2.FunD.bindsA (ps := ["script"]) FD fun _ _ _ _ _ _ us hl => match us, hl with | [_], _ => rfl
    exact ⟨K, fd, K51.spLaw K, KX, fun s v => b s [v] rfl, fun H a ns hl _ hS => ⟨H, a, ns, rfl, L2.Same.refl H, hS, fun _ _ _ => rfl⟩, fun base _ _ => K51.fn_law t (Sv.fun_of FD)⟩
