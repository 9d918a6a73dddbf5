import PyProof.Rows.All
import Wide.All
import OpenK.AllK
import Wide.FinOn
import HandS.ForMost
import HandS.Exc
import HandS.ExcOwn
import HandS.WordsExc
import HandS.Defaults
import HandS.TryMany
import HandS.ExcField
import HandS.IsInst
import HandS.Style
import HandS.TupLe
import HandS.TupAny
import HandS.Wide
import HandS.Conv
import HandS.Walk
import HandS.Zip
import HandS.ExcInit
import PySem.Challenge.RW_diffcompiler_k30_rounds_alike
set_option Elab.async false
set_option linter.all false
set_option maxRecDepth 100000
set_option maxHeartbeats 4000000
/-! The base of our proofs: rules that the layer does not have, and the words that our texts share. -/
namespace GB
open PySem PySem.Spec PyProof.Rows L2

/-- a def of the text that keeps a promise, as its callers see it -/
structure Dn (P : Program) (w : World) (K : PySem.W.Frag) (mg : Str → Option Value) (base : Heap) (k : Nat) (x : Str) (st : Stmt) (ps : List Str) (sp : Sp) : Prop where
  ex : ∃ (f : Addr) (fd : FuncData), FnOk P w K mg base (L2.CX P w) k f fd ps sp ∧ mg x = some (.ref f) ∧ Fun K x x st f fd
/-- how positional arguments come to the parameters -/
def Bd (x : Str) (st : Stmt) (ps : List Str) : Prop := ∀ (kV doc pm : Value) (an : Option Addr) (cdv ct : Value) (us : List Value), us.length = ps.length →
  bindArgs (PySem.W.fnOf x x (defArgs st) (defBody st) (defScope st) .none kV doc pm an cdv ct) ⟨us, []⟩ = pure (ps.zip us)
/-- how arguments that are all passed by name come to the parameters -/
def Bk (x : Str) (st : Stmt) (ps ks : List Str) (g : {α : Type} → List α → List α) : Prop := ∀ (kV doc pm : Value) (an : Option Addr) (cdv ct : Value) (us : List Value), us.length = ks.length →
  bindArgs (PySem.W.fnOf x x (defArgs st) (defBody st) (defScope st) .none kV doc pm an cdv ct) ⟨[], ks.zip us⟩ = pure (ps.zip (g us))
theorem Dn.mono {P : Program} {w : World} {K : PySem.W.Frag} {mg : Str → Option Value} {base : Heap} {j k : Nat} {x : Str} {st : Stmt} {ps : List Str} {sp : Sp} (D : Dn P w K mg base j x st ps sp) (h : j ≤ k) : Dn P w K mg base k x st ps sp := by
  obtain ⟨f, fd, F, m, G⟩ := D.ex
  exact ⟨f, fd, F.mono h, m, G⟩
theorem Dn.imp {P : Program} {w : World} {K : PySem.W.Frag} {mg : Str → Option Value} {base : Heap} {k : Nat} {x : Str} {st : Stmt} {ps : List Str} {sp sp' : Sp} (D : Dn P w K mg base k x st ps sp) (h : ∀ vs H Q E, sp' vs H Q E → sp vs H Q E) :
    Dn P w K mg base k x st ps sp' := by
  obtain ⟨f, fd, F, m, G⟩ := D.ex
  exact ⟨f, fd, F.imp h, m, G⟩
section
variable {X : Cx} {k : Nat} {ps ks : List Str} {sp : Sp} {E : XK} {x : Str} {st : Stmt} {p pos : Pos} {e : Expr} {es : List Expr} {t tk : TA} {kws : List Keyword}
theorem bd_of {f : Addr} {fd : FuncData} (G : Fun X.K x x st f fd) (b : Bd x st ps) : Binds X.K fd ps [] := G.binds b
/-- f(e, ..): what f may raise is E's -/
theorem pe_cl (D : Dn X.prog X.w X.K X.mg X.base k x st ps sp) (b : Bd x st ps) (hr : Room k X.A) (hx : Passes (L2.CX X.prog X.w) X E) (ha : PA X (e :: es) t) (hg : Gl X x := by rfl) (hdb : (x == ("__debug__" : Str)) = false := by decide)
    (he : starEach (e :: es) X.env = (false, eval e X.env) :: starEach es X.env := by rfl) (hpl : (backTo pos (starEach es X.env)).any (·.1) = false := by rfl) :
    PE X (.Call (.Name x p) (e :: es) [] pos) (tCall sp [] E t) := by
  obtain ⟨f, fd, F, m, G⟩ := D.ex
  exact pe_call F hr hg m G.kp (G.binds b) .nil hx ha hdb he hpl
theorem pe_cl0 (D : Dn X.prog X.w X.K X.mg X.base k x st [] sp) (b : Bd x st []) (hr : Room k X.A) (hx : Passes (L2.CX X.prog X.w) X E) (hg : Gl X x := by rfl) (hdb : (x == ("__debug__" : Str)) = false := by decide) :
    PE X (.Call (.Name x p) [] [] pos) (tCall sp [] E tNil) := by
  obtain ⟨f, fd, F, m, G⟩ := D.ex
  exact pe_call0 F hr hg m G.kp (G.binds b) .nil hx hdb
/-- f(e, ..) within a try's body -/
theorem pe_clS {W : WX} (D : Dn X.prog X.w X.K X.mg X.base k x st ps sp) (b : Bd x st ps) (hr : Room k X.A) (tk : Takes X W) (ha : PA X (e :: es) t) (hg : Gl X x := by rfl) (hdb : (x == ("__debug__" : Str)) = false := by decide)
    (he : starEach (e :: es) X.env = (false, eval e X.env) :: starEach es X.env := by rfl) (hpl : (backTo pos (starEach es X.env)).any (·.1) = false := by rfl) :
    PE X (.Call (.Name x p) (e :: es) [] pos) (tCallS sp (WE W) t) := by
  obtain ⟨f, fd, F, m, G⟩ := D.ex
  exact pe_callS F hr hg m G.kp (G.binds b) (fun σ => passAt tk σ) ha hdb he hpl
/-- f(k = v, ..), all by name, within a try's body -/
def tCallKS (sp : Sp) (gV : List V → List V) (n : Nat) (E : L2.St → XK) (tk : TA) : TE := fun σ H Q => tk σ H fun zs H1 => zs.length = n ∧ sp (gV zs) H1 Q (E σ)
theorem paired_len {α β : Type} {r : α → β → Prop} {xs : List α} {ys : List β} (h : Paired r xs ys) : xs.length = ys.length := Paired.length h
theorem pe_clKS {W : WX} {g : {α : Type} → List α → List α} (D : Dn X.prog X.w X.K X.mg X.base k x st ps sp) (b : Bk x st ps ks g) (hgr : ∀ {vs : List V} {us : List Value}, Vals vs us → vs.length = ks.length → Vals (g vs) (g us)) (hr : Room k X.A) (tk : Takes X W) (hkw : PK X kws t) (hg : Gl X x := by rfl)
    (hall : (backToKw pos (keywordEach kws X.env)).all (·.1.isSome) = true := by rfl) (hks : (backToKw pos (keywordEach kws X.env)).filterMap (·.1) = ks := by rfl) (hdb : (x == ("__debug__" : Str)) = false := by decide)
    (hpl : ((backTo pos (starEach [] X.env)).any (·.1) || (backToKw pos (keywordEach kws X.env)).any (·.1.isNone)) = false := by rfl) :
    PE X (.Call (.Name x p) [] kws pos) (tCallKS sp (fun l => g l) ks.length (WE W) t) := by
  obtain ⟨f, fd, F, m, G⟩ := D.ex
  refine ⟨fun pins s σ H Q I h => ?_⟩
  refine wpAny_Call_Name_kw (ld_glob I hg m ?_ hdb)
  refine PySem.W.callWith_KW0 (h₀ := X.base) I.ok.mod.kin G.kp hall (thn (hkw.run pos pins s σ H _ I h) ?_) hpl
  rintro ws s2 ⟨zs, H2, I2, rz, ln, q2⟩
  refine ⟨I2.kIn, ?_⟩
  rw [hks]
  have r2 := hgr rz ln
  obtain ⟨oc, od, kV, doc, pm, an, cdv, ct, osl, rfl, lk, hcd⟩ := G.ex
  have l2 : ws.length = ks.length := by rw [← rz.length]; exact ln
  have bt : BindsTo s2 _ ⟨[], ks.zip ws⟩ (ps.zip (g ws)) := BindsTo.of_eq (b kV doc pm an cdv ct ws l2)
  show wpAny _ _ (call (.ref f) ([] ++ []) (ks.zip ws)) _ _ _
  refine wpAny_call (codeAny_mono (F.run X.A X.stack s2 H2 ⟨[], ks.zip ws⟩ (g ws) (g zs) Q (WE W σ) hr I2.env0 bt r2 q2) ?_)
  intro r s' hq
  cases r with
  | error e => exact passAt tk σ pins H2 s2 e s' I2 hq
  | ok fl =>
    cases fl with
    | ret u => exact I2.after hq
    | next | brk | cont => exact False.elim hq
end
end GB

namespace GB
open PySem PySem.Spec PyProof.Rows L2
/-- one except clause: the class that it names, the slot of its name (if it has one), its suite -/
structure Cl where
  cls : Value
  as? : Option Nat
  suite : Addr → Value → Option Addr → TS
/-- the ends of a suite behind which its name goes -/
def Ends.away (D : Ends) (i : Nat) : Ends := { nx := fun σ H => D.nx (σ.set i none) H, rt := D.rt, bk := fun σ H => D.bk (σ.set i none) H, ct := fun σ H => D.ct (σ.set i none) H }
/-- what a suite wishes, entered with the error at a -/
def Cl.enter (c : Cl) (D : Ends) (a : Addr) (cls : Value) (d : Option Addr) (σ : L2.St) (H : Hp) : Prop :=
  match c.as? with
  | none => c.suite a cls d D σ H
  | some i => c.suite a cls d (Ends.away D i) (σ.set i (some (.ref a))) H
/-- what the clauses wish of an exception of the body, one clause behind the other -/
def wCls (K : PySem.W.Frag) (Wo : WX) (D : Ends) : List Cl → WX
  | [] => Wo
  | c :: r => fun cls d σ H => ∃ b, PySem.W.exmOne K cls c.cls = some b ∧ (b = true → ∀ a, H a = none → c.enter D a cls d σ H) ∧ (b = false → wCls K Wo D r cls d σ H)
inductive ClsOk (X : Cx) : List ExceptHandler → List Cl → Prop
  | nil : ClsOk X [] []
  | plain {x : Str} {c : Value} {ts : Addr → Value → Option Addr → TS} {b1 : Stmt} {bs : List Stmt} {p1 p2 : Pos} {hds : List ExceptHandler} {l : List Cl} (nm : Names X x c)
      (su : ∀ (a : Addr) (oe : Obj) (cls : Value) (d : Option Addr) (pn : List (Addr × Obj)), Zc cls d oe → (∃ vs, oe.data = .fields vs) → PSs (X.suite a ((a, oe) :: pn)) (b1 :: bs) (ts a cls d)) (r : ClsOk X hds l) :
      ClsOk X (.ExceptHandler (some (.Name x p1)) none (b1 :: bs) p2 :: hds) (⟨c, none, ts⟩ :: l)
  | named {x n : Str} {i : Nat} {c : Value} {ts : Addr → Value → Option Addr → TS} {b1 : Stmt} {bs : List Stmt} {p1 p2 : Pos} {hds : List ExceptHandler} {l : List Cl} (nm : Names X x c) (at_ : X.N[i]? = some n) (lc : X.env.kindOf n = some .local)
      (su : ∀ (a : Addr) (oe : Obj) (cls : Value) (d : Option Addr) (pn : List (Addr × Obj)), Zc cls d oe → (∃ vs, oe.data = .fields vs) → PSs (X.suite a ((a, oe) :: pn)) (b1 :: bs) (ts a cls d)) (r : ClsOk X hds l) :
      ClsOk X (.ExceptHandler (some (.Name x p1)) (some n) (b1 :: bs) p2 :: hds) (⟨c, some i, ts⟩ :: l)
section
variable {X : Cx} {body : List Stmt} {h1 : ExceptHandler} {hds : List ExceptHandler} {l : List Cl} {pos : Pos} {tb : WX → TS} {Wo : WX}
/-- try: body / except X as n: .. / except Y as n: .. / except Z: .. -/
theorem ps_try_cls (stk : X.stack = X.env :: X.outer) (frm : X.env.frame = some X.env.locals) (nd : X.N.Nodup) (tk : Takes X Wo)
    (hb : ∀ (W : WX) (pn : List (Addr × Obj)) (xe : Value → Shared → Prop), Takes (X.tr pn xe) W → PassesOwn (model X.prog X.w) X.A X.env xe → PSs (X.tr pn xe) body (tb W))
    (cl : ClsOk X (h1 :: hds) l) : PS X (.Try body (h1 :: hds) [] [] pos) (fun D σ H => tb (wCls X.K Wo D l) D σ H) := by
  refine ⟨?_⟩
  intro pins s σ H D I h
  have ok := I.ok
  have frs1 : X.A.frames = some (X.env :: X.outer) := by rw [ok.frames, stk]
  refine wpAny_Try_except ?_
  have run := (hb (wCls X.K Wo D l) (X.pn ++ pins) (fun e s1 => wpAny (model X.prog X.w) X.A (noteFrame e X.env) (fun _ s2 => wpAny (model X.prog X.w) X.A (setFlight e none) (fun _ s3 =>
    wpAny (model X.prog X.w) X.A (handleBy e X.env (h1 :: hds)) (SP X pins D) X.xe s3) X.xe s2) X.xe s1) ?caught PassesOwn.looking).run [] s σ H D (I.toTry _) h
  case caught =>
    rintro u s1 ⟨a, B, sI, pins1, σ1, H1, cls, d, rfl, J1, nb, up, sky, na, os, ag, wish⟩
    have J : Inv X pins σ1 H1 sI := J1.ofTry ok
    have sky1 : Sky B (X.env :: X.outer) a (Zc cls d) X.env.locals s1.heap := by
      rw [← stk]
      exact sky
    show wpAny (model X.prog X.w) X.A (noteFrame (.ref a) X.env) _ _ _
    refine Sky.land Zc.steady frs1 frm sky1 ?_
    intro h3 fl3 up3
    have J3 : Inv X pins σ1 H1 { s1 with heap := h3 } := J.landed nb fl3.1 (up.trans up3) os ag
    obtain ⟨oe3, vs3, he3, hz3, hd3⟩ := fl3.there
    have off : a ∉ frs (X.env :: X.outer) := by
      intro hm
      obtain ⟨_, o1, e1, hnf⟩ := fl3.2.2.1.mem hm
      rw [he3] at e1
      cases e1
      exact hnf _ hd3
    have nL : a ≠ X.env.locals := by
      intro z
      exact off (List.mem_filterMap.mpr ⟨X.env, List.mem_cons_self, by rw [frm, z]⟩)
    have nF : a ∉ X.fs := by
      intro hm
      obtain ⟨e, he, q⟩ := List.mem_filterMap.mp hm
      exact off (List.mem_filterMap.mpr ⟨e, List.mem_cons_of_mem _ he, q⟩)
    have S3 := J3.suite he3 hd3 na nL nF
    -- a clause's suite, entered
    have go : ∀ {hs : List ExceptHandler} {ls : List Cl}, ClsOk X hs ls → wCls X.K Wo D ls cls d σ1 H1 → wpAny (model X.prog X.w) X.A (handleBy (.ref a) X.env hs) (SP X pins D) X.xe { s1 with heap := h3 } := by
      intro hs ls ck
      have ty : PySem.W.Looks (model X.prog X.w) h3 (typeOf (.ref a)) cls := by
        intro A Q E s2 k q
        exact wpAny_typeOf_ref (k _ _ he3) (by rw [hz3.1]; exact q)
      have named : ∀ {x : Str} {c : Value} {np : Pos} {Q : Value → Shared → Prop} {E : Value → Shared → Prop}, Names X x c → Q c { s1 with heap := h3 } →
          wpAny (model X.prog X.w) (X.A.mark (some (.ref a))) (eval (.Name x np) X.env) Q E { s1 with heap := h3 } := by
        rintro x c np Q E ⟨hg, hdbg, hm | ⟨hm, hv, hnn⟩⟩ q
        · exact ld_glob (X := X.suite a ((a, oe3) :: (X.pn ++ pins))) S3 hg hm q hdbg
        · exact ld_blt (X := X.suite a ((a, oe3) :: (X.pn ++ pins))) S3 hg hm hv q hnn hdbg
      have behind : ∀ {σ2 : L2.St} {H2 : Hp} {sv : Shared} {vs2 : List (Addr × Obj)} {a2 : Addr × Obj}, Inv (X.suite a (a2 :: (X.pn ++ pins))) vs2 σ2 H2 sv → Inv X pins σ2 H2 sv := fun S => S.unsuite ok
      induction ck with
      | nil =>
        intro w
        refine wpAny_handleBy_nil ?_
        obtain ⟨k1, k2, k3, oe, vs, T, oT, ts2, he, hz, hd, hone, hr⟩ := id fl3
        unfold PySem.passOn
        refine wpAny_bind (wpAny_field he hd hone ?_)
        rw [if_neg (show ¬ ((Value.ref T == Value.none) = true) from by simp)]
        have out : wpAny (model X.prog X.w) X.A (setFlight (.ref a) X.env.frame) (fun _ s4 => wpAny (model X.prog X.w) X.A (throw (.ref a) : Sem Flow) (SP X pins D) X.xe s4) X.xe { s1 with heap := h3 } := by
          rw [frm]
          refine HandSPX.setFlight_upZ fl3 ?_
          intro h4 hh4 up4
          refine wpAny_throw (tk _ _ ⟨a, B, sI, pins, σ1, H1, cls, d, rfl, J, nb, (up.trans up3).trans up4, .inr (.inr ?_), na, os, ag, w⟩)
          rw [stk]
          exact hh4
        first
          | exact wpAny_bind (wpAny_pure (wpAny_bind out))
          | exact wpAny_bind out
      | @plain x c ts b1 bs p1 p2 hs2 l2 nm su r ih =>
        rintro ⟨b, hb1, yes, no⟩
        refine wpAny_handleBy_cons (codeAny_handlers_test ?_) (by intro q; cases q)
        refine named nm ((PySem.W.exm_one (M := model X.prog X.w) J3.kIn ty hb1).here ?_)
        cases b with
        | false => exact ih (no rfl)
        | true =>
          refine codeAny_handlers_suite (HandSPX.lands_againZ fl3 ?_)
          intro h4 fl4 up4
          have J4 : Inv X pins σ1 H1 { s1 with heap := h4 } := J.landed nb fl4.1 ((up.trans up3).trans up4) os ag
          obtain ⟨oe4, vs4, he4, hz4, hd4⟩ := fl4.there
          have S4 := J4.suite he4 hd4 na nL nF
          refine wpAny_mono ((su a oe4 cls d (X.pn ++ pins) hz4 ⟨_, hd4⟩).run [] _ _ H1 _ S4 (yes rfl a na)) ?_ (fun _ _ z => False.elim z)
          intro f s6 hsp
          cases f with
          | next | brk | cont =>
            obtain ⟨σ6, H6, S6, q6⟩ := hsp
            exact ⟨_, _, behind S6, q6⟩
          | ret u =>
            obtain ⟨v6, σ6, H6, S6, r6, q6⟩ := hsp
            exact ⟨_, _, _, behind S6, r6, q6⟩
      | @named x n i c ts b1 bs p1 p2 hs2 l2 nm at_ lc su r ih =>
        rintro ⟨b, hb1, yes, no⟩
        refine wpAny_handleBy_cons (codeAny_handlers_test ?_) (by intro q; cases q)
        refine named nm ((PySem.W.exm_one (M := model X.prog X.w) J3.kIn ty hb1).here ?_)
        cases b with
        | false => exact ih (no rfl)
        | true =>
          refine codeAny_handlers_suite_as (HandSPX.lands_againZ fl3 ?_)
          intro h4 fl4 up4
          have J4 : Inv X pins σ1 H1 { s1 with heap := h4 } := J.landed nb fl4.1 ((up.trans up3).trans up4) os ag
          obtain ⟨oe4, vs4, he4, hz4, hd4⟩ := fl4.there
          have S4 := J4.suite he4 hd4 na nL nF
          refine store_ok (X := X.suite a ((a, oe4) :: (X.pn ++ pins))) (v := .ref a) S4 nd at_ (.inl lc) rfl ?_ (.inr lc)
          intro s5 S5
          refine wpAny_mono ((su a oe4 cls d (X.pn ++ pins) hz4 ⟨_, hd4⟩).run [] s5 _ H1 _ S5 (yes rfl a na)) ?_ (fun _ _ z => False.elim z)
          intro f s6 hsp
          have last : ∀ {σ6 : L2.St} {H6 : Hp} {Q : Shared → Prop}, Inv (X.suite a ((a, oe4) :: (X.pn ++ pins))) [] σ6 H6 s6 → (∀ s7, Inv X pins (σ6.set i none) H6 s7 → Q s7) →
              wpAny (model X.prog X.w) X.A (do bindName X.env n .none; unbindBehindTheSuite X.env n p2) (fun _ s7 => Q s7) X.xe s6 := by
            intro σ6 H6 Q S6 hq
            exact gone_ok (behind S6) nd at_ lc hq
          cases f with
          | next | brk | cont =>
            obtain ⟨σ6, H6, S6, q6⟩ := hsp
            exact last S6 fun s7 J7 => ⟨_, _, J7, q6⟩
          | ret u =>
            obtain ⟨v6, σ6, H6, S6, r6, q6⟩ := hsp
            exact last S6 fun s7 J7 => ⟨_, _, _, J7, r6, q6⟩
    exact go cl wish
  refine wpAny_mono run ?_ (fun e s1 he => he)
  intro f s1 hsp
  cases f with
  | next =>
    obtain ⟨σ2, H2, J2, q⟩ := hsp
    exact wpAny_execs_nil ⟨σ2, H2, J2.ofTry ok, q⟩
  | brk | cont =>
    obtain ⟨σ2, H2, J2, q⟩ := hsp
    exact ⟨σ2, H2, J2.ofTry ok, q⟩
  | ret u =>
    obtain ⟨v, σ2, H2, J2, r, q⟩ := hsp
    exact ⟨v, σ2, H2, J2.ofTry ok, r, q⟩
end
end GB

/-! Data of any depth in the heap: what a value stands for. -/
namespace GB
open PySem PySem.Spec PyProof.Rows L2
/-- a reading that is not opened by itself -/
inductive Hold (p : Prop) : Prop where
  | mk (h : p) : Hold p
  | no (f : False) : Hold p
theorem Hold.h {p : Prop} : Hold p → p
  | .mk h => h
  | .no f => f.elim
inductive PD where
  | non | bl (b : Bool) | int (i : Int) | str (s : Str) | lst (l : List PD) | tup (l : List PD) | dct (l : List (Key × V))
/-- a value that is no object -/
def PD.ofV : V → Option PD
  | .non => some .non | .bl b => some (.bl b) | .int i => some (.int i) | .str s => some (.str s) | _ => none
def PD.ty : PD → String
  | .non => "NoneType" | .bl _ => "bool" | .int _ => "int" | .str _ => "str" | .lst _ => "list" | .tup _ => "tuple" | .dct _ => "dict"
mutual
inductive Rep (K : PySem.W.Frag) (H : Hp) : V → PD → Prop
  | non : Rep K H .non .non
  | bl (b : Bool) : Rep K H (.bl b) (.bl b)
  | int (i : Int) : Rep K H (.int i) (.int i)
  | str (s : Str) : s.length ≤ 100000 → Rep K H (.str s) (.str s)
  | lst {a : Addr} {xs : List V} {l : List PD} : l.length ≤ 100000 → SqL K H a xs → RepL K H xs l → Rep K H (.ref a) (.lst l)
  | tup {a : Addr} {xs : List V} {l : List PD} : l.length ≤ 100000 → SqT K H a xs → RepL K H xs l → Rep K H (.ref a) (.tup l)
  | dct {a : Addr} {l : List (Key × V)} : H a = some (.dK l) → (∀ p ∈ l, ∃ d, PD.ofV p.2 = some d ∧ ∀ s, d = .str s → s.length ≤ 100000) → Rep K H (.ref a) (.dct l)
inductive RepL (K : PySem.W.Frag) (H : Hp) : List V → List PD → Prop
  | nil : RepL K H [] []
  | cons {v : V} {d : PD} {vs : List V} {ds : List PD} : Rep K H v d → RepL K H vs ds → RepL K H (v :: vs) (d :: ds)
end
mutual
def PD.deep : PD → Nat
  | .lst l => PD.deepL l + 1
  | .tup l => PD.deepL l + 1
  | .dct _ => 1
  | _ => 0
def PD.deepL : List PD → Nat
  | [] => 0
  | d :: r => max (PD.deep d) (PD.deepL r)
end
section
variable {K : PySem.W.Frag} {H H' : Hp}
theorem Same.rd {a : Addr} {u : HO} (e : Same H H') (h : Rd H a u) : Rd H' a u := by
  rcases h with h | ⟨o, h⟩
  · exact .inl (e _ _ h)
  · exact .inr ⟨o, e _ _ h⟩
theorem Same.sqt {a : Addr} {xs : List V} (e : Same H H') (h : SqT K H a xs) : SqT K H' a xs := by
  rcases h with h | h
  · exact .inl (Same.rd e h)
  · exact .inr h
theorem Same.sql {a : Addr} {xs : List V} (e : Same H H') (h : SqL K H a xs) : SqL K H' a xs := by
  rcases h with h | h
  · exact .inl (Same.rd e h)
  · exact .inr h
theorem same_new {p : Addr} {o : HO} (h : H p = none) : Same H (upd H p o) := by
  intro b u e
  rw [upd_ne (ne_of_none e h)]
  exact e
mutual
theorem Rep.mono (e : Same H H') : ∀ {v : V} {d : PD}, Rep K H v d → Rep K H' v d
  | _, _, .non => .non
  | _, _, .bl b => .bl b
  | _, _, .int i => .int i
  | _, _, .str s h => .str s h
  | _, _, .lst z h r => .lst z (Same.sql e h) (RepL.mono e r)
  | _, _, .tup z h r => .tup z (Same.sqt e h) (RepL.mono e r)
  | _, _, .dct h r => .dct (e _ _ h) r
theorem RepL.mono (e : Same H H') : ∀ {vs : List V} {ds : List PD}, RepL K H vs ds → RepL K H' vs ds
  | _, _, .nil => .nil
  | _, _, .cons h r => .cons (Rep.mono e h) (RepL.mono e r)
end
theorem RepL.len : ∀ {vs : List V} {ds : List PD}, RepL K H vs ds → vs.length = ds.length
  | _, _, .nil => rfl
  | _, _, .cons _ r => by rw [List.length_cons, List.length_cons, RepL.len r]
theorem RepL.at : ∀ {vs : List V} {ds : List PD} {i : Nat} {v : V}, RepL K H vs ds → vs[i]? = some v → ∃ d, ds[i]? = some d ∧ Rep K H v d
  | _, _, _, _, .nil, h => by simp at h
  | _, _, 0, _, .cons h _, e => by
    simp at e
    subst e
    exact ⟨_, rfl, h⟩
  | _, _, i + 1, _, .cons _ r, e => by
    obtain ⟨d, h1, h2⟩ := RepL.at (i := i) r (by simpa using e)
    exact ⟨d, by simpa using h1, h2⟩
theorem RepL.get : ∀ {vs : List V} {ds : List PD} {i : Nat} {d : PD}, RepL K H vs ds → ds[i]? = some d → ∃ v, vs[i]? = some v ∧ Rep K H v d
  | _, _, _, _, .nil, h => by simp at h
  | _, _, 0, _, .cons h _, e => by
    simp at e
    subst e
    exact ⟨_, rfl, h⟩
  | _, _, i + 1, _, .cons _ r, e => by
    obtain ⟨d, h1, h2⟩ := RepL.get (i := i) r (by simpa using e)
    exact ⟨d, by simpa using h1, h2⟩
theorem RepL.snoc : ∀ {vs : List V} {ds : List PD} {v : V} {d : PD}, RepL K H vs ds → Rep K H v d → RepL K H (vs ++ [v]) (ds ++ [d])
  | _, _, _, _, .nil, h => .cons h .nil
  | _, _, _, _, .cons a r, h => .cons a (RepL.snoc r h)
theorem deepL_at : ∀ {ds : List PD} {i : Nat} {d : PD}, ds[i]? = some d → d.deep ≤ PD.deepL ds
  | [], _, _, h => by simp at h
  | x :: r, 0, d, h => by
    simp at h
    subst h
    exact Nat.le_max_left _ _
  | x :: r, i + 1, d, h => Nat.le_trans (deepL_at (i := i) (by simpa using h)) (Nat.le_max_right _ _)
theorem Rep.inv_non {v : V} (h : Rep K H v .non) : v = .non := by cases h; rfl
theorem Rep.inv_bl {v : V} {b : Bool} (h : Rep K H v (.bl b)) : v = .bl b := by cases h; rfl
theorem Rep.inv_int {v : V} {i : Int} (h : Rep K H v (.int i)) : v = .int i := by cases h; rfl
theorem Rep.inv_str {v : V} {s : Str} (h : Rep K H v (.str s)) : v = .str s ∧ s.length ≤ 100000 := by cases h; exact ⟨rfl, by assumption⟩
theorem Rep.inv_lst {v : V} {l : List PD} (h : Rep K H v (.lst l)) : ∃ a xs, v = .ref a ∧ SqL K H a xs ∧ RepL K H xs l ∧ l.length ≤ 100000 := by cases h; exact ⟨_, _, rfl, by assumption, by assumption, by assumption⟩
theorem Rep.inv_tup {v : V} {l : List PD} (h : Rep K H v (.tup l)) : ∃ a xs, v = .ref a ∧ SqT K H a xs ∧ RepL K H xs l ∧ l.length ≤ 100000 := by cases h; exact ⟨_, _, rfl, by assumption, by assumption, by assumption⟩
theorem Rep.inv_dct {v : V} {l : List (Key × V)} (h : Rep K H v (.dct l)) : ∃ a, v = .ref a ∧ H a = some (.dK l) ∧ ∀ p ∈ l, ∃ d, PD.ofV p.2 = some d ∧ ∀ s, d = .str s → s.length ≤ 100000 := by cases h; exact ⟨_, rfl, by assumption, by assumption⟩
/-- a scalar stands for itself, whatever the heap -/
theorem rep_ofV {v : V} {d : PD} (h : PD.ofV v = some d) (hs : ∀ s, d = .str s → s.length ≤ 100000) : Rep K H v d ∧ d.deep = 0 := by
  cases v <;> simp only [PD.ofV] at h <;> first | (cases h; done) | skip
  · cases h
    exact ⟨.non, rfl⟩
  · cases h
    exact ⟨.bl _, rfl⟩
  · cases h
    exact ⟨.int _, rfl⟩
  · cases h
    exact ⟨.str _ (hs _ rfl), rfl⟩
/-- a value's type -/
theorem Rep.tyx {v : V} {d : PD} (h : Rep K H v d) : TyX K H v (.type d.ty) := by
  cases h with
  | non => exact .base .non
  | bl b => exact .base (.bl b)
  | int i => exact .base (.int i)
  | str s h => exact .base (.str s)
  | lst z h r =>
    rcases h with (h | ⟨o, h⟩) | ⟨o, its, n, h, c, _⟩
    · exact .base (.lst h)
    · exact .base (.frz h)
    · exact .kList h c
  | tup z h r =>
    rcases h with (h | ⟨o, h⟩) | ⟨o, its, n, h, c, _⟩
    · exact .base (.tup h)
    · exact .fTuple h
    · exact .kTuple h c
  | dct h r =>
    exact .base (.dK h)
/-- isinstance(x, T) -/
theorem isi_of {v : V} {d : PD} {n : String} {b : Bool} {Q : VK} (r : Rep K H v d) (hb : kitB d.ty n = some b) (q : Q (.bl b) H) : rIsi K [v, .ty n] H Q :=
  ⟨v, .ty n, _, _, b, rfl, .ty n, r.tyx, kit_ty hb, q⟩
theorem isiT_of {v : V} {d : PD} {n m : String} {b c : Bool} {Q : VK} {tp : Addr} (r : Rep K H v d) (ht : H tp = some (.tup [.ty n, .ty m])) (hb : kitB d.ty n = some b) (hc : kitB d.ty m = some c) (q : Q (.bl (b || c)) H) : rIsiT K [v, .ref tp] H Q := by
  refine ⟨v, tp, _, _, [.type n, .type m], b || c, rfl, ht, .cons (.ty n) (.cons (.ty m) .nil), r.tyx, ?_, q⟩
  refine kitAny_cons (kit_ty hb) (fun e => ?_) (fun e => by rw [e] <;> rfl)
  refine kitAny_cons (kit_ty hc) (fun e2 => ?_) (fun e2 => by rw [e, e2] <;> rfl)
  rw [e, e2]
  rfl
def PD.isInt : PD → Bool
  | .int _ => true | .bl _ => true | _ => false
def PD.isBool : PD → Bool
  | .bl _ => true | _ => false
def PD.isStr : PD → Bool
  | .str _ => true | _ => false
def PD.isLst : PD → Bool
  | .lst _ => true | _ => false
def PD.isTup : PD → Bool
  | .tup _ => true | _ => false
def PD.isDct : PD → Bool
  | .dct _ => true | _ => false
def PD.isSeq : PD → Bool
  | .lst _ => true | .tup _ => true | _ => false
theorem kit_int (d : PD) : kitB d.ty "int" = some d.isInt := by cases d <;> dsimp only [PD.ty, PD.isInt, PD.isBool, PD.isStr, PD.isLst, PD.isTup, PD.isDct] <;> decide +kernel
theorem kit_bool (d : PD) : kitB d.ty "bool" = some d.isBool := by cases d <;> dsimp only [PD.ty, PD.isInt, PD.isBool, PD.isStr, PD.isLst, PD.isTup, PD.isDct] <;> decide +kernel
theorem kit_str (d : PD) : kitB d.ty "str" = some d.isStr := by cases d <;> dsimp only [PD.ty, PD.isInt, PD.isBool, PD.isStr, PD.isLst, PD.isTup, PD.isDct] <;> decide +kernel
theorem kit_lst (d : PD) : kitB d.ty "list" = some d.isLst := by cases d <;> dsimp only [PD.ty, PD.isInt, PD.isBool, PD.isStr, PD.isLst, PD.isTup, PD.isDct] <;> decide +kernel
theorem kit_tup (d : PD) : kitB d.ty "tuple" = some d.isTup := by cases d <;> dsimp only [PD.ty, PD.isInt, PD.isBool, PD.isStr, PD.isLst, PD.isTup, PD.isDct] <;> decide +kernel
theorem kit_dct (d : PD) : kitB d.ty "dict" = some d.isDct := by cases d <;> dsimp only [PD.ty, PD.isInt, PD.isBool, PD.isStr, PD.isLst, PD.isTup, PD.isDct] <;> decide +kernel
section
variable {v : V} {d : PD} {Q : VK}
theorem isi_int (r : Rep K H v d) (q : Q (.bl d.isInt) H) : Hold (rIsi K [v, .ty "int"] H Q) := .mk (isi_of r (kit_int d) q)
theorem isi_bool (r : Rep K H v d) (q : Q (.bl d.isBool) H) : Hold (rIsi K [v, .ty "bool"] H Q) := .mk (isi_of r (kit_bool d) q)
theorem isi_str (r : Rep K H v d) (q : Q (.bl d.isStr) H) : Hold (rIsi K [v, .ty "str"] H Q) := .mk (isi_of r (kit_str d) q)
theorem isi_lst (r : Rep K H v d) (q : Q (.bl d.isLst) H) : Hold (rIsi K [v, .ty "list"] H Q) := .mk (isi_of r (kit_lst d) q)
theorem isi_tup (r : Rep K H v d) (q : Q (.bl d.isTup) H) : Hold (rIsi K [v, .ty "tuple"] H Q) := .mk (isi_of r (kit_tup d) q)
theorem isi_dct (r : Rep K H v d) (q : Q (.bl d.isDct) H) : Hold (rIsi K [v, .ty "dict"] H Q) := .mk (isi_of r (kit_dct d) q)
/-- isinstance(x, (list, tuple)), the pair laid anew -/
theorem isi_seq (r : Rep K H v d) (q : ∀ H', Same H H' → Q (.bl d.isSeq) H') : ∀ p, H p = none → Hold (rIsiT K [v, .ref p] (upd H p (.tup [.ty "list", .ty "tuple"])) Q) := by
  refine fun p hp => .mk ?_
  refine isiT_of (r.mono (same_new hp)) upd_same (kit_lst d) (kit_tup d) ?_
  have e : (d.isLst || d.isTup) = d.isSeq := by cases d <;> rfl
  rw [e]
  exact q _ (same_new hp)
end
theorem if_t {c : Bool} {A B : Prop} (hc : c = true) (h : A) : if c = true then A else B := by
  rw [if_pos hc]
  exact h
theorem if_f {c : Bool} {A B : Prop} (hc : c = false) (h : B) : if c = true then A else B := by
  rw [hc, if_neg Bool.false_ne_true]
  exact h
theorem if_b {c : Bool} {A B : Prop} (h1 : c = true → A) (h2 : c = false → B) : if c = true then A else B := by
  cases c with
  | true => exact if_t rfl (h1 rfl)
  | false => exact if_f rfl (h2 rfl)
theorem eu_of {A : Around} {k : Nat} (hr : Room k A) : A.units + 64 < cLine := by
  have := hr.un
  omega
theorem eu1_of {A : Around} {k : Nat} (hr : Room k A) : A.units + 65 < cLine := by
  have := hr.un
  omega
end
end GB

/-! The layer's rules with the written part said outright, so that they serve within comprehensions. -/
namespace GB
open PySem PySem.Spec PyProof.Rows L2
section
variable {X : Cx} (K : PySem.W.Frag)
def wR (r : R2) : R2 := fun x y H Q => Hold (r x y H Q)
def wC (r : List V → Hp → VK → Prop) : List V → Hp → VK → Prop := fun xs H Q => Hold (r xs H Q)
def wS (r : V → Option Int → Option Int → Hp → VK → Prop) : V → Option Int → Option Int → Hp → VK → Prop := fun x lo hi H Q => Hold (r x lo hi H Q)
theorem IxR.w {r : R2} (h : IxR X r) : IxR X (wR r) := fun value slice pins s σ H x y v u Q I rx ry q hs => h value slice pins s σ H x y v u Q I rx ry q.h hs
theorem OpR.w {f : Value → Value → Sem Value} {r : R2} (h : OpR X f r) : OpR X f (wR r) := fun pins s σ H x y v u Q I rx ry q => h pins s σ H x y v u Q I rx ry q.h
theorem CallR.w {f : Value} {r : List V → Hp → VK → Prop} (h : CallR X f r) : CallR X f (wC r) := fun pins s σ H xs us Q I r q => h pins s σ H xs us Q I r q.h
theorem SlR.w {r : V → Option Int → Option Int → Hp → VK → Prop} (h : SlR X r) : SlR X (wS r) := fun pins s σ H x v vl vu lo hi sl Q I rx hs hl hu q => h pins s σ H x v vl vu lo hi sl Q I rx hs hl hu q.h
theorem ixL (h : X.K = K := by rfl) : IxR X (wR (rIxL K)) := IxR.w (h ▸ ix_list)
theorem ixT (h : X.K = K := by rfl) : IxR X (wR (rIxT K)) := IxR.w (h ▸ ix_tup)
theorem ixQ (h : X.K = K := by rfl) : IxR X (wR (rIx K)) := IxR.w (h ▸ ix_seq)
theorem slL (h : X.K = K := by rfl) : SlR X (wS (rSlL K)) := SlR.w (h ▸ sl_list)
theorem slT (h : X.K = K := by rfl) : SlR X (wS (rSlT K)) := SlR.w (h ▸ sl_tup)
def rLenA (K : PySem.W.Frag) : List V → Hp → VK → Prop := fun xs H Q => ∃ x n, xs = [x] ∧ (LenV K x H n ∨ ∃ a kvs, x = .ref a ∧ H a = some (.dK kvs) ∧ n = kvs.length) ∧ Q (.int n) H
theorem clLen (h : X.K = K := by rfl) : CallR X (.builtin "len") (wC (rLenA K)) := by
  subst h
  intro pins s σ H xs us Q I r q
  replace q := q.h
  obtain ⟨x, n, rfl, q | ⟨a, kvs, rfl, ha, rfl⟩, z⟩ := q
  · exact call_len pins s σ H [x] us Q I r ⟨x, n, rfl, q, z⟩
  · exact call_lenD pins s σ H _ us Q I r ⟨a, kvs, rfl, ha, z⟩
theorem clSum (hc : X.calm = true := by rfl) (h : X.K = K := by rfl) : CallR X (.builtin "sum") (wC (rSum K)) := CallR.w (h ▸ cr_sum hc)
theorem clMin (hc : X.calm = true := by rfl) (h : X.K = K := by rfl) : CallR X (.builtin "min") (wC (rMin K)) := CallR.w (h ▸ cr_min hc)
theorem clMax (hc : X.calm = true := by rfl) (h : X.K = K := by rfl) : CallR X (.builtin "max") (wC (rMax K)) := CallR.w (h ▸ cr_max hc)
theorem clAll (hc : X.calm = true := by rfl) (h : X.K = K := by rfl) : CallR X (.builtin "all") (wC (rAll K)) := CallR.w (h ▸ cr_all hc)
theorem clAny (hc : X.calm = true := by rfl) (h : X.K = K := by rfl) : CallR X (.builtin "any") (wC (rAny K)) := CallR.w (h ▸ cr_any hc)
theorem clIsi (h : X.K = K := by rfl) : CallR X (.builtin "isinstance") (wC (rIsi K)) := CallR.w (h ▸ call_isi)
theorem clIsiT (h : X.K = K := by rfl) : CallR X (.builtin "isinstance") (wC (rIsiT K)) := CallR.w (h ▸ call_isiT)
theorem opIn (h : X.K = K := by rfl) : OpR X (compareOp .In) (wR (rIn K false)) := OpR.w (h ▸ op_in_seq)
theorem opNotIn (h : X.K = K := by rfl) : OpR X (compareOp .NotIn) (wR (rIn K true)) := OpR.w (h ▸ op_notIn_seq)
theorem opEqD {k : Nat} (hr : Room k X.A) (h : X.K = K := by rfl) : OpR X (compareOp .Eq) (wR (rEqD K)) := OpR.w (h ▸ op_eqD (eu_of hr))
theorem opNeD {k : Nat} (hr : Room k X.A) (h : X.K = K := by rfl) : OpR X (compareOp .NotEq) (wR (rNeD K)) := OpR.w (h ▸ op_neD (eu_of hr))
theorem opCatA (h : X.K = K := by rfl) : OpR X (binaryOp .Add) (wR (rCatA K)) := OpR.w (h ▸ op_catA)
def rListOf (K : PySem.W.Frag) : List V → Hp → VK → Prop := fun xs H Q => ∃ p ys, xs = [.ref p] ∧ (SqL K H p ys ∨ SqT K H p ys) ∧ ∀ l, H l = none → Q (.ref l) (upd H l (.lst ys))
theorem clList (h : X.K = K := by rfl) : CallR X (.type "list") (wC (rListOf K)) := by
  subst h
  exact CallR.w call_list_of
def rTupOf (K : PySem.W.Frag) : List V → Hp → VK → Prop := fun xs H Q => ∃ p ys, xs = [.ref p] ∧ ((SqL K H p ys ∧ ∀ l, H l = none → Q (.ref l) (upd H l (.tup ys))) ∨ SqT K H p ys ∧ Q (.ref p) H)
theorem clTup (h : X.K = K := by rfl) : CallR X (.type "tuple") (wC (rTupOf K)) := by
  subst h
  exact CallR.w call_tuple_of
theorem mtIndex (h : X.K = K := by rfl) : MtR X "list.index" (rIndex K) := h ▸ mt_index
theorem piL {tg l : Expr} {tl : TE} (hp : PE X l tl) (h : X.K = K := by rfl) : PI X tg l (iList K tl) := h ▸ pi_list hp
theorem piT {tg l : Expr} {tl : TE} (hp : PE X l tl) (h : X.K = K := by rfl) : PI X tg l (iTup K tl) := h ▸ pi_tup hp
/-- a list or a tuple is walked -/
def iSeq (K : PySem.W.Frag) (tl : TE) : TI := fun σ H R => Hold (iList K tl σ H R ∨ iTup K tl σ H R)
theorem piQ {tg l : Expr} {tl : TE} (hp : PE X l tl) (h : X.K = K := by rfl) : PI X tg l (iSeq K tl) := by
  subst h
  exact ⟨fun pins s σ H R I q => by
    rcases q.h with q | q
    · exact (pi_list hp).run pins s σ H R I q
    · exact (pi_tup hp).run pins s σ H R I q⟩
theorem piEnum {e : Expr} {ta : TA} {p pos tpos : Pos} {elts : List Expr} {kk : Nat} (hg : Gl X "enumerate") (hm : X.mg "enumerate" = none) (ha : PA X [e] ta) (he : starEach [e] X.env = [(false, eval e X.env)] := by rfl) (h : X.K = K := by rfl) :
    PI X (.Tuple elts kk tpos) (.Call (.Name "enumerate" p) [e] [] pos) (iEnum K ta) := h ▸ pi_enum hg hm ha he
theorem piZip {e e2 : Expr} {ta : TA} {p pos tpos : Pos} {elts : List Expr} {kk : Nat} (hg : Gl X "zip") (hm : X.mg "zip" = none) (ha : PA X [e, e2] ta) (he : starEach [e, e2] X.env = (false, eval e X.env) :: starEach [e2] X.env := by rfl)
    (hpl : (backTo pos (starEach [e2] X.env)).any (·.1) = false := by rfl) (h : X.K = K := by rfl) : PI X (.Tuple elts kk tpos) (.Call (.Name "zip" p) [e, e2] [] pos) (iZip K ta) := h ▸ pi_zip hg hm ha he hpl
theorem pgTup {pos : Pos} {es : List Expr} {k : Nat} {t : TGs} {n : Nat} (hc : X.calm = true) (hs : PGs X es t) (hn : (assignEach es X.env).length = n := by rfl) (hp : (assignEach es X.env).findIdx? (·.1) = none := by rfl) (h : X.K = K := by rfl) :
    PG X (.Tuple es k pos) (gTup K n t) := h ▸ pg_tup hc hs hn hp
def tTruth (K : PySem.W.Frag) (ta : TE) : TT := fun σ H Q => ta σ H fun x H' => ∃ k, TruV K x H' k ∧ Q k H'
theorem ptTruth {a : Expr} {ta : TE} (ha : PE X a ta) (ht : ∀ whole : Sem Value, isTrue a X.env whole = (do let v ← whole; standAt a.pos; holding [v] (truthy v)) := by intro _; rfl) (h : X.K = K := by rfl) : PT X a (tTruth K ta) := by
  subst h
  exact pt_truth ha ht
/-! ### the readings' answers -/
section
variable {K : PySem.W.Frag} {H : Hp} {Q : VK}
theorem len_l {a : Addr} {xs : List V} (h : SqL K H a xs) (q : Q (.int xs.length) H) : Hold (rLenA K [.ref a] H Q) := .mk ⟨_, _, rfl, .inl (.inl ⟨_, h, rfl⟩), q⟩
theorem len_t {a : Addr} {xs : List V} (h : SqT K H a xs) (q : Q (.int xs.length) H) : Hold (rLenA K [.ref a] H Q) := .mk ⟨_, _, rfl, .inl (.inr ⟨_, h, rfl⟩), q⟩
theorem len_s {z : Str} (h : z.length ≤ sizeLine) (q : Q (.int z.length) H) : Hold (rLenA K [.str z] H Q) := .mk ⟨_, _, rfl, .inl ⟨h, rfl⟩, q⟩
theorem len_d {a : Addr} {kvs : List (Key × V)} (h : H a = some (.dK kvs)) (q : Q (.int kvs.length) H) : Hold (rLenA K [.ref a] H Q) := .mk ⟨_, _, rfl, .inr ⟨_, _, rfl, h, rfl⟩, q⟩
theorem atI_ok {α : Type} {xs : List α} {i : Int} {v : α} (h0 : 0 ≤ i) (h : xs[i.toNat]? = some v) : atI xs i = some v := by
  have lt : i.toNat < xs.length := (List.getElem?_eq_some_iff.mp h).1
  unfold atI ixN
  rw [if_pos h0, if_pos (by omega)]
  exact h
theorem ix_l {a : Addr} {xs : List V} {i : Int} {v : V} (h : SqL K H a xs) (hv : atI xs i = some v) (q : Q v H) : Hold (rIxL K (.ref a) (.int i) H Q) := .mk ⟨_, _, _, _, rfl, rfl, h, hv, q⟩
theorem ix_t {a : Addr} {xs : List V} {i : Int} {v : V} (h : SqT K H a xs) (hv : atI xs i = some v) (q : Q v H) : Hold (rIxT K (.ref a) (.int i) H Q) := .mk ⟨_, _, _, _, rfl, rfl, h, hv, q⟩
theorem ixq_l {a : Addr} {xs : List V} {i : Int} {v : V} (h : SqL K H a xs) (hv : atI xs i = some v) (q : Q v H) : Hold (rIx K (.ref a) (.int i) H Q) := .mk (.inl ⟨_, _, _, _, rfl, rfl, h, hv, q⟩)
theorem ixq_t {a : Addr} {xs : List V} {i : Int} {v : V} (h : SqT K H a xs) (hv : atI xs i = some v) (q : Q v H) : Hold (rIx K (.ref a) (.int i) H Q) := .mk (.inr (.inl ⟨_, _, _, _, rfl, rfl, h, hv, q⟩))
theorem ixq_s {z : Str} {i : Int} {c : Nat} (hl : z.length ≤ sizeLine) (hv : atI z.cps.toList i = some c) (q : Q (.str ⟨#[c]⟩) H) : Hold (rIx K (.str z) (.int i) H Q) := .mk (.inr (.inr ⟨_, _, _, rfl, rfl, hl, hv, q⟩))
theorem sl_l {a : Addr} {xs : List V} {lo hi : Option Int} (h : SqL K H a xs) (q : ∀ p, H p = none → Q (.ref p) (upd H p (.lst (cutV xs lo hi)))) : Hold (rSlL K (.ref a) lo hi H Q) := .mk ⟨_, _, rfl, h, q⟩
theorem sum_l {a : Addr} {ns : List Int} (h : SqL K H a (ns.map V.int)) (q : Q (.int ns.sum) H) : Hold (rSum K [.ref a] H Q) := .mk ⟨_, _, rfl, h, q⟩
theorem min_l {a : Addr} {ns : List Int} (h : SqL K H a (ns.map V.int)) (h0 : 0 < ns.length) (q : ∀ m, m ∈ ns → (∀ y, y ∈ ns → m ≤ y) → Q (.int m) H) : Hold (rMin K [.ref a] H Q) := .mk ⟨_, _, rfl, h, h0, q⟩
theorem all_l {a : Addr} {bs : List Bool} (h : SqL K H a (bs.map V.bl)) (q : Q (.bl (bs.all id)) H) : Hold (rAll K [.ref a] H Q) := .mk ⟨_, _, rfl, h, q⟩
theorem sz (n : Nat) (h : n ≤ 100000) : n ≤ sizeLine := Nat.le_trans h (by rw [sizeLine_eq]; decide)
theorem szl (n : Nat) (h : n < 100000) : n < sizeLine := Nat.lt_of_lt_of_le h (by rw [sizeLine_eq]; decide)
/-- two empty lists are equal -/
theorem eq_nil {a b : Addr} (ha : SqL K H a []) (hb : SqL K H b []) (q : Q (.bl true) H) : Hold (rEqD K (.ref a) (.ref b) H Q) := .mk ⟨.list [], .list [], .lst ha .nil, .lst hb .nil, rfl, rfl, q⟩
theorem sl_s {z : Str} {lo hi : Option Int} (hz : z.length ≤ sizeLine) (q : Q (.str (cutS z lo hi)) H) : rSlS (.str z) lo hi H Q := ⟨z, rfl, hz, q⟩
/-- one sign cut out -/
theorem cut_one {z : Str} {i : Nat} {c : Nat} (h : z.cps.toList[i]? = some c) : cutS z (some (i : Int)) (some ((i : Int) + 1)) = ⟨#[c]⟩ := by
  have lt : i < z.cps.toList.length := (List.getElem?_eq_some_iff.mp h).1
  have ev := (List.getElem?_eq_some_iff.mp h).2
  have l2 : z.length = z.cps.toList.length := by show z.cps.size = _; rw [Array.length_toList]
  unfold cutS
  have e1 : ((i : Int) + 1) = ((i + 1 : Nat) : Int) := by omega
  rw [e1, HT.sIx_nat, HT.sIx_nat, l2, Nat.min_eq_left (by omega), Nat.min_eq_left (by omega), Nat.add_sub_cancel_left]
  have e2 : List.take 1 (List.drop i z.cps.toList) = [c] := by
    rw [List.drop_eq_getElem_cons lt, List.take_succ_cons, List.take_zero, ev]
  rw [e2]
end
def tJoin (K : PySem.W.Frag) (to te : TE) : TE := tM1 (fun x xs H Q => ∃ a p ys, x = .str a ∧ xs = [.ref p] ∧ (SqL K H p (ys.map V.str) ∨ SqT K H p (ys.map V.str)) ∧ (ys.map (·.length)).sum + ys.length * a.length ≤ 16777216 ∧ Q (.str (Txt.join a ys)) H) to te
end
end GB

namespace K30
open PySem PySem.Spec PyProof.Rows L2 GB
def top (i : Nat) : Stmt := PySem.Challenge.pw_diffcompiler_k30_rounds_alike.main.body.getD i (.Pass ⟨0, 0, 0, 0⟩)
abbrev s_InvalidCosts_init : Stmt := inClass (top 2) 0
theorem sc_InvalidCosts_init : FnScope ["self", "given"] ["self", "given"] (defScope s_InvalidCosts_init) := ⟨rfl, rfl, rfl, by decide +kernel, rfl, by decide +kernel, by decide +kernel⟩
abbrev s_InvalidNumber_init : Stmt := inClass (top 3) 0
theorem sc_InvalidNumber_init : FnScope ["self", "given"] ["self", "given"] (defScope s_InvalidNumber_init) := ⟨rfl, rfl, rfl, by decide +kernel, rfl, by decide +kernel, by decide +kernel⟩
abbrev s_InvalidSlots_init : Stmt := inClass (top 4) 0
theorem sc_InvalidSlots_init : FnScope ["self", "given"] ["self", "given"] (defScope s_InvalidSlots_init) := ⟨rfl, rfl, rfl, by decide +kernel, rfl, by decide +kernel, by decide +kernel⟩
abbrev s_is_integer : Stmt := top 6
theorem sc_is_integer : FnScope ["value"] ["value"] (defScope s_is_integer) := ⟨rfl, rfl, rfl, by decide +kernel, rfl, by decide +kernel, by decide +kernel⟩
theorem bd_is_integer : Bd "is_integer" s_is_integer ["value"] := fun _ _ _ _ _ _ us hl => match us, hl with | [_], _ => rfl
abbrev s_is_between : Stmt := top 7
theorem sc_is_between : FnScope ["value", "low", "high"] ["value", "low", "high"] (defScope s_is_between) := ⟨rfl, rfl, rfl, by decide +kernel, rfl, by decide +kernel, by decide +kernel⟩
theorem bd_is_between : Bd "is_between" s_is_between ["value", "low", "high"] := fun _ _ _ _ _ _ us hl => match us, hl with | [_, _, _], _ => rfl
abbrev s_is_list : Stmt := top 8
theorem sc_is_list : FnScope ["value"] ["value"] (defScope s_is_list) := ⟨rfl, rfl, rfl, by decide +kernel, rfl, by decide +kernel, by decide +kernel⟩
theorem bd_is_list : Bd "is_list" s_is_list ["value"] := fun _ _ _ _ _ _ us hl => match us, hl with | [_], _ => rfl
abbrev s_are_costs : Stmt := top 13
theorem sc_are_costs : FnScope ["value", "cost"] ["value"] (defScope s_are_costs) := ⟨rfl, rfl, rfl, by decide +kernel, rfl, by decide +kernel, by decide +kernel⟩
theorem bd_are_costs : Bd "are_costs" s_are_costs ["value"] := fun _ _ _ _ _ _ us hl => match us, hl with | [_], _ => rfl
abbrev s_check_costs : Stmt := top 14
theorem sc_check_costs : FnScope ["costs"] ["costs"] (defScope s_check_costs) := ⟨rfl, rfl, rfl, by decide +kernel, rfl, by decide +kernel, by decide +kernel⟩
theorem bd_check_costs : Bd "check_costs" s_check_costs ["costs"] := fun _ _ _ _ _ _ us hl => match us, hl with | [_], _ => rfl
abbrev s_check_slots : Stmt := top 15
theorem sc_check_slots : FnScope ["c"] ["c"] (defScope s_check_slots) := ⟨rfl, rfl, rfl, by decide +kernel, rfl, by decide +kernel, by decide +kernel⟩
theorem bd_check_slots : Bd "check_slots" s_check_slots ["c"] := fun _ _ _ _ _ _ us hl => match us, hl with | [_], _ => rfl
abbrev s_lone_row : Stmt := top 19
theorem sc_lone_row : FnScope ["costs", "first", "found", "ahead", "cost"] ["costs", "first"] (defScope s_lone_row) := ⟨rfl, rfl, rfl, by decide +kernel, rfl, by decide +kernel, by decide +kernel⟩
theorem bd_lone_row : Bd "lone_row" s_lone_row ["costs", "first"] := fun _ _ _ _ _ _ us hl => match us, hl with | [_, _], _ => rfl
abbrev s_split_costs : Stmt := top 20
theorem sc_split_costs : FnScope ["costs", "fewer", "same", "first", "many", "found", "ahead", "part"] ["costs", "fewer", "same", "first", "many"] (defScope s_split_costs) := ⟨rfl, rfl, rfl, by decide +kernel, rfl, by decide +kernel, by decide +kernel⟩
theorem bd_split_costs : Bd "split_costs" s_split_costs ["costs", "fewer", "same", "first", "many"] := fun _ _ _ _ _ _ us hl => match us, hl with | [_, _, _, _, _], _ => rfl
abbrev s_table_of : Stmt := top 21
theorem sc_table_of : FnScope ["costs", "c", "rounds", "found", "_", "rows", "first", "row", "many"] ["costs", "c"] (defScope s_table_of) := ⟨rfl, rfl, rfl, by decide +kernel, rfl, by decide +kernel, by decide +kernel⟩
theorem bd_table_of : Bd "table_of" s_table_of ["costs", "c"] := fun _ _ _ _ _ _ us hl => match us, hl with | [_, _], _ => rfl
abbrev s_least_cost : Stmt := top 22
theorem sc_least_cost : FnScope ["costs", "c"] ["costs", "c"] (defScope s_least_cost) := ⟨rfl, rfl, rfl, by decide +kernel, rfl, by decide +kernel, by decide +kernel⟩
theorem bd_least_cost : Bd "least_cost" s_least_cost ["costs", "c"] := fun _ _ _ _ _ _ us hl => match us, hl with | [_, _], _ => rfl
abbrev s_choices : Stmt := top 23
theorem sc_choices : FnScope ["many", "some", "found", "at"] ["many", "some"] (defScope s_choices) := ⟨rfl, rfl, rfl, by decide +kernel, rfl, by decide +kernel, by decide +kernel⟩
theorem bd_choices : Bd "choices" s_choices ["many", "some"] := fun _ _ _ _ _ _ us hl => match us, hl with | [_, _], _ => rfl
abbrev s_least_runs : Stmt := top 24
theorem sc_least_runs : FnScope ["rounds", "c", "low", "high", "middle"] ["rounds", "c"] (defScope s_least_runs) := ⟨rfl, rfl, rfl, by decide +kernel, rfl, by decide +kernel, by decide +kernel⟩
theorem bd_least_runs : Bd "least_runs" s_least_runs ["rounds", "c"] := fun _ _ _ _ _ _ us hl => match us, hl with | [_, _], _ => rfl
abbrev s_alike_in : Stmt := top 25
theorem sc_alike_in : FnScope ["rounds", "c", "runs"] ["rounds", "c"] (defScope s_alike_in) := ⟨rfl, rfl, rfl, by decide +kernel, rfl, by decide +kernel, by decide +kernel⟩
theorem bd_alike_in : Bd "alike_in" s_alike_in ["rounds", "c"] := fun _ _ _ _ _ _ us hl => match us, hl with | [_, _], _ => rfl
abbrev s_alike : Stmt := top 26
theorem sc_alike : FnScope ["l", "c"] ["l", "c"] (defScope s_alike) := ⟨rfl, rfl, rfl, by decide +kernel, rfl, by decide +kernel, by decide +kernel⟩
theorem bd_alike : Bd "alike" s_alike ["l", "c"] := fun _ _ _ _ _ _ us hl => match us, hl with | [_, _], _ => rfl
abbrev s_reach : Stmt := top 27
theorem sc_reach : FnScope ["c", "r"] ["c", "r"] (defScope s_reach) := ⟨rfl, rfl, rfl, by decide +kernel, rfl, by decide +kernel, by decide +kernel⟩
theorem bd_reach : Bd "reach" s_reach ["c", "r"] := fun _ _ _ _ _ _ us hl => match us, hl with | [_, _], _ => rfl
abbrev s__law_cell : Stmt := top 29
theorem sc__law_cell : FnScope ["script", "k"] ["script", "k"] (defScope s__law_cell) := ⟨rfl, rfl, rfl, by decide +kernel, rfl, by decide +kernel, by decide +kernel⟩
theorem bd__law_cell : Bd "_law_cell" s__law_cell ["script", "k"] := fun _ _ _ _ _ _ us hl => match us, hl with | [_, _], _ => rfl
abbrev s__law_box : Stmt := top 30
theorem sc__law_box : FnScope ["great"] ["great"] (defScope s__law_box) := ⟨rfl, rfl, rfl, by decide +kernel, rfl, by decide +kernel, by decide +kernel⟩
theorem bd__law_box : Bd "_law_box" s__law_box ["great"] := fun _ _ _ _ _ _ us hl => match us, hl with | [_], _ => rfl
abbrev s__law_take : Stmt := top 31
theorem sc__law_take : FnScope ["box", "many", "digit", "mixed"] ["box", "many"] (defScope s__law_take) := ⟨rfl, rfl, rfl, by decide +kernel, rfl, by decide +kernel, by decide +kernel⟩
theorem bd__law_take : Bd "_law_take" s__law_take ["box", "many"] := fun _ _ _ _ _ _ us hl => match us, hl with | [_, _], _ => rfl
abbrev s__law_mixed : Stmt := top 32
theorem sc__law_mixed : FnScope ["box", "items", "left", "found"] ["box", "items"] (defScope s__law_mixed) := ⟨rfl, rfl, rfl, by decide +kernel, rfl, by decide +kernel, by decide +kernel⟩
theorem bd__law_mixed : Bd "_law_mixed" s__law_mixed ["box", "items"] := fun _ _ _ _ _ _ us hl => match us, hl with | [_, _], _ => rfl
abbrev s__law_same : Stmt := top 33
theorem sc__law_same : FnScope ["told", "due", "k", "key"] ["told", "due"] (defScope s__law_same) := ⟨rfl, rfl, rfl, by decide +kernel, rfl, by decide +kernel, by decide +kernel⟩
theorem bd__law_same : Bd "_law_same" s__law_same ["told", "due"] := fun _ _ _ _ _ _ us hl => match us, hl with | [_, _], _ => rfl
abbrev s__law_grown : Stmt := top 34
theorem sc__law_grown : FnScope ["value"] ["value"] (defScope s__law_grown) := ⟨rfl, rfl, rfl, by decide +kernel, rfl, by decide +kernel, by decide +kernel⟩
theorem bd__law_grown : Bd "_law_grown" s__law_grown ["value"] := fun _ _ _ _ _ _ us hl => match us, hl with | [_], _ => rfl
abbrev s__law_table : Stmt := top 35
theorem sc__law_table : FnScope ["costs", "c", "many", "found", "slots", "rows", "size", "first", "sums", "k", "part"] ["costs", "c"] (defScope s__law_table) := ⟨rfl, rfl, rfl, by decide +kernel, rfl, by decide +kernel, by decide +kernel⟩
theorem bd__law_table : Bd "_law_table" s__law_table ["costs", "c"] := fun _ _ _ _ _ _ us hl => match us, hl with | [_, _], _ => rfl
abbrev s__law_ways : Stmt := top 36
theorem sc__law_ways : FnScope ["n", "k", "found", "j"] ["n", "k"] (defScope s__law_ways) := ⟨rfl, rfl, rfl, by decide +kernel, rfl, by decide +kernel, by decide +kernel⟩
theorem bd__law_ways : Bd "_law_ways" s__law_ways ["n", "k"] := fun _ _ _ _ _ _ us hl => match us, hl with | [_, _], _ => rfl
abbrev s__law_alike : Stmt := top 37
theorem sc__law_alike : FnScope ["many", "c", "low", "high", "turn", "middle"] ["many", "c"] (defScope s__law_alike) := ⟨rfl, rfl, rfl, by decide +kernel, rfl, by decide +kernel, by decide +kernel⟩
theorem bd__law_alike : Bd "_law_alike" s__law_alike ["many", "c"] := fun _ _ _ _ _ _ us hl => match us, hl with | [_, _], _ => rfl
abbrev s__law_met : Stmt := top 38
theorem sc__law_met : FnScope ["kind", "args", "by_name", "e"] ["kind", "args", "by_name"] (defScope s__law_met) := ⟨rfl, rfl, rfl, by decide +kernel, rfl, by decide +kernel, by decide +kernel⟩
theorem bd__law_met : Bd "_law_met" s__law_met ["kind", "args", "by_name"] := fun _ _ _ _ _ _ us hl => match us, hl with | [_, _, _], _ => rfl
abbrev s__law_numbers_right : Stmt := top 39
theorem sc__law_numbers_right : FnScope ["box", "by_name", "c", "r", "most", "rows", "many", "due"] ["box", "by_name"] (defScope s__law_numbers_right) := ⟨rfl, rfl, rfl, by decide +kernel, rfl, by decide +kernel, by decide +kernel⟩
theorem bd__law_numbers_right : Bd "_law_numbers_right" s__law_numbers_right ["box", "by_name"] := fun _ _ _ _ _ _ us hl => match us, hl with | [_, _], _ => rfl
abbrev s__law_few_right : Stmt := top 40
theorem sc__law_few_right : FnScope ["box", "by_name", "c", "many", "due"] ["box", "by_name"] (defScope s__law_few_right) := ⟨rfl, rfl, rfl, by decide +kernel, rfl, by decide +kernel, by decide +kernel⟩
theorem bd__law_few_right : Bd "_law_few_right" s__law_few_right ["box", "by_name"] := fun _ _ _ _ _ _ us hl => match us, hl with | [_, _], _ => rfl
abbrev s__law_refused_right : Stmt := top 41
theorem sc__law_refused_right : FnScope ["box", "by_name", "odd", "told", "kind", "good"] ["box", "by_name"] (defScope s__law_refused_right) := ⟨rfl, rfl, rfl, by decide +kernel, rfl, by decide +kernel, by decide +kernel⟩
theorem bd__law_refused_right : Bd "_law_refused_right" s__law_refused_right ["box", "by_name"] := fun _ _ _ _ _ _ us hl => match us, hl with | [_, _], _ => rfl
abbrev s_law : Stmt := top 42
theorem sc_law : FnScope ["script", "k", "box", "by_name", "turn"] ["script"] (defScope s_law) := ⟨rfl, rfl, rfl, by decide +kernel, rfl, by decide +kernel, by decide +kernel⟩
theorem bd_law : Bd "law" s_law ["script"] := fun _ _ _ _ _ _ us hl => match us, hl with | [_], _ => rfl
end K30

/-! Error classes of the program whose __init__ keeps its arguments. -/
namespace GB
open PySem PySem.Spec PyProof.Rows L2
/-- C.__init__(self, ..) of such a class: each argument is kept under the name of its parameter -/
def spInit (C : Addr) (fl : List Str) : Sp := fun vs H Q _ => ∃ (a : Addr) (ws : List V), vs = .ref a :: ws ∧ ws.length = fl.length ∧ H a = some (exo a C none) ∧
  ∀ (H' : Hp) (d : Addr), (∀ b, b ≠ a → b ≠ d → H' b = H b) → H d = none → d ≠ a → H' a = some (exo a C (some d)) → H' d = some (exd d (fl.zip ws).reverse) → Q .non H'
structure Er (P : Program) (w : World) (K : PySem.W.Frag) (mg : Str → Option Value) (base : Heap) (x : Str) (C : Addr) (fl : List Str) : Prop where
  oex : OexC K C
  ini : ∃ (fI : Addr) (fd : FuncData), PySem.W.findIn K (.ref C) "__init__" = some (some (.ref fI)) ∧ PySem.W.typeIn K (.ref fI) = some (.type "function") ∧ FnOk P w K mg base (L2.CX P w) 1 fI fd ("self" :: fl) (spInit C fl) ∧ Binds K fd ("self" :: fl) []
  gm : mg x = some (.ref C)
  xf : XfC K C
  no : ∀ f ∈ fl, PySem.W.findIn K (.ref C) f = some none
  few : fl.length ≤ 10
/-- raise X(e, ..) -/
def tRaiseEr (C : Addr) (fl : List Str) (W : WX) (ta : TA) : TS := fun _ σ H => ta σ H fun vs H1 => vs.length = fl.length ∧ ∀ (d : Addr) (H' : Hp), Same H1 H' → H1 d = none → H' d = some (.xd (fl.zip vs).reverse) → W (.ref C) (some d) σ H'
section
variable {X : Cx} {x : Str} {C : Addr} {fl : List Str} {k : Nat} {e : Expr} {es : List Expr} {ta : TA} {W : WX} {p pos pos2 : Pos}
/-- how the arguments' reading goes on -/
def MonoA (t : TA) : Prop := ∀ σ H (Q Q' : List V → Hp → Prop), (∀ vs H1, Q vs H1 → Q' vs H1) → t σ H Q → t σ H Q'
theorem ps_raiseEr (hc : X.calm = true) (T : Er X.prog X.w X.K X.mg X.base x C fl) (hr : Room 2 X.A) (tk : Takes X W) (ha : PA X (e :: es) ta) (hm : MonoA ta) (hg : Gl X x := by rfl) (hdb : (x == ("__debug__" : Str)) = false := by decide)
    (he : starEach (e :: es) X.env = (false, eval e X.env) :: starEach es X.env := by rfl) (hpl : (backTo pos (starEach es X.env)).any (·.1) = false := by rfl) :
    PS X (.Raise (some (.Call (.Name x p) (e :: es) [] pos)) none pos2) (tRaiseEr C fl W ta) := by
  obtain ⟨fI, fd, iC, tI, F, b⟩ := T.ini
  have base := ps_raise (pos := pos2) hc tk (pmk_oex (pos := pos) (p := p) T.oex iC tI F hr b .nil passL hg T.gm ha hdb he hpl)
  refine ⟨fun pins s σ H D I h => ?_⟩
  refine base.run pins s σ H D I ?_
  refine hm σ H _ _ ?_ h
  rintro vs H1 ⟨ln, q⟩
  refine ⟨by rw [ln]; exact Nat.le_trans T.few (by decide), fun a na => ?_⟩
  refine ⟨a, vs, by rw [List.append_nil], ln, upd_same, ?_⟩
  intro H' d off nd da ea ed
  have nd1 : H1 d = none := by rw [upd_ne da] at nd; exact nd
  refine ⟨rfl, d, _, ea, ed, nd1, q d _ ?_ nd1 upd_same⟩
  intro c o ec
  have ca : c ≠ a := ne_of_none ec na
  have cd : c ≠ d := ne_of_none ec nd1
  rw [upd_ne cd, del_ne ca, off c ca cd, upd_ne ca]
  exact ec
end
/-- the value said otherwise -/
theorem vsub {Q : V → Hp → Prop} {v v' : V} {H : Hp} (e : v = v') (q : Q v' H) : Q v H := by
  subst e
  exact q
/-- a number, a text of the module's top -/
theorem pe_globI {X : Cx} {x : Str} {i : Int} {pos : Pos} (h : ∃ t, X.mg x = some (.int i t)) (hg : Gl X x := by rfl) (hd : (x == ("__debug__" : Str)) = false := by decide) : PE X (.Name x pos) (tC (.int i)) := by
  obtain ⟨t, h⟩ := h
  exact pe_glob hg h ⟨t, rfl⟩ hd
theorem pe_globS {X : Cx} {x z : Str} {pos : Pos} (h : ∃ t, X.mg x = some (.str z t)) (hg : Gl X x := by rfl) (hd : (x == ("__debug__" : Str)) = false := by decide) : PE X (.Name x pos) (tC (.str z)) := by
  obtain ⟨t, h⟩ := h
  exact pe_glob hg h ⟨t, rfl⟩ hd
theorem pe_globR {X : Cx} {x : Str} {a : Addr} {pos : Pos} (h : X.mg x = some (.ref a)) (hg : Gl X x := by rfl) (hd : (x == ("__debug__" : Str)) = false := by decide) : PE X (.Name x pos) (tC (.ref a)) := pe_glob hg h rfl hd
/-! the reading of arguments goes on -/
def MonoE (t : TE) : Prop := ∀ σ H (Q Q' : VK), (∀ v H1, Q v H1 → Q' v H1) → t σ H Q → t σ H Q'
theorem monoA_nil : MonoA tNil := fun _ _ _ _ i q => i _ _ q
theorem monoA_cons {t : TE} {ts : TA} (h : MonoE t) (hs : MonoA ts) : MonoA (tCons t ts) := by
  intro σ H Q Q' i q
  refine h σ H _ _ ?_ q
  intro v H1 q1
  exact hs σ H1 _ _ (fun vs H2 q2 => i _ _ q2) q1
theorem monoE_var {i : Nat} : MonoE (tVar i) := by
  rintro σ H Q Q' h ⟨v, e, q⟩
  exact ⟨v, e, h _ _ q⟩
theorem monoE_c {v : V} : MonoE (tC v) := fun _ _ _ _ h q => h _ _ q
theorem monoE_I0 {g : Int → Int → V} {a b : TE} (ha : MonoE a) (hb : MonoE b) : MonoE (tOp (rI0 g) a b) := by
  intro σ H Q Q' h q
  refine ha σ H _ _ ?_ q
  intro x H1 q1
  refine hb σ H1 _ _ ?_ q1
  rintro y H2 ⟨i, j, rfl, rfl, q2⟩
  exact ⟨i, j, rfl, rfl, h _ _ q2⟩
/-- the class of an except clause is just that of the error, or not -/
theorem exm_pair {K : PySem.W.Frag} {S C : Addr} {b : Bool} (h1 : PySem.W.subIn K (.ref C) (.type "BaseException") = some true) (h2 : PySem.W.isClsIn K C = true) (h3 : PySem.W.typeIn K (.ref C) = some (.type "type")) (h4 : PySem.W.subIn K (.ref S) (.ref C) = some b) :
    PySem.W.exmOne K (.ref S) (.ref C) = some b := by
  have e1 : (PySem.W.subIn K (.ref C) (.type "BaseException") == some true) = true := by rw [h1] <;> rfl
  have h2' : (PySem.W.clsIn K C).isSome = true := h2
  have e2 : ((PySem.W.clsIn K C).isSome && PySem.W.typeIn K (.ref C) == some (.type "type")) = true := by rw [h2', h3] <;> rfl
  show (if (PySem.W.subIn K (.ref C) (.type "BaseException") == some true) = true then (if ((PySem.W.clsIn K C).isSome && PySem.W.typeIn K (.ref C) == some (.type "type")) = true then PySem.W.subIn K (.ref S) (.ref C) else none) else none) = some b
  rw [if_pos e1, if_pos e2, h4]
end GB

namespace K30
open PySem PySem.Spec PyProof.Rows L2 GB
local macro_rules | `(tactic| array_mem_dec) => `(tactic| first
  | assumption | exact .non | exact .bl _ | exact .int _ | exact .str _ (by assumption) | exact .str _ (by decide))
local macro_rules | `(tactic| sizeOf_list_dec) => `(tactic| (show Hold _; first
  | (with_reducible refine len_l (xs := ?_) ?_ ?_; rotate_left; focus (assumption))
  | (with_reducible refine len_t (xs := ?_) ?_ ?_; rotate_left; focus (assumption))
  | (with_reducible refine len_s ?_ ?_; focus (first | assumption | exact sz _ (by assumption)))
  | (with_reducible refine len_d (kvs := ?_) ?_ ?_; rotate_left; focus (assumption))
  | (with_reducible refine isi_int (d := ?_) ?_ ?_; rotate_left; focus (array_mem_dec))
  | (with_reducible refine isi_bool (d := ?_) ?_ ?_; rotate_left; focus (array_mem_dec))
  | (with_reducible refine isi_str (d := ?_) ?_ ?_; rotate_left; focus (array_mem_dec))
  | (with_reducible refine isi_lst (d := ?_) ?_ ?_; rotate_left; focus (array_mem_dec))
  | (with_reducible refine isi_tup (d := ?_) ?_ ?_; rotate_left; focus (array_mem_dec))
  | (with_reducible refine isi_dct (d := ?_) ?_ ?_; rotate_left; focus (array_mem_dec))))
local macro_rules | `(tactic| array_get_dec) => `(tactic| first
  | (refine ⟨_, rfl, ?_⟩)
  | (refine ⟨rfl, ?_⟩)
  | (refine ⟨_, _, rfl, rfl, ?_⟩)
  | sizeOf_list_dec
  | (refine Or.inl ⟨_, rfl, ?_⟩)
  | (refine ⟨?_, ?_⟩; focus ((with_reducible refine sz _ ?_); first | assumption | exact Nat.le_of_ble_eq_true rfl))
  | (refine ⟨?_, ?_⟩; focus ((with_reducible show (_ : Int) ≠ 0); first | decide | omega))
  | (refine ⟨Or.inl ⟨?_, ?_⟩, ?_⟩; (focus decide); (focus decide)))
local macro_rules | `(tactic| decreasing_trivial_pre_omega) => `(tactic| repeat array_get_dec)

/-- what the built-in names are -/
structure Bi (mg : Str → Option Value) : Prop where
  isinstance : mg "isinstance" = none
  bool : mg "bool" = none
  int : mg "int" = none
  str : mg "str" = none
  dict : mg "dict" = none
  list : mg "list" = none
  tuple : mg "tuple" = none
  len : mg "len" = none
  range : mg "range" = none
  sum : mg "sum" = none
  min : mg "min" = none
  max : mg "max" = none
  all : mg "all" = none
  abs : mg "abs" = none
  enumerate : mg "enumerate" = none
  zip : mg "zip" = none

/-! ### numbers, and numbers of slots -/
abbrev At (K : PySem.W.Frag) (mg : Str → Option Value) (x : Str) (st : Stmt) : Prop := ∃ f fd, Fun K x x st f fd ∧ mg x = some (.ref f)
/-- an integer that is no bool -/
def isI : PD → Bool
  | .int _ => true | _ => false
def btw (lo hi : Int) : PD → Bool
  | .int i => decide (lo ≤ i) && decide (i ≤ hi) | _ => false
def spIsInt (K : PySem.W.Frag) : Sp := fun vs H Q _ => ∃ (v : V) (d : PD), vs = [v] ∧ Rep K H v d ∧ Q (.bl (isI d)) H
def spBtw (K : PySem.W.Frag) : Sp := fun vs H Q _ => ∃ (v : V) (d : PD) (lo hi : Int), vs = [v, .int lo, .int hi] ∧ Rep K H v d ∧ Q (.bl (btw lo hi d)) H
def spIsList (K : PySem.W.Frag) : Sp := fun vs H Q _ => ∃ (v : V) (d : PD), vs = [v] ∧ Rep K H v d ∧ ∀ H', Same H H' → Q (.bl d.isSeq) H'
/-- what is raised with the value that was given -/
abbrev Told (E : XK) (H : Hp) (C : Addr) (v : V) : Prop := ∀ (d : Addr) (H' : Hp), Same H H' → H d = none → H' d = some (.xd [("given", v)]) → E (.ref C) (some d) H'
def spSlots (K : PySem.W.Frag) (C : Addr) : Sp := fun vs H Q E => ∃ (v : V) (d : PD), vs = [v] ∧ Rep K H v d ∧ (btw 1 40 d = true → Q .non H) ∧ (btw 1 40 d = false → Told E H C v)
section
variable {P : Program} {w : World} {K : PySem.W.Frag} {mg : Str → Option Value} {base : Heap}
theorem ok_isInt (F : At K mg "is_integer" s_is_integer) (B : Bi mg) : Dn P w K mg base 1 "is_integer" s_is_integer ["value"] (spIsInt K) := by
  obtain ⟨f, fd, F, gm⟩ := F
  refine ⟨f, fd, F.okX sc_is_integer (fun vs H Q E h => ?_) (fun cdv A outer s H vs Q E hr h => ?_), gm, F⟩
  · obtain ⟨v, d, rfl, _⟩ := h
    rfl
  · obtain ⟨v, d, rfl, r, k⟩ := h
    refine ⟨_, PSs.nox ((pss_one (ps_ret (pe_and (pe_callB (clIsi K) (by rfl) B.isinstance (by decide +kernel) (pa_cons (pv 0) (pa_cons (pe_bltn (v := .ty "int") (by rfl) B.int (by decide +kernel) rfl) pa_nil))) (pe_one (pe_not (pe_callB (clIsi K) (by rfl) B.isinstance (by decide +kernel) (pa_cons (pv 0) (pa_cons (pe_bltn (v := .ty "bool") (by rfl) B.bool (by decide +kernel) rfl) pa_nil))))))))), ?_⟩
    decreasing_trivial_pre_omega
    cases d <;> decreasing_trivial_pre_omega <;> exact k
theorem ok_btw (F : At K mg "is_between" s_is_between) (B : Bi mg) (d_is_integer : Dn P w K mg base 1 "is_integer" s_is_integer ["value"] (spIsInt K)) : Dn P w K mg base 2 "is_between" s_is_between ["value", "low", "high"] (spBtw K) := by
  obtain ⟨f, fd, F, gm⟩ := F
  refine ⟨f, fd, F.okX sc_is_between (fun vs H Q E h => ?_) (fun cdv A outer s H vs Q E hr h => ?_), gm, F⟩
  · obtain ⟨v, d, lo, hi, rfl, _⟩ := h
    rfl
  · obtain ⟨v, d, lo, hi, rfl, r, k⟩ := h
    refine ⟨_, PSs.nox ((pss_one (ps_ret (pe_and (pe_cl d_is_integer bd_is_integer (hr.mono (by omega)) passL (pa_cons (pv 0) pa_nil)) (pe_one (pe_chain op_le op_le (pv 1) (pv 0) (pv 2))))))), ?_⟩
    decreasing_trivial_pre_omega
    refine ⟨v, d, rfl, r, ?_⟩
    cases d with
    | int i =>
      cases r
      decreasing_trivial_pre_omega
      have e : btw lo hi (.int i) = (decide (lo ≤ i) && decide (i ≤ hi)) := rfl
      rw [e] at k
      by_cases h1 : lo ≤ i
      · refine if_t (decide_eq_true h1) ?_
        decreasing_trivial_pre_omega
        rw [decide_eq_true h1, Bool.true_and] at k
        exact k
      · refine if_f (decide_eq_false h1) ?_
        rw [decide_eq_false h1, Bool.false_and] at k
        exact k
    | _ => exact ⟨_, rfl, k⟩
theorem ok_isList (F : At K mg "is_list" s_is_list) (B : Bi mg) : Dn P w K mg base 1 "is_list" s_is_list ["value"] (spIsList K) := by
  obtain ⟨f, fd, F, gm⟩ := F
  refine ⟨f, fd, F.okX sc_is_list (fun vs H Q E h => ?_) (fun cdv A outer s H vs Q E hr h => ?_), gm, F⟩
  · obtain ⟨v, d, rfl, _⟩ := h
    rfl
  · obtain ⟨v, d, rfl, r, k⟩ := h
    refine ⟨_, PSs.nox ((pss_one (ps_ret (pe_callB (clIsiT K) (by rfl) B.isinstance (by decide +kernel) (pa_cons (pv 0) (pa_cons (pe_tup (pa_cons (pe_bltn (v := .ty "list") (by rfl) B.list (by decide +kernel) rfl) (pa_cons (pe_bltn (v := .ty "tuple") (by rfl) B.tuple (by decide +kernel) rfl) pa_nil))) pa_nil)))))), ?_⟩
    decreasing_trivial_pre_omega
    exact isi_seq r fun H' s => k H' s
theorem ok_slots {C : Addr} (F : At K mg "check_slots" s_check_slots) (B : Bi mg) (g_MOST_SLOTS : ∃ t, mg "MOST_SLOTS" = some (.int 40 t)) (e_InvalidSlots : Er P w K mg base "InvalidSlots" C ["given"])
    (d_is_between : Dn P w K mg base 2 "is_between" s_is_between ["value", "low", "high"] (spBtw K)) : Dn P w K mg base 3 "check_slots" s_check_slots ["c"] (spSlots K C) := by
  obtain ⟨f, fd, F, gm⟩ := F
  refine ⟨f, fd, F.okX sc_check_slots (fun vs H Q E h => ?_) (fun cdv A outer s H vs Q E hr h => ?_), gm, F⟩
  · obtain ⟨v, d, rfl, _⟩ := h
    rfl
  · obtain ⟨v, d, rfl, r, k1, k2⟩ := h
    refine ⟨_, (pss_one (ps_if (pt_not (pt_val (pe_cl d_is_between bd_is_between (hr.mono (by omega)) passL (pa_cons (pv 0) (pa_cons pe_int (pa_cons (pe_globI g_MOST_SLOTS) pa_nil))))))
      (pss_one (ps_raiseEr rfl e_InvalidSlots (hr.mono (by omega)) (takes_of rfl rfl rfl rfl) (pa_cons (pv 0) pa_nil) (monoA_cons monoE_var monoA_nil)))
      pss_nil)), ?_⟩
    decreasing_trivial_pre_omega
    refine ⟨v, d, 1, 40, rfl, r, _, rfl, ?_⟩
    cases e : btw 1 40 d with
    | true => exact k1 e
    | false =>
      refine ⟨_, rfl, rfl, fun q H' s nq eq => k2 e q H' s nq eq⟩
end

end K30

/-! Numbers of choices, and the least number of runs. -/
namespace MB
def C : Nat → Nat → Nat
  | _, 0 => 1
  | 0, _ + 1 => 0
  | n + 1, k + 1 => C n k + C n (k + 1)
theorem C_zero (n : Nat) : C n 0 = 1 := by cases n <;> rfl
theorem C_succ (n k : Nat) : C (n + 1) (k + 1) = C n k + C n (k + 1) := rfl
theorem C_big : ∀ (n k : Nat), n < k → C n k = 0
  | 0, k + 1, _ => rfl
  | n + 1, k + 1, h => by rw [C_succ, C_big n k (by omega), C_big n (k + 1) (by omega)]
theorem C_up : ∀ (n k : Nat), C n k ≤ C (n + 1) k
  | n, 0 => by rw [C_zero, C_zero]; exact Nat.le_refl 1
  | n, k + 1 => by rw [C_succ]; omega
theorem C_mono {n m : Nat} (h : n ≤ m) (k : Nat) : C n k ≤ C m k := by
  induction h with
  | refl => exact Nat.le_refl _
  | step _ ih => exact Nat.le_trans ih (C_up _ k)
/-- what the loop does at a turn -/
theorem C_step : ∀ (n k : Nat), k ≤ n → C n (k + 1) * (k + 1) = C n k * (n - k)
  | 0, 0, _ => rfl
  | n + 1, 0, _ => by
    have ih := C_step n 0 (Nat.zero_le _)
    rw [C_succ, C_zero, C_zero]
    rw [C_zero] at ih
    omega
  | n + 1, k + 1, h => by
    have i1 := C_step n k (by omega)
    rcases Nat.lt_or_ge n (k + 1) with hk | hk
    · have e : n = k := by omega
      subst e
      rw [C_big (n + 1) (n + 1 + 1) (by omega)]
      simp
    · have i2 := C_step n (k + 1) hk
      rw [C_succ n (k + 1), C_succ n k]
      have e1 : n + 1 - (k + 1) = (n - (k + 1)) + 1 := by omega
      have e2 : n - k = (n - (k + 1)) + 1 := by omega
      rw [e2] at i1
      rw [e1]
      generalize n - (k + 1) = m at *
      generalize C n (k + 1) = a at *
      generalize C n (k + 1 + 1) = b at *
      generalize C n k = c at *
      simp only [Nat.add_mul, Nat.mul_add, Nat.mul_one] at *
      omega
theorem C_pow : ∀ (n k : Nat), C n k ≤ n ^ k
  | n, 0 => by rw [C_zero]; exact Nat.le_refl 1
  | 0, k + 1 => Nat.zero_le _
  | n + 1, k + 1 => by
    have h1 := C_pow n k
    have h2 := C_pow n (k + 1)
    rw [C_succ]
    have h3 : n ^ k + n ^ (k + 1) = n ^ k * (n + 1) := by rw [Nat.pow_succ, Nat.mul_add, Nat.mul_one, Nat.add_comm]
    have h4 : n ^ k * (n + 1) ≤ (n + 1) ^ (k + 1) := by
      rw [Nat.pow_succ]
      exact Nat.mul_le_mul_right _ (Nat.pow_le_pow_left (Nat.le_succ n) k)
    omega
theorem C_one : ∀ n, C n 1 = n
  | 0 => rfl
  | n + 1 => by rw [C_succ, C_zero, C_one n]; omega
theorem C_room : ∀ (c m : Nat), 1 ≤ c → m + 1 ≤ C (c + m) c
  | 0, _, h => by omega
  | 1, m, _ => by rw [C_one]; omega
  | c + 2, 0, _ => by
    have e : ∀ n, C n n = 1 := by
      intro n
      induction n with
      | zero => rfl
      | succ n ih => rw [C_succ, ih, C_big n (n + 1) (by omega)]
    show 0 + 1 ≤ C (c + 2 + 0) (c + 2)
    rw [Nat.add_zero, e]
    exact Nat.le_refl 1
  | c + 2, m + 1, _ => by
    have h1 : m + 1 ≤ C (c + 2 + m) (c + 1 + 1) := C_room (c + 2) m (by omega)
    have e : c + 2 + (m + 1) = (c + 2 + m) + 1 := by omega
    rw [e, C_succ]
    have h2 : 1 ≤ C (c + 2 + m) (c + 1) := by
      have h3 := C_room (c + 1) (m + 1) (by omega)
      have e2 : c + 1 + (m + 1) = c + 2 + m := by omega
      rw [e2] at h3
      omega
    omega
/-- r is the least number of runs with which c slots reach l rounds -/
def Least (c l r : Nat) : Prop := l ≤ C (c + r) c ∧ ∀ s, s < r → C (c + s) c < l
theorem Least.one {c l r s : Nat} (h : Least c l r) (k : Least c l s) : r = s := by
  rcases Nat.lt_trichotomy r s with q | q | q
  · have := k.2 r q
    have := h.1
    omega
  · exact q
  · have := h.2 s q
    have := k.1
    omega
theorem below {c l m : Nat} (h : C (c + m) c < l) : ∀ s, s < m + 1 → C (c + s) c < l := by
  intro s hs
  exact Nat.lt_of_le_of_lt (C_mono (by omega) c) h
theorem C_small {n k : Nat} (hn : n < 2 ^ 60) : C n k < 2 ^ (60 * k + 1) := by
  have h := C_pow n k
  have h2 : n ^ k ≤ (2 ^ 60) ^ k := Nat.pow_le_pow_left (Nat.le_of_lt hn) k
  rw [← Nat.pow_mul] at h2
  have h3 : 2 ^ (60 * k) < 2 ^ (60 * k + 1) := by
    rw [Nat.pow_succ]
    have := Nat.two_pow_pos (60 * k)
    omega
  omega
theorem C_stepI {n k : Nat} (h : k ≤ n) : ((C n k : Int) * ((n : Int) - (k : Int))) / ((k : Int) + 1) = (C n (k + 1) : Int) := by
  have e := C_step n k h
  have e2 : ((C n k : Int) * ((n : Int) - (k : Int))) = (C n (k + 1) : Int) * ((k : Int) + 1) := by
    have e3 : ((C n (k + 1) * (k + 1) : Nat) : Int) = ((C n k * (n - k) : Nat) : Int) := by rw [e]
    rw [Int.natCast_mul, Int.natCast_mul, Int.natCast_sub h] at e3
    rw [← e3]
    rfl
  rw [e2]
  exact Int.mul_ediv_cancel _ (by omega)
end MB

namespace K30
open PySem PySem.Spec PyProof.Rows L2 GB
local macro_rules | `(tactic| array_mem_dec) => `(tactic| first
  | assumption | exact .non | exact .bl _ | exact .int _ | exact .str _ (by assumption) | exact .str _ (by decide))
local macro_rules | `(tactic| sizeOf_list_dec) => `(tactic| (show Hold _; first
  | (with_reducible refine len_l (xs := ?_) ?_ ?_; rotate_left; focus (assumption))
  | (with_reducible refine len_t (xs := ?_) ?_ ?_; rotate_left; focus (assumption))
  | (with_reducible refine len_s ?_ ?_; focus (first | assumption | exact sz _ (by assumption)))
  | (with_reducible refine len_d (kvs := ?_) ?_ ?_; rotate_left; focus (assumption))
  | (with_reducible refine isi_int (d := ?_) ?_ ?_; rotate_left; focus (array_mem_dec))
  | (with_reducible refine isi_bool (d := ?_) ?_ ?_; rotate_left; focus (array_mem_dec))
  | (with_reducible refine isi_str (d := ?_) ?_ ?_; rotate_left; focus (array_mem_dec))
  | (with_reducible refine isi_lst (d := ?_) ?_ ?_; rotate_left; focus (array_mem_dec))
  | (with_reducible refine isi_tup (d := ?_) ?_ ?_; rotate_left; focus (array_mem_dec))
  | (with_reducible refine isi_dct (d := ?_) ?_ ?_; rotate_left; focus (array_mem_dec))))
local macro_rules | `(tactic| array_get_dec) => `(tactic| first
  | (refine ⟨_, rfl, ?_⟩)
  | (refine ⟨rfl, ?_⟩)
  | (refine ⟨_, _, rfl, rfl, ?_⟩)
  | sizeOf_list_dec
  | (refine Or.inl ⟨_, rfl, ?_⟩)
  | (refine ⟨?_, ?_⟩; focus ((with_reducible refine sz _ ?_); first | assumption | exact Nat.le_of_ble_eq_true rfl))
  | (refine ⟨?_, ?_⟩; focus ((with_reducible show (_ : Int) ≠ 0); first | decide | omega))
  | (refine ⟨Or.inl ⟨?_, ?_⟩, ?_⟩; (focus decide); (focus decide)))
local macro_rules | `(tactic| decreasing_trivial_pre_omega) => `(tactic| repeat array_get_dec)

/-! ### numbers of choices -/
def spC : Sp := fun vs H Q _ => ∃ n k : Nat, vs = [.int n, .int k] ∧ n < 2 ^ 60 ∧ k ≤ 41 ∧ k ≤ n + 1 ∧ Q (.int (MB.C n k : Nat)) H
def spRuns : Sp := fun vs H Q _ => ∃ l c : Nat, vs = [.int l, .int c] ∧ 1 ≤ l ∧ l ≤ 10 ^ 18 ∧ 1 ≤ c ∧ c ≤ 40 ∧ ∀ r : Nat, MB.Least c l r → r ≤ 10 ^ 18 → Q (.int r) H
/-- (r, r l - C(c + r, c + 1)) -/
def altup (c l r : Nat) : List V := [.int r, .int ((r : Int) * (l : Int) - (MB.C (c + r) (c + 1) : Nat))]
def spAl : Sp := fun vs H Q _ => ∃ l c : Nat, vs = [.int l, .int c] ∧ 1 ≤ l ∧ l ≤ 10 ^ 18 ∧ 1 ≤ c ∧ c ≤ 40 ∧ ∀ r : Nat, MB.Least c l r → r ≤ 10 ^ 18 → ∀ p, H p = none → Q (.ref p) (upd H p (.tup (altup c l r)))
section
variable {P : Program} {w : World} {K : PySem.W.Frag} {mg : Str → Option Value} {base : Heap}
theorem wmul {n k : Nat} (hn : n < 2 ^ 60) (hk : k ≤ 41) : CMulW ((MB.C n k : Nat) : Int) ((n : Int) - (k : Int)) := by
  have h := MB.C_small (k := k) hn
  refine wide_mul (a := 60 * k + 1) (b := 61) ?_ ?_ (by omega) (by decide) (by omega)
  · rw [Int.natAbs_natCast]
    exact h
  · have : (2 : Nat) ^ 61 = 2 * 2 ^ 60 := by rw [Nat.pow_succ, Nat.mul_comm]
    omega
theorem half_eq (a b : Nat) : ((a : Int) + (b : Int)).fdiv 2 = (((a + b) / 2 : Nat) : Int) := by
  rw [Int.fdiv_eq_ediv_of_nonneg _ (by decide)]
  omega
theorem ok_choices (F : At K mg "choices" s_choices) (B : Bi mg) : Dn P w K mg base 1 "choices" s_choices ["many", "some"] spC := by
  obtain ⟨f, fd, F, gm⟩ := F
  refine ⟨f, fd, F.okX sc_choices (fun vs H Q E h => ?_) (fun cdv A outer s H vs Q E hr h => ?_), gm, F⟩
  · obtain ⟨n, k, rfl, _⟩ := h
    rfl
  · obtain ⟨n, m, rfl, hn, hm, hmn, k⟩ := h
    refine ⟨_, PSs.nox ((pss_cons (ps_set (i := 2) sc_choices.nd rfl (Or.inl rfl) pe_int)
      (pss_cons (ps_for PassesOwn.never rfl (pi_range1 (by rfl) B.range (pa_cons (pv 1) pa_nil)) (pg_name (i := 3) sc_choices.nd rfl (Or.inl rfl))
      (pss_one (ps_set (i := 2) sc_choices.nd rfl (Or.inl rfl) (pe_op op_fdivW (pe_op op_mulW (pv 2) (pe_op op_sub (pv 0) (pv 3))) (pe_op op_add (pv 3) pe_int)))))
      (pss_one (ps_ret (pv 2)))))), ?_⟩
    decreasing_trivial_pre_omega
    refine ⟨by omega, by omega, for_range (lo := 0) (n := m) (fun i σ H' => ∃ v : Option V, σ = [some (.int n), some (.int m), some (.int (MB.C n i : Nat)), v] ∧ H' = H ∧ i ≤ m) ⟨none, by rw [MB.C_zero]; rfl, rfl, Nat.zero_le _⟩ ?_ ?_⟩
    · rintro i σ H' hi ⟨v, rfl, rfl, hle⟩
      decreasing_trivial_pre_omega
      refine ⟨by rw [Int.zero_add]; exact wmul hn (by omega), ?_⟩
      decreasing_trivial_pre_omega
      refine ⟨wide_div (b := 10) (by omega) (by omega) (by decide) (by decide), ?_⟩
      simp only [Int.zero_add, MB.C_stepI (show i ≤ n by omega)]
      exact ⟨some (.int (i : Int)), rfl, rfl, by omega⟩
    · rintro σ H' ⟨v, rfl, rfl, _⟩
      decreasing_trivial_pre_omega
      exact k
theorem ok_runs (F : At K mg "least_runs" s_least_runs) (B : Bi mg) (d_choices : Dn P w K mg base 1 "choices" s_choices ["many", "some"] spC) : Dn P w K mg base 2 "least_runs" s_least_runs ["rounds", "c"] spRuns := by
  obtain ⟨f, fd, F, gm⟩ := F
  refine ⟨f, fd, F.okX sc_least_runs (fun vs H Q E h => ?_) (fun cdv A outer s H vs Q E hr h => ?_), gm, F⟩
  · obtain ⟨l, c, rfl, _⟩ := h
    rfl
  · obtain ⟨l, c, rfl, l1, l2, c1, c2, k⟩ := h
    refine ⟨_, PSs.nox ((pss_cons (ps_par (i := 2) (j := 3) (by rfl) sc_least_runs.nd rfl rfl (by decide) rfl rfl (pa_cons pe_int (pa_cons (pe_op op_sub (pv 0) pe_int) pa_nil)) (by rfl))
      (pss_cons (ps_while PassesOwn.never (pt_cmpR op_lt (pv 2) (pv 3) (nomark _))
      (pss_cons (ps_set (i := 4) sc_least_runs.nd rfl (Or.inl rfl) (pe_op op_fdivN (pe_op op_add (pv 2) (pv 3)) pe_int))
      (pss_one (ps_if (pt_cmpR op_ge (pe_cl d_choices bd_choices (hr.mono (by omega)) passL (pa_cons (pe_op op_add (pv 1) (pv 4)) (pa_cons (pv 1) pa_nil))) (pv 0) (nomark _))
      (pss_one (ps_set (i := 3) sc_least_runs.nd rfl (Or.inl rfl) (pv 4)))
      (pss_one (ps_set (i := 2) sc_least_runs.nd rfl (Or.inl rfl) (pe_op op_add (pv 4) pe_int)))))))
      (pss_one (ps_ret (pv 2)))))), ?_⟩
    decreasing_trivial_pre_omega
    refine ⟨_, _, rfl, ?_⟩
    refine while_by (fun σ H' => H' = H ∧ ∃ (lo hi : Nat) (v : Option V), σ = [some (.int l), some (.int c), some (.int lo), some (.int hi), v] ∧ lo ≤ hi ∧ hi + 1 ≤ l ∧ l ≤ MB.C (c + hi) c ∧ ∀ s, s < lo → MB.C (c + s) c < l)
      (fun σ _ => match σ with | [_, _, some (.int lo), some (.int hi), _] => (hi - lo).toNat | _ => 0) ?_ ?_ ?_
    · refine ⟨rfl, 0, l - 1, none, ?_, Nat.zero_le _, by omega, ?_, fun s z => absurd z (Nat.not_lt_zero s)⟩
      · show [some (V.int (l : Int)), some (V.int (c : Int)), some (V.int 0), some (V.int ((l : Int) - 1)), none] = _
        rw [Int.natCast_sub l1]
        rfl
      · have := MB.C_room c (l - 1) c1
        omega
    · rintro σ H' ⟨rfl, lo, hi, v, rfl, h1, h2, h3, h4⟩
      decreasing_trivial_pre_omega
      refine if_b (fun hc => ?_) (fun hc => ?_)
      · have lt : lo < hi := by
          have := of_decide_eq_true hc
          omega
        decreasing_trivial_pre_omega
        refine ⟨⟨by decide, by decide⟩, ?_⟩
        simp only [half_eq lo hi]
        · generalize hm : (lo + hi) / 2 = m
          have m1 : lo ≤ m := by omega
          have m2 : m < hi := by omega
          decreasing_trivial_pre_omega
          refine ⟨c + m, c, rfl, by omega, by omega, by omega, ?_⟩
          decreasing_trivial_pre_omega
          refine if_b (fun hd => ?_) (fun hd => ?_)
          · have ge := of_decide_eq_true hd
            decreasing_trivial_pre_omega
            refine ⟨⟨rfl, lo, m, _, rfl, m1, by omega, by omega, h4⟩, ?_⟩
            show (((m : Int) - (lo : Int)).toNat < ((hi : Int) - (lo : Int)).toNat)
            omega
          · have ge := of_decide_eq_false hd
            decreasing_trivial_pre_omega
            refine ⟨⟨rfl, m + 1, hi, _, rfl, by omega, by omega, h3, MB.below (by omega)⟩, ?_⟩
            show (((hi : Int) - ((m + 1 : Nat) : Int)).toNat < ((hi : Int) - (lo : Int)).toNat)
            omega
      · have ge : lo = hi := by
          have := of_decide_eq_false hc
          omega
        subst ge
        decreasing_trivial_pre_omega
        exact k lo ⟨h3, h4⟩ (by omega)
    · rintro σ H' Q1 Q2 hq q
      obtain ⟨v, e, v2, e2, i, j, ei, ej, b, eb, q⟩ := q
      exact ⟨v, e, v2, e2, i, j, ei, ej, b, eb, hq _ _ q⟩
theorem ok_alikeIn (F : At K mg "alike_in" s_alike_in) (B : Bi mg) (d_choices : Dn P w K mg base 1 "choices" s_choices ["many", "some"] spC) (d_least_runs : Dn P w K mg base 2 "least_runs" s_least_runs ["rounds", "c"] spRuns) :
    Dn P w K mg base 3 "alike_in" s_alike_in ["rounds", "c"] spAl := by
  obtain ⟨f, fd, F, gm⟩ := F
  refine ⟨f, fd, F.okX sc_alike_in (fun vs H Q E h => ?_) (fun cdv A outer s H vs Q E hr h => ?_), gm, F⟩
  · obtain ⟨l, c, rfl, _⟩ := h
    rfl
  · obtain ⟨l, c, rfl, l1, l2, c1, c2, k⟩ := h
    refine ⟨_, PSs.nox ((pss_cons (ps_set (i := 2) sc_alike_in.nd rfl (Or.inl rfl) (pe_cl d_least_runs bd_least_runs (hr.mono (by omega)) passL (pa_cons (pv 0) (pa_cons (pv 1) pa_nil))))
      (pss_one (ps_ret (pe_tup (pa_cons (pv 2) (pa_cons (pe_op op_sub (pe_op op_mul (pv 2) (pv 0)) (pe_cl d_choices bd_choices (hr.mono (by omega)) passL (pa_cons (pe_op op_add (pv 1) (pv 2)) (pa_cons (pe_op op_add (pv 1) pe_int) pa_nil)))) pa_nil))))))), ?_⟩
    decreasing_trivial_pre_omega
    refine ⟨l, c, rfl, l1, l2, c1, c2, fun r hr hr2 => ?_⟩
    decreasing_trivial_pre_omega
    refine ⟨.inl ⟨by omega, by omega⟩, ?_⟩
    decreasing_trivial_pre_omega
    refine ⟨c + r, c + 1, rfl, by omega, by omega, by omega, ?_⟩
    decreasing_trivial_pre_omega
    exact fun p hp => k r hr hr2 p hp
end

end K30

namespace K30
open PySem PySem.Spec PyProof.Rows L2 GB
local macro_rules | `(tactic| array_mem_dec) => `(tactic| first
  | assumption | exact .non | exact .bl _ | exact .int _ | exact .str _ (by assumption) | exact .str _ (by decide))
local macro_rules | `(tactic| sizeOf_list_dec) => `(tactic| (show Hold _; first
  | (with_reducible refine len_l (xs := ?_) ?_ ?_; rotate_left; focus (assumption))
  | (with_reducible refine len_t (xs := ?_) ?_ ?_; rotate_left; focus (assumption))
  | (with_reducible refine len_s ?_ ?_; focus (first | assumption | exact sz _ (by assumption)))
  | (with_reducible refine len_d (kvs := ?_) ?_ ?_; rotate_left; focus (assumption))
  | (with_reducible refine isi_int (d := ?_) ?_ ?_; rotate_left; focus (array_mem_dec))
  | (with_reducible refine isi_bool (d := ?_) ?_ ?_; rotate_left; focus (array_mem_dec))
  | (with_reducible refine isi_str (d := ?_) ?_ ?_; rotate_left; focus (array_mem_dec))
  | (with_reducible refine isi_lst (d := ?_) ?_ ?_; rotate_left; focus (array_mem_dec))
  | (with_reducible refine isi_tup (d := ?_) ?_ ?_; rotate_left; focus (array_mem_dec))
  | (with_reducible refine isi_dct (d := ?_) ?_ ?_; rotate_left; focus (array_mem_dec))))
local macro_rules | `(tactic| array_get_dec) => `(tactic| first
  | (refine ⟨_, rfl, ?_⟩)
  | (refine ⟨rfl, ?_⟩)
  | (refine ⟨_, _, rfl, rfl, ?_⟩)
  | sizeOf_list_dec
  | (refine Or.inl ⟨_, rfl, ?_⟩)
  | (refine ⟨?_, ?_⟩; focus ((with_reducible refine sz _ ?_); first | assumption | exact Nat.le_of_ble_eq_true rfl))
  | (refine ⟨?_, ?_⟩; focus ((with_reducible show (_ : Int) ≠ 0); first | decide | omega))
  | (refine ⟨Or.inl ⟨?_, ?_⟩, ?_⟩; (focus decide); (focus decide)))
local macro_rules | `(tactic| decreasing_trivial_pre_omega) => `(tactic| repeat array_get_dec)

/-- alike(l, c): any values -/
def spAlike (K : PySem.W.Frag) (CN CS : Addr) : Sp := fun vs H Q E => ∃ (v1 v2 : V) (d1 d2 : PD), vs = [v1, v2] ∧ Rep K H v1 d1 ∧ Rep K H v2 d2 ∧ (btw 1 (10 ^ 18) d1 = false → Told E H CN v1) ∧
  (btw 1 (10 ^ 18) d1 = true → btw 1 40 d2 = false → Told E H CS v2) ∧
  (∀ l c r : Nat, d1 = .int l → d2 = .int c → 1 ≤ l → l ≤ 10 ^ 18 → 1 ≤ c → c ≤ 40 → MB.Least c l r → r ≤ 10 ^ 18 → ∀ p, H p = none → Q (.ref p) (upd H p (.tup (altup c l r))))
def spReach (K : PySem.W.Frag) (CN CS : Addr) : Sp := fun vs H Q E => ∃ (v1 v2 : V) (d1 d2 : PD), vs = [v1, v2] ∧ Rep K H v1 d1 ∧ Rep K H v2 d2 ∧ (btw 1 40 d1 = false → Told E H CS v1) ∧
  (btw 1 40 d1 = true → btw 0 60 d2 = false → Told E H CN v2) ∧
  (∀ c r : Nat, d1 = .int c → d2 = .int r → 1 ≤ c → c ≤ 40 → r ≤ 60 → Q (.int (MB.C (c + r) c : Nat)) H)
theorem btw_nat {lo hi : Nat} {d : PD} (h : btw lo hi d = true) : ∃ n : Nat, d = .int n ∧ lo ≤ n ∧ n ≤ hi := by
  cases d with
  | int i =>
    have h2 : (decide ((lo : Int) ≤ i) && decide (i ≤ (hi : Int))) = true := h
    rw [Bool.and_eq_true, decide_eq_true_eq, decide_eq_true_eq] at h2
    exact ⟨i.toNat, by rw [Int.toNat_of_nonneg (by omega)], by omega, by omega⟩
  | _ => cases h
section
variable {P : Program} {w : World} {K : PySem.W.Frag} {mg : Str → Option Value} {base : Heap}
theorem ok_alike {CN CS : Addr} (F : At K mg "alike" s_alike) (B : Bi mg) (g_MOST_SLOTS : ∃ t, mg "MOST_SLOTS" = some (.int 40 t)) (g_MOST_ALIKE : ∃ t, mg "MOST_ALIKE" = some (.int (10 ^ 18) t))
    (e_InvalidSlots : Er P w K mg base "InvalidSlots" CS ["given"]) (e_InvalidNumber : Er P w K mg base "InvalidNumber" CN ["given"])
    (d_is_between : Dn P w K mg base 2 "is_between" s_is_between ["value", "low", "high"] (spBtw K)) (d_alike_in : Dn P w K mg base 3 "alike_in" s_alike_in ["rounds", "c"] spAl) :
    Dn P w K mg base 4 "alike" s_alike ["l", "c"] (spAlike K CN CS) := by
  obtain ⟨f, fd, F, gm⟩ := F
  refine ⟨f, fd, F.okX sc_alike (fun vs H Q E h => ?_) (fun cdv A outer s H vs Q E hr h => ?_), gm, F⟩
  · obtain ⟨v1, v2, d1, d2, rfl, _⟩ := h
    rfl
  · obtain ⟨v1, v2, d1, d2, rfl, r1, r2, k1, k2, k3⟩ := h
    refine ⟨_, (pss_cons (ps_if (pt_not (pt_val (pe_cl d_is_between bd_is_between (hr.mono (by omega)) passL (pa_cons (pv 0) (pa_cons pe_int (pa_cons (pe_globI g_MOST_ALIKE) pa_nil))))))
      (pss_one (ps_raiseEr rfl e_InvalidNumber (hr.mono (by omega)) (takes_of rfl rfl rfl rfl) (pa_cons (pv 0) pa_nil) (monoA_cons monoE_var monoA_nil)))
      pss_nil)
      (pss_cons (ps_if (pt_not (pt_val (pe_cl d_is_between bd_is_between (hr.mono (by omega)) passL (pa_cons (pv 1) (pa_cons pe_int (pa_cons (pe_globI g_MOST_SLOTS) pa_nil))))))
      (pss_one (ps_raiseEr rfl e_InvalidSlots (hr.mono (by omega)) (takes_of rfl rfl rfl rfl) (pa_cons (pv 1) pa_nil) (monoA_cons monoE_var monoA_nil)))
      pss_nil)
      (pss_one (ps_ret (pe_cl d_alike_in bd_alike_in (hr.mono (by omega)) passL (pa_cons (pv 0) (pa_cons (pv 1) pa_nil))))))), ?_⟩
    decreasing_trivial_pre_omega
    refine ⟨v1, d1, 1, 10 ^ 18, rfl, r1, _, rfl, ?_⟩
    cases e1 : btw 1 (10 ^ 18) d1 with
    | false =>
      refine ⟨_, rfl, rfl, fun q H' s nq eq => k1 e1 q H' s nq eq⟩
    | true =>
      decreasing_trivial_pre_omega
      refine ⟨v2, d2, 1, 40, rfl, r2, _, rfl, ?_⟩
      cases e2 : btw 1 40 d2 with
      | false =>
        refine ⟨_, rfl, rfl, fun q H' s nq eq => k2 e1 e2 q H' s nq eq⟩
      | true =>
        obtain ⟨l, rfl, l1, l2⟩ := btw_nat (lo := 1) (hi := 10 ^ 18) e1
        obtain ⟨c, rfl, c1, c2⟩ := btw_nat (lo := 1) (hi := 40) e2
        cases r1
        cases r2
        decreasing_trivial_pre_omega
        exact ⟨l, c, rfl, l1, l2, c1, c2, fun r hr hr2 p hp => k3 l c r rfl rfl l1 l2 c1 c2 hr hr2 p hp⟩
theorem ok_reach {CN CS : Addr} (F : At K mg "reach" s_reach) (B : Bi mg) (g_MOST_RUNS : ∃ t, mg "MOST_RUNS" = some (.int 60 t))
    (e_InvalidNumber : Er P w K mg base "InvalidNumber" CN ["given"]) (d_check_slots : Dn P w K mg base 3 "check_slots" s_check_slots ["c"] (spSlots K CS))
    (d_is_between : Dn P w K mg base 2 "is_between" s_is_between ["value", "low", "high"] (spBtw K)) (d_choices : Dn P w K mg base 1 "choices" s_choices ["many", "some"] spC) :
    Dn P w K mg base 4 "reach" s_reach ["c", "r"] (spReach K CN CS) := by
  obtain ⟨f, fd, F, gm⟩ := F
  refine ⟨f, fd, F.okX sc_reach (fun vs H Q E h => ?_) (fun cdv A outer s H vs Q E hr h => ?_), gm, F⟩
  · obtain ⟨v1, v2, d1, d2, rfl, _⟩ := h
    rfl
  · obtain ⟨v1, v2, d1, d2, rfl, r1, r2, k1, k2, k3⟩ := h
    refine ⟨_, (pss_cons (ps_expr (pe_cl d_check_slots bd_check_slots (hr.mono (by omega)) (passes_call (takes_of rfl rfl rfl rfl) fun _ _ _ _ h => h) (pa_cons (pv 0) pa_nil)))
      (pss_cons (ps_if (pt_not (pt_val (pe_cl d_is_between bd_is_between (hr.mono (by omega)) passL (pa_cons (pv 1) (pa_cons pe_int (pa_cons (pe_globI g_MOST_RUNS) pa_nil))))))
      (pss_one (ps_raiseEr rfl e_InvalidNumber (hr.mono (by omega)) (takes_of rfl rfl rfl rfl) (pa_cons (pv 1) pa_nil) (monoA_cons monoE_var monoA_nil)))
      pss_nil)
      (pss_one (ps_ret (pe_cl d_choices bd_choices (hr.mono (by omega)) passL (pa_cons (pe_op op_add (pv 0) (pv 1)) (pa_cons (pv 0) pa_nil))))))), ?_⟩
    decreasing_trivial_pre_omega
    refine ⟨v1, d1, rfl, r1, fun e1 => ?_, fun e1 => k1 e1⟩
    decreasing_trivial_pre_omega
    refine ⟨v2, d2, 0, 60, rfl, r2, _, rfl, ?_⟩
    cases e2 : btw 0 60 d2 with
    | false =>
      refine ⟨_, rfl, rfl, fun q H' s nq eq => k2 e1 e2 q H' s nq eq⟩
    | true =>
      obtain ⟨c, rfl, c1, c2⟩ := btw_nat (lo := 1) (hi := 40) e1
      obtain ⟨r, rfl, l1, l2⟩ := btw_nat (lo := 0) (hi := 60) e2
      cases r1
      cases r2
      decreasing_trivial_pre_omega
      exact ⟨c + r, c, rfl, by omega, by omega, by omega, k3 c r rfl rfl c1 c2 l2⟩
theorem ok_ways (F : At K mg "_law_ways" s__law_ways) (B : Bi mg) : Dn P w K mg base 1 "_law_ways" s__law_ways ["n", "k"] spC := by
  obtain ⟨f, fd, F, gm⟩ := F
  refine ⟨f, fd, F.okX sc__law_ways (fun vs H Q E h => ?_) (fun cdv A outer s H vs Q E hr h => ?_), gm, F⟩
  · obtain ⟨n, k, rfl, _⟩ := h
    rfl
  · obtain ⟨n, m, rfl, hn, hm, hmn, k⟩ := h
    refine ⟨_, PSs.nox ((pss_cons (ps_set (i := 2) sc__law_ways.nd rfl (Or.inl rfl) pe_int)
      (pss_cons (ps_for PassesOwn.never rfl (pi_range1 (by rfl) B.range (pa_cons (pv 1) pa_nil)) (pg_name (i := 3) sc__law_ways.nd rfl (Or.inl rfl))
      (pss_one (ps_set (i := 2) sc__law_ways.nd rfl (Or.inl rfl) (pe_op op_fdivW (pe_op op_mulW (pv 2) (pe_op op_sub (pv 0) (pv 3))) (pe_op op_add (pv 3) pe_int)))))
      (pss_one (ps_ret (pe_ifExp (pt_cmpR op_le (pv 1) (pv 0) (nomark _)) (pv 2) pe_int)))))), ?_⟩
    decreasing_trivial_pre_omega
    refine ⟨by omega, by omega, for_range (lo := 0) (n := m) (fun i σ H' => ∃ v : Option V, σ = [some (.int n), some (.int m), some (.int (MB.C n i : Nat)), v] ∧ H' = H ∧ i ≤ m) ⟨none, by rw [MB.C_zero]; rfl, rfl, Nat.zero_le _⟩ ?_ ?_⟩
    · rintro i σ H' hi ⟨v, rfl, rfl, hle⟩
      decreasing_trivial_pre_omega
      refine ⟨by rw [Int.zero_add]; exact wmul hn (by omega), ?_⟩
      decreasing_trivial_pre_omega
      refine ⟨wide_div (b := 10) (by omega) (by omega) (by decide) (by decide), ?_⟩
      simp only [Int.zero_add, MB.C_stepI (show i ≤ n by omega)]
      exact ⟨some (.int (i : Int)), rfl, rfl, by omega⟩
    · rintro σ H' ⟨v, rfl, rfl, _⟩
      decreasing_trivial_pre_omega
      refine if_b (fun hd => ?_) (fun hd => ?_)
      · decreasing_trivial_pre_omega
        exact k
      · have e : m = n + 1 := by
          have := of_decide_eq_false hd
          omega
        subst e
        rw [MB.C_big n (n + 1) (by omega)] at k
        exact k
theorem halves {a b i l : Nat} (h : 2 * a ≤ b) (k : b * 2 ^ i ≤ l) : a * 2 ^ (i + 1) ≤ l := by
  have e : a * 2 ^ (i + 1) = (2 * a) * 2 ^ i := by rw [Nat.pow_succ, Nat.mul_comm (2 ^ i) 2, ← Nat.mul_assoc, Nat.mul_comm a 2]
  rw [e]
  exact Nat.le_trans (Nat.mul_le_mul_right _ h) k
theorem ok_lawAlike (F : At K mg "_law_alike" s__law_alike) (B : Bi mg) (d__law_ways : Dn P w K mg base 1 "_law_ways" s__law_ways ["n", "k"] spC) : Dn P w K mg base 2 "_law_alike" s__law_alike ["many", "c"] spAl := by
  obtain ⟨f, fd, F, gm⟩ := F
  refine ⟨f, fd, F.okX sc__law_alike (fun vs H Q E h => ?_) (fun cdv A outer s H vs Q E hr h => ?_), gm, F⟩
  · obtain ⟨l, c, rfl, _⟩ := h
    rfl
  · obtain ⟨l, c, rfl, l1, l2, c1, c2, k⟩ := h
    refine ⟨_, PSs.nox ((pss_cons (ps_par (i := 2) (j := 3) (by rfl) sc__law_alike.nd rfl rfl (by decide) rfl rfl (pa_cons pe_int (pa_cons (pv 0) pa_nil)) (by rfl))
      (pss_cons (ps_for PassesOwn.never rfl (pi_range1 (by rfl) B.range (pa_cons pe_int pa_nil)) (pg_name (i := 4) sc__law_alike.nd rfl (Or.inl rfl))
      (pss_cons (ps_set (i := 5) sc__law_alike.nd rfl (Or.inl rfl) (pe_op op_fdivN (pe_op op_add (pv 2) (pv 3)) pe_int))
      (pss_one (ps_if (PW.pt (pw_and (pt_cmpR op_lt (pv 2) (pv 3) (nomark _)) (pw_and1 (pt_cmpR op_ge (pe_cl d__law_ways bd__law_ways (hr.mono (by omega)) passL (pa_cons (pe_op op_add (pv 1) (pv 5)) (pa_cons (pv 1) pa_nil))) (pv 0) (nomark _)))))
      (pss_one (ps_set (i := 3) sc__law_alike.nd rfl (Or.inl rfl) (pv 5)))
      (pss_one (ps_if (pt_cmpR op_lt (pv 2) (pv 3) (nomark _))
      (pss_one (ps_set (i := 2) sc__law_alike.nd rfl (Or.inl rfl) (pe_op op_add (pv 5) pe_int)))
      pss_nil))))))
      (pss_one (ps_ret (pe_tup (pa_cons (pv 2) (pa_cons (pe_op op_sub (pe_op op_mul (pv 2) (pv 0)) (pe_cl d__law_ways bd__law_ways (hr.mono (by omega)) passL (pa_cons (pe_op op_add (pv 1) (pv 2)) (pa_cons (pe_op op_add (pv 1) pe_int) pa_nil)))) pa_nil)))))))), ?_⟩
    decreasing_trivial_pre_omega
    refine ⟨_, _, rfl, ?_⟩
    decreasing_trivial_pre_omega
    refine ⟨by decide, by decide, for_range (lo := 0) (n := 64) (fun i σ H' => H' = H ∧ ∃ (lo hi : Nat) (v v2 : Option V), σ = [some (.int l), some (.int c), some (.int lo), some (.int hi), v, v2] ∧ lo ≤ hi ∧ hi ≤ l ∧ (hi - lo) * 2 ^ i ≤ l ∧ l ≤ MB.C (c + hi) c ∧ ∀ s, s < lo → MB.C (c + s) c < l)
      ⟨rfl, 0, l, none, none, rfl, Nat.zero_le _, Nat.le_refl _, by rw [Nat.pow_zero]; omega, ?_, fun s z => absurd z (Nat.not_lt_zero s)⟩ ?_ ?_⟩
    · have := MB.C_room c l c1
      omega
    · rintro i σ H' hi ⟨rfl, lo, hi, v, v2, rfl, h1, h5, h2, h3, h4⟩
      decreasing_trivial_pre_omega
      refine ⟨⟨by decide, by decide⟩, ?_⟩
      simp only [half_eq lo hi]
      generalize hm : (lo + hi) / 2 = m
      have m1 : lo ≤ m := by omega
      have m2 : m ≤ hi := by omega
      decreasing_trivial_pre_omega
      by_cases lt : lo < hi
      · refine if_t (decide_eq_true (by omega)) ?_
        decreasing_trivial_pre_omega
        refine ⟨c + m, c, rfl, by omega, by omega, by omega, ?_⟩
        decreasing_trivial_pre_omega
        refine if_b (fun hd => ?_) (fun hd => ?_)
        · have ge := of_decide_eq_true hd
          decreasing_trivial_pre_omega
          exact ⟨lo, m, _, _, rfl, m1, by omega, halves (b := hi - lo) (by omega) h2, by omega, h4⟩
        · have ge := of_decide_eq_false hd
          decreasing_trivial_pre_omega
          refine if_t (decide_eq_true (by omega)) ?_
          decreasing_trivial_pre_omega
          exact ⟨m + 1, hi, _, _, rfl, by omega, h5, halves (b := hi - lo) (by omega) h2, h3, MB.below (by omega)⟩
      · refine if_f (decide_eq_false (by omega)) ?_
        refine if_f rfl ?_
        decreasing_trivial_pre_omega
        refine if_f (decide_eq_false (by omega)) ?_
        exact ⟨rfl, lo, hi, _, _, rfl, h1, h5, halves (b := hi - lo) (by omega) h2, h3, h4⟩
    · rintro σ H' ⟨rfl, lo, hi, v, v2, rfl, h1, h5, h2, h3, h4⟩
      have e : lo = hi := by
        have : (2 : Nat) ^ 64 = 18446744073709551616 := by decide
        rw [this] at h2
        omega
      subst e
      decreasing_trivial_pre_omega
      refine ⟨.inl ⟨by omega, by omega⟩, ?_⟩
      decreasing_trivial_pre_omega
      refine ⟨c + lo, c + 1, rfl, by omega, by omega, by omega, ?_⟩
      decreasing_trivial_pre_omega
      exact fun p hp => k lo ⟨h3, h4⟩ (by omega) p hp
end

end K30

namespace K30
open PySem PySem.Spec PyProof.Rows L2 GB
local macro_rules | `(tactic| array_mem_dec) => `(tactic| first
  | assumption | exact .non | exact .bl _ | exact .int _ | exact .str _ (by assumption) | exact .str _ (by decide))
local macro_rules | `(tactic| sizeOf_list_dec) => `(tactic| (show Hold _; first
  | (with_reducible refine len_l (xs := ?_) ?_ ?_; rotate_left; focus (assumption))
  | (with_reducible refine len_t (xs := ?_) ?_ ?_; rotate_left; focus (assumption))
  | (with_reducible refine len_s ?_ ?_; focus (first | assumption | exact sz _ (by assumption)))
  | (with_reducible refine len_d (kvs := ?_) ?_ ?_; rotate_left; focus (assumption))
  | (with_reducible refine isi_int (d := ?_) ?_ ?_; rotate_left; focus (array_mem_dec))
  | (with_reducible refine isi_bool (d := ?_) ?_ ?_; rotate_left; focus (array_mem_dec))
  | (with_reducible refine isi_str (d := ?_) ?_ ?_; rotate_left; focus (array_mem_dec))
  | (with_reducible refine isi_lst (d := ?_) ?_ ?_; rotate_left; focus (array_mem_dec))
  | (with_reducible refine isi_tup (d := ?_) ?_ ?_; rotate_left; focus (array_mem_dec))
  | (with_reducible refine isi_dct (d := ?_) ?_ ?_; rotate_left; focus (array_mem_dec))))
local macro_rules | `(tactic| array_get_dec) => `(tactic| first
  | (refine ⟨_, rfl, ?_⟩)
  | (refine ⟨rfl, ?_⟩)
  | (refine ⟨_, _, rfl, rfl, ?_⟩)
  | sizeOf_list_dec
  | (refine Or.inl ⟨_, rfl, ?_⟩)
  | (refine ⟨?_, ?_⟩; focus ((with_reducible refine sz _ ?_); first | assumption | exact Nat.le_of_ble_eq_true rfl))
  | (refine ⟨?_, ?_⟩; focus ((with_reducible show (_ : Int) ≠ 0); first | decide | omega))
  | (refine ⟨Or.inl ⟨?_, ?_⟩, ?_⟩; (focus decide); (focus decide)))
local macro_rules | `(tactic| decreasing_trivial_pre_omega) => `(tactic| repeat array_get_dec)

/-! ### what the functions tell, asked by place or by name -/
def sw {α : Type} : List α → List α
  | [a, b] => [b, a]
  | l => l
theorem sw_rel {vs : List V} {us : List Value} (h : Vals vs us) (n : vs.length = 2) : Vals (sw vs) (sw us) := by
  match vs, us, h, n with
  | [_, _], [_, _], .cons a (.cons b .nil), _ => exact .cons b (.cons a .nil)
theorem k_alike : Bk "alike" s_alike ["l", "c"] ["c", "l"] @sw := fun _ _ _ _ _ _ us hl => match us, hl with | [_, _], _ => rfl
theorem k_reach : Bk "reach" s_reach ["c", "r"] ["r", "c"] @sw := fun _ _ _ _ _ _ us hl => match us, hl with | [_, _], _ => rfl
theorem r_alike {vs : List V} {us : List Value} (h : Vals vs us) (n : vs.length = (["c", "l"] : List Str).length) : Vals (sw vs) (sw us) := sw_rel h n
theorem r_reach {vs : List V} {us : List Value} (h : Vals vs us) (n : vs.length = (["r", "c"] : List Str).length) : Vals (sw vs) (sw us) := sw_rel h n
def spMet (K : PySem.W.Frag) : Sp := fun vs H Q _ => ∃ (kind : Int) (a : Addr) (v1 v2 : V) (d1 d2 : PD) (b : Bool), vs = [.int kind, .ref a, .bl b] ∧ SqL K H a [v1, v2] ∧ Rep K H v1 d1 ∧ Rep K H v2 d2 ∧
  (kind = 0 → (btw 1 (10 ^ 18) d1 = false → ∀ p H', Same H H' → H p = none → H' p = some (.lst [.str "number", v1]) → Q (.ref p) H') ∧
    (btw 1 (10 ^ 18) d1 = true → btw 1 40 d2 = false → ∀ p H', Same H H' → H p = none → H' p = some (.lst [.str "slots", v2]) → Q (.ref p) H') ∧
    (∀ l c r : Nat, d1 = .int l → d2 = .int c → 1 ≤ l → l ≤ 10 ^ 18 → 1 ≤ c → c ≤ 40 → MB.Least c l r → r ≤ 10 ^ 18 → ∀ t p H', Same H H' → H p = none → H' t = some (.tup (altup c l r)) → H' p = some (.lst [.str "told", .ref t]) → Q (.ref p) H')) ∧
  (kind ≠ 0 → (btw 1 40 d1 = false → ∀ p H', Same H H' → H p = none → H' p = some (.lst [.str "slots", v1]) → Q (.ref p) H') ∧
    (btw 1 40 d1 = true → btw 0 60 d2 = false → ∀ p H', Same H H' → H p = none → H' p = some (.lst [.str "number", v2]) → Q (.ref p) H') ∧
    (∀ c r : Nat, d1 = .int c → d2 = .int r → 1 ≤ c → c ≤ 40 → r ≤ 60 → ∀ p H', Same H H' → H p = none → H' p = some (.lst [.str "told", .int (MB.C (c + r) c : Nat)]) → Q (.ref p) H'))
section
variable {P : Program} {w : World} {K : PySem.W.Frag} {mg : Str → Option Value} {base : Heap}
theorem ok_met {CN CS : Addr} (F : At K mg "_law_met" s__law_met) (B : Bi mg) (e_InvalidSlots : Er P w K mg base "InvalidSlots" CS ["given"]) (e_InvalidNumber : Er P w K mg base "InvalidNumber" CN ["given"])
    (xNN : PySem.W.exmOne K (.ref CN) (.ref CN) = some true) (xSN : PySem.W.exmOne K (.ref CS) (.ref CN) = some false) (xSS : PySem.W.exmOne K (.ref CS) (.ref CS) = some true)
    (d_alike : Dn P w K mg base 4 "alike" s_alike ["l", "c"] (spAlike K CN CS)) (d_reach : Dn P w K mg base 4 "reach" s_reach ["c", "r"] (spReach K CN CS)) :
    Dn P w K mg base 5 "_law_met" s__law_met ["kind", "args", "by_name"] (spMet K) := by
  obtain ⟨f, fd, F, gm⟩ := F
  refine ⟨f, fd, F.okX sc__law_met (fun vs H Q E h => ?_) (fun cdv A outer s H vs Q E hr h => ?_), gm, F⟩
  · obtain ⟨kind, a, v1, v2, d1, d2, b, rfl, _⟩ := h
    rfl
  · obtain ⟨kind, a, v1, v2, d1, d2, b, rfl, hS, r1, r2, k0, k1⟩ := h
    refine ⟨_, PSs.nox ((pss_one (ps_try_cls rfl rfl sc__law_met.nd takes0 (fun W pn xe tk _ => (pss_cons (ps_if (pt_cmpR op_eq (pv 0) pe_int (nomark _))
      (pss_one (ps_ret (pe_lst (pa_cons pe_str (pa_cons (pe_ifExp (pt_val (pv 2)) (pe_clKS d_alike k_alike r_alike (hr.mono (by omega)) tk (pk_cons (pe_ix (ixL K) (pv 1) pe_int (fun _ _ => rfl)) (pk_cons (pe_ix (ixL K) (pv 1) pe_int (fun _ _ => rfl)) pk_nil))) (pe_clS d_alike bd_alike (hr.mono (by omega)) tk (pa_cons (pe_ix (ixL K) (pv 1) pe_int (fun _ _ => rfl)) (pa_cons (pe_ix (ixL K) (pv 1) pe_int (fun _ _ => rfl)) pa_nil)))) pa_nil)))))
      pss_nil)
      (pss_one (ps_ret (pe_lst (pa_cons pe_str (pa_cons (pe_ifExp (pt_val (pv 2)) (pe_clKS d_reach k_reach r_reach (hr.mono (by omega)) tk (pk_cons (pe_ix (ixL K) (pv 1) pe_int (fun _ _ => rfl)) (pk_cons (pe_ix (ixL K) (pv 1) pe_int (fun _ _ => rfl)) pk_nil))) (pe_clS d_reach bd_reach (hr.mono (by omega)) tk (pa_cons (pe_ix (ixL K) (pv 1) pe_int (fun _ _ => rfl)) (pa_cons (pe_ix (ixL K) (pv 1) pe_int (fun _ _ => rfl)) pa_nil)))) pa_nil))))))) (ClsOk.named ⟨rfl, by decide, Or.inl e_InvalidNumber.gm⟩ (i := 3) rfl rfl (fun a oe cls d pn hz hf => (pss_one (ps_ret (pe_lst (pa_cons pe_str (pa_cons (pe_xf e_InvalidNumber.xf (e_InvalidNumber.no "given" (by decide)) hz hf (pv 3)) pa_nil)))))) (ClsOk.named ⟨rfl, by decide, Or.inl e_InvalidSlots.gm⟩ (i := 3) rfl rfl (fun a oe cls d pn hz hf => (pss_one (ps_ret (pe_lst (pa_cons pe_str (pa_cons (pe_xf e_InvalidSlots.xf (e_InvalidSlots.no "given" (by decide)) hz hf (pv 3)) pa_nil)))))) ClsOk.nil))))), ?_⟩
    have h1 : atI [v1, v2] 0 = some v1 := rfl
    have h2 : atI [v1, v2] 1 = some v2 := rfl
    have l1 : ∀ v : V, List.lookup ("given" : Str) [(("given" : Str), v)] = some v := fun v => by simp [List.lookup]
    decreasing_trivial_pre_omega
    refine if_b (fun hk => ?_) (fun hk => ?_)
    · have ek : kind = 0 := by
        have := of_decide_eq_true hk
        cases this
        rfl
      obtain ⟨a1, a2, a3⟩ := k0 ek
      cases b
      case' true =>
        decreasing_trivial_pre_omega
        refine ix_l hS h2 ?_
        decreasing_trivial_pre_omega
        refine ix_l hS h1 ?_
        decreasing_trivial_pre_omega
      case' false =>
        decreasing_trivial_pre_omega
        refine ix_l hS h1 ?_
        decreasing_trivial_pre_omega
        refine ix_l hS h2 ?_
        decreasing_trivial_pre_omega
      all_goals
        refine ⟨v1, v2, d1, d2, rfl, r1, r2, fun e1 d H1 s1 nd ed => ?_, fun e1 e2 d H1 s1 nd ed => ?_, fun l c r ed1 ed2 q1 q2 q3 q4 q5 q6 t nt => ?_⟩
        · refine ⟨true, xNN, fun _ x nx => ?_, (fun q => Bool.noConfusion q)⟩
          refine ⟨_, rfl, rfl, rfl, d, _, v1, rfl, ed, l1 v1, ?_⟩
          refine ⟨sz 2 (by decide), fun p hp => a1 e1 p _ (Same.trans s1 (same_new hp)) (s1.free hp) upd_same⟩
        · refine ⟨false, xSN, (fun q => Bool.noConfusion q), fun _ => ⟨true, xSS, fun _ x nx => ?_, (fun q => Bool.noConfusion q)⟩⟩
          refine ⟨_, rfl, rfl, rfl, d, _, v2, rfl, ed, l1 v2, ?_⟩
          refine ⟨sz 2 (by decide), fun p hp => a2 e1 e2 p _ (Same.trans s1 (same_new hp)) (s1.free hp) upd_same⟩
        · refine ⟨sz 2 (by decide), fun p hp => a3 l c r ed1 ed2 q1 q2 q3 q4 q5 q6 t p _ (Same.trans (same_new nt) (same_new hp)) ((same_new nt).free hp) ?_ upd_same⟩
          rw [upd_ne (ne_of_none upd_same hp)]
          exact upd_same
    · have ek : kind ≠ 0 := by
        intro z
        rw [z] at hk
        simp at hk
      obtain ⟨a1, a2, a3⟩ := k1 ek
      cases b
      case' true =>
        decreasing_trivial_pre_omega
        refine ix_l hS h2 ?_
        decreasing_trivial_pre_omega
        refine ix_l hS h1 ?_
        decreasing_trivial_pre_omega
      case' false =>
        decreasing_trivial_pre_omega
        refine ix_l hS h1 ?_
        decreasing_trivial_pre_omega
        refine ix_l hS h2 ?_
        decreasing_trivial_pre_omega
      all_goals
        refine ⟨v1, v2, d1, d2, rfl, r1, r2, fun e1 d H1 s1 nd ed => ?_, fun e1 e2 d H1 s1 nd ed => ?_, fun c r ed1 ed2 q3 q4 q5 => ?_⟩
        · refine ⟨false, xSN, (fun q => Bool.noConfusion q), fun _ => ⟨true, xSS, fun _ x nx => ?_, (fun q => Bool.noConfusion q)⟩⟩
          refine ⟨_, rfl, rfl, rfl, d, _, v1, rfl, ed, l1 v1, ?_⟩
          refine ⟨sz 2 (by decide), fun p hp => a1 e1 p _ (Same.trans s1 (same_new hp)) (s1.free hp) upd_same⟩
        · refine ⟨true, xNN, fun _ x nx => ?_, (fun q => Bool.noConfusion q)⟩
          refine ⟨_, rfl, rfl, rfl, d, _, v2, rfl, ed, l1 v2, ?_⟩
          refine ⟨sz 2 (by decide), fun p hp => a2 e1 e2 p _ (Same.trans s1 (same_new hp)) (s1.free hp) upd_same⟩
        · refine ⟨sz 2 (by decide), fun p hp => a3 c r ed1 ed2 q3 q4 q5 p _ (same_new hp) hp upd_same⟩
end

end K30

namespace K30
open PySem PySem.Spec PyProof.Rows L2 GB
local macro_rules | `(tactic| array_mem_dec) => `(tactic| first
  | assumption | exact .non | exact .bl _ | exact .int _ | exact .str _ (by assumption) | exact .str _ (by decide))
local macro_rules | `(tactic| sizeOf_list_dec) => `(tactic| (show Hold _; first
  | (with_reducible refine len_l (xs := ?_) ?_ ?_; rotate_left; focus (assumption))
  | (with_reducible refine len_t (xs := ?_) ?_ ?_; rotate_left; focus (assumption))
  | (with_reducible refine len_s ?_ ?_; focus (first | assumption | exact sz _ (by assumption)))
  | (with_reducible refine len_d (kvs := ?_) ?_ ?_; rotate_left; focus (assumption))
  | (with_reducible refine isi_int (d := ?_) ?_ ?_; rotate_left; focus (array_mem_dec))
  | (with_reducible refine isi_bool (d := ?_) ?_ ?_; rotate_left; focus (array_mem_dec))
  | (with_reducible refine isi_str (d := ?_) ?_ ?_; rotate_left; focus (array_mem_dec))
  | (with_reducible refine isi_lst (d := ?_) ?_ ?_; rotate_left; focus (array_mem_dec))
  | (with_reducible refine isi_tup (d := ?_) ?_ ?_; rotate_left; focus (array_mem_dec))
  | (with_reducible refine isi_dct (d := ?_) ?_ ?_; rotate_left; focus (array_mem_dec))))
local macro_rules | `(tactic| array_get_dec) => `(tactic| first
  | (refine ⟨_, rfl, ?_⟩)
  | (refine ⟨rfl, ?_⟩)
  | (refine ⟨_, _, rfl, rfl, ?_⟩)
  | sizeOf_list_dec
  | (refine Or.inl ⟨_, rfl, ?_⟩)
  | (refine ⟨?_, ?_⟩; focus ((with_reducible refine sz _ ?_); first | assumption | exact Nat.le_of_ble_eq_true rfl))
  | (refine ⟨?_, ?_⟩; focus ((with_reducible show (_ : Int) ≠ 0); first | decide | omega))
  | (refine ⟨Or.inl ⟨?_, ?_⟩, ?_⟩; (focus decide); (focus decide)))
local macro_rules | `(tactic| decreasing_trivial_pre_omega) => `(tactic| repeat array_get_dec)


/-! ### the law's draws: a box of digits -/
/-- what a box holds behind at most c draws that were mixed -/
def BoxIs (o : List V) (c : Int) : Prop := ∃ (b0 b2 b3 : Int) (g : Bool), o = [.int b0, .bl g, .int b2, .int b3] ∧ 0 ≤ b0 ∧ 0 ≤ b2 ∧ b2 < 2147483648 ∧ 0 ≤ b3 ∧ b3 ≤ c
theorem BoxIs.mono {o : List V} {c e : Int} (h : BoxIs o c) (l : c ≤ e) : BoxIs o e := by
  obtain ⟨b0, b2, b3, g, rfl, h0, h2, h3, h4, h5⟩ := h
  exact ⟨b0, b2, b3, g, rfl, h0, h2, h3, h4, by omega⟩
def TakeP (vs : List V) (H : Hp) (Q : VK) : Prop := ∃ (p : Addr) (m c : Int) (o : List V), vs = [.ref p, .int m] ∧ H p = some (.lst o) ∧ BoxIs o c ∧ 0 ≤ c ∧ c < 1000000 ∧ 0 < m ∧ m < 1073741824 ∧
  ∀ (r : Int) (o' : List V), 0 ≤ r → r < m → BoxIs o' (c + 1) → Q (.int r) (upd H p (.lst o'))
def spTake : Sp := fun vs H Q _ => Hold (TakeP vs H Q)
def spBox : Sp := fun vs H Q _ => ∃ (n : Int), vs = [.int n] ∧ ∀ (p : Addr) (o : List V), H p = none → BoxIs o 0 → Q (.ref p) (upd H p (.lst o))
theorem fmod_in {x m : Int} (h : 0 < m) : 0 ≤ x.fmod m ∧ x.fmod m < m := by
  rw [Int.fmod_eq_emod_of_nonneg x (by omega)]
  exact ⟨Int.emod_nonneg _ (by omega), Int.emod_lt_of_pos _ h⟩
theorem fdiv_nn {x m : Int} (hx : 0 ≤ x) (h : 0 < m) : 0 ≤ x.fdiv m := by
  rw [Int.fdiv_eq_ediv_of_nonneg x (by omega)]
  exact Int.ediv_nonneg hx (by omega)
section
variable {P : Program} {w : World} {K : PySem.W.Frag} {mg : Str → Option Value} {base : Heap}
theorem ok_take (F : ∃ f fd, Fun K "_law_take" "_law_take" s__law_take f fd ∧ mg "_law_take" = some (.ref f)) (B : Bi mg) : Dn P w K mg base 1 "_law_take" s__law_take ["box", "many"] spTake := by
  obtain ⟨f, fd, F, gm⟩ := F
  refine ⟨f, fd, F.okX sc__law_take (fun vs H Q E h => ?_) (fun cdv A outer s H vs Q E hr h => ?_), gm, F⟩
  · obtain ⟨p, m, c, o, rfl, _⟩ := h.h
    rfl
  · obtain ⟨p, m, c, o, rfl, hp, hB, c0, c1, m0, m1, k⟩ := h.h
    refine ⟨_, PSs.nox ((pss_cons (ps_if (PW.pt (pw_and (pt_val (pe_ix (ixL K) (pv 0) pe_int (fun _ _ => rfl))) (pw_and1 (pt_cmpR op_gt (pe_ix (ixL K) (pv 0) pe_int (fun _ _ => rfl)) pe_int (nomark _)))))
      (pss_cons (ps_set (i := 2) sc__law_take.nd rfl (Or.inl rfl) (pe_op op_modN (pe_callTy call_int1 (by rfl) B.int (by decide +kernel) (pa_cons (pe_ix (ixL K) (pv 0) pe_int (fun _ _ => rfl)) pa_nil)) (pv 1)))
      (pss_cons (ps_asg (pe_op op_fdivN (pe_callTy call_int1 (by rfl) B.int (by decide +kernel) (pa_cons (pe_ix (ixL K) (pv 0) pe_int (fun _ _ => rfl)) pa_nil)) (pv 1)) (pg_sub (pv 0) pe_int set_list))
      (pss_one (ps_ret (pv 2)))))
      pss_nil)
      (pss_cons (ps_asg (pe_op op_add (pe_ix (ixL K) (pv 0) pe_int (fun _ _ => rfl)) pe_int) (pg_sub (pv 0) pe_int set_list))
      (pss_cons (ps_set (i := 3) sc__law_take.nd rfl (Or.inl rfl) (pe_op op_modN (pe_callTy call_int1 (by rfl) B.int (by decide +kernel) (pa_cons (pe_op op_pow (pe_op op_add (pe_op op_add (pe_ix (ixL K) (pv 0) pe_int (fun _ _ => rfl)) (pe_op op_mul pe_int (pe_ix (ixL K) (pv 0) pe_int (fun _ _ => rfl)))) pe_int) pe_int) pa_nil)) pe_int))
      (pss_one (ps_ret (pe_op op_modN (pe_callTy call_int1 (by rfl) B.int (by decide +kernel) (pa_cons (pe_op op_fdivN (pe_op op_modN (pe_callTy call_int1 (by rfl) B.int (by decide +kernel) (pa_cons (pe_op op_pow (pe_op op_add (pe_op op_mul (pv 3) pe_int) (pe_op op_mul pe_int (pe_ix (ixL K) (pv 0) pe_int (fun _ _ => rfl)))) pe_int) pa_nil)) pe_int) pe_int) pa_nil)) (pv 1)))))))), ?_⟩
    obtain ⟨b0, b2, b3, g, rfl, h0, h2, h3, h4, h5⟩ := hB
    have hL : SqL K H p [.int b0, .bl g, .int b2, .int b3] := .inl (.inl hp)
    decreasing_trivial_pre_omega
    refine ix_l hL (atI_ok (by decide) rfl) ?_
    decreasing_trivial_pre_omega
    by_cases hc : g = true ∧ 0 < b0
    · obtain ⟨rfl, hb⟩ := hc
      decreasing_trivial_pre_omega
      refine ix_l hL (atI_ok (by decide) rfl) ?_
      decreasing_trivial_pre_omega
      refine if_t (decide_eq_true hb) ?_
      decreasing_trivial_pre_omega
      refine ix_l hL (atI_ok (by decide) rfl) ?_
      decreasing_trivial_pre_omega
      refine ix_l hL (atI_ok (by decide) rfl) ?_
      decreasing_trivial_pre_omega
      refine ⟨⟨by omega, by omega⟩, ?_⟩
      refine ⟨_, rfl, p, _, 0, 0, rfl, rfl, hp, rfl, ?_⟩
      refine ⟨_, rfl, ?_⟩
      obtain ⟨r0, r1⟩ := fmod_in (x := b0) m0
      exact k _ _ r0 r1 ⟨_, _, _, _, rfl, fdiv_nn h0 m0, h2, h3, h4, by omega⟩
    · cases g
      case' true =>
        decreasing_trivial_pre_omega
        refine ix_l hL (atI_ok (by decide) rfl) ?_
        decreasing_trivial_pre_omega
        refine if_f (decide_eq_false fun z => hc ⟨rfl, z⟩) ?_
      all_goals
        refine ⟨_, rfl, ?_⟩
        refine ix_l hL (atI_ok (by decide) rfl) ?_
        decreasing_trivial_pre_omega
        refine ⟨p, _, 3, 3, rfl, rfl, hp, rfl, ?_⟩
        refine ⟨_, rfl, ?_⟩
        refine ix_l (.inl (.inl upd_same)) (atI_ok (by decide) rfl) ?_
        decreasing_trivial_pre_omega
        refine ix_l (.inl (.inl upd_same)) (atI_ok (by decide) rfl) ?_
        decreasing_trivial_pre_omega
        refine ⟨⟨by decide, by decide, by omega⟩, ?_⟩
        decreasing_trivial_pre_omega
        obtain ⟨M, eM, hM⟩ : ∃ M : Int, ((b2 + 15490141 * (b3 + 1) + 179426589) ^ Int.toNat 5).fmod 2147483647 = M ∧ 0 ≤ M ∧ M < 2147483647 := ⟨_, rfl, fmod_in (by decide)⟩
        refine ⟨.inr ⟨by decide, by decide⟩, ?_⟩
        decreasing_trivial_pre_omega
        refine ix_l (.inl (.inl upd_same)) (atI_ok (by decide) rfl) ?_
        decreasing_trivial_pre_omega
        refine ⟨⟨by decide, by decide, by rw [eM]; omega⟩, ?_⟩
        decreasing_trivial_pre_omega
        refine ⟨⟨by decide, by decide⟩, ?_⟩
        decreasing_trivial_pre_omega
        refine k _ _ (fmod_in m0).1 (fmod_in m0).2 ⟨_, _, _, _, rfl, h0, h2, h3, by omega, by omega⟩
theorem ok_box (F : ∃ f fd, Fun K "_law_box" "_law_box" s__law_box f fd ∧ mg "_law_box" = some (.ref f)) (B : Bi mg) : Dn P w K mg base 1 "_law_box" s__law_box ["great"] spBox := by
  obtain ⟨f, fd, F, gm⟩ := F
  refine ⟨f, fd, F.okX sc__law_box (fun vs H Q E h => ?_) (fun cdv A outer s H vs Q E hr h => ?_), gm, F⟩
  · obtain ⟨n, rfl, _⟩ := h
    rfl
  · obtain ⟨n, rfl, k⟩ := h
    refine ⟨_, PSs.nox ((pss_one (ps_ret (pe_lst (pa_cons (pe_callB call_abs (by rfl) B.abs (by decide +kernel) (pa_cons (pv 0) pa_nil)) (pa_cons (pe_cmpR op_ge (pe_callB call_abs (by rfl) B.abs (by decide +kernel) (pa_cons (pv 0) pa_nil)) (pe_op op_pow pe_int pe_int) (nomark _)) (pa_cons (pe_op op_modN (pe_callTy call_int1 (by rfl) B.int (by decide +kernel) (pa_cons (pe_callB call_abs (by rfl) B.abs (by decide +kernel) (pa_cons (pv 0) pa_nil)) pa_nil)) pe_int) (pa_cons pe_int pa_nil)))))))), ?_⟩
    decreasing_trivial_pre_omega
    refine ⟨⟨by decide, by decide, by decide⟩, ?_⟩
    decreasing_trivial_pre_omega
    refine fun p hp => ?_
    refine k p _ hp ⟨_, _, _, _, rfl, ?_, (fmod_in (by decide)).1, ?_, by decide, by decide⟩
    · split <;> omega
    · have := (fmod_in (x := if n < 0 then -n else n) (m := 2147483629) (by decide)).2
      omega
/-- the script's k-th number, or another -/
def spCell (K : PySem.W.Frag) : Sp := fun vs H Q _ => ∃ (a : Addr) (ns : List Int) (k : Int), vs = [.ref a, .int k] ∧ SqL K H a (ns.map V.int) ∧ ns.length ≤ 1000 ∧ 0 ≤ k ∧ k < 1000 ∧ ∀ (n : Int) (H' : Hp), Same H H' → Q (.int n) H'
theorem at_map {ns : List Int} {i : Nat} (h : i < ns.length) : (ns.map V.int)[i]? = some (V.int ns[i]) := by
  rw [List.getElem?_map, List.getElem?_eq_getElem h]
  rfl
theorem cut_map (ns : List Int) (lo hi : Option Int) : ∃ ms : List Int, cutV (ns.map V.int) lo hi = ms.map V.int := by
  unfold cutV
  rw [← List.map_drop, ← List.map_take]
  exact ⟨_, rfl⟩
theorem ok_cell (F : ∃ f fd, Fun K "_law_cell" "_law_cell" s__law_cell f fd ∧ mg "_law_cell" = some (.ref f)) (B : Bi mg) : Dn P w K mg base 1 "_law_cell" s__law_cell ["script", "k"] (spCell K) := by
  obtain ⟨f, fd, F, gm⟩ := F
  refine ⟨f, fd, F.okX sc__law_cell (fun vs H Q E h => ?_) (fun cdv A outer s H vs Q E hr h => ?_), gm, F⟩
  · obtain ⟨a, ns, k, rfl, _⟩ := h
    rfl
  · obtain ⟨a, ns, k, rfl, hS, hl, k0, k1, q⟩ := h
    refine ⟨_, PSs.nox ((pss_one (ps_ret (pe_ifExp (pt_cmpR op_lt (pv 1) (pe_callB (clLen K) (by rfl) B.len (by decide +kernel) (pa_cons (pv 0) pa_nil)) (nomark _)) (pe_ix (ixL K) (pv 0) (pv 1) (fun _ _ => rfl)) (pe_op op_add (pe_op op_mul pe_int (pv 1)) (pe_op op_modN (pe_callTy call_int1 (by rfl) B.int (by decide +kernel) (pa_cons (pe_callB (clSum K) (by rfl) B.sum (by decide +kernel) (pa_cons (pe_slice (slL K) (pv 0) po_none (po_some pe_int)) pa_nil)) pa_nil)) pe_int)))))), ?_⟩
    decreasing_trivial_pre_omega
    refine if_b (fun hk => ?_) (fun hk => ?_)
    · have hk' := of_decide_eq_true hk
      rw [List.length_map] at hk'
      decreasing_trivial_pre_omega
      refine ix_l hS (atI_ok k0 (at_map (by omega))) ?_
      exact q _ _ (Same.refl H)
    · decreasing_trivial_pre_omega
      refine sl_l hS fun p hp => ?_
      obtain ⟨ms, em⟩ := cut_map ns none (some 1)
      rw [em]
      decreasing_trivial_pre_omega
      refine sum_l (.inl (.inl upd_same)) ?_
      decreasing_trivial_pre_omega
      exact q _ _ (same_new hp)
end

end K30

namespace K30
open PySem PySem.Spec PyProof.Rows L2 GB
local macro_rules | `(tactic| array_mem_dec) => `(tactic| first
  | assumption | exact .non | exact .bl _ | exact .int _ | exact .str _ (by assumption) | exact .str _ (by decide))
local macro_rules | `(tactic| sizeOf_list_dec) => `(tactic| (show Hold _; first
  | (with_reducible refine len_l (xs := ?_) ?_ ?_; rotate_left; focus (assumption))
  | (with_reducible refine len_t (xs := ?_) ?_ ?_; rotate_left; focus (assumption))
  | (with_reducible refine len_s ?_ ?_; focus (first | assumption | exact sz _ (by assumption)))
  | (with_reducible refine len_d (kvs := ?_) ?_ ?_; rotate_left; focus (assumption))
  | (with_reducible refine isi_int (d := ?_) ?_ ?_; rotate_left; focus (array_mem_dec))
  | (with_reducible refine isi_bool (d := ?_) ?_ ?_; rotate_left; focus (array_mem_dec))
  | (with_reducible refine isi_str (d := ?_) ?_ ?_; rotate_left; focus (array_mem_dec))
  | (with_reducible refine isi_lst (d := ?_) ?_ ?_; rotate_left; focus (array_mem_dec))
  | (with_reducible refine isi_tup (d := ?_) ?_ ?_; rotate_left; focus (array_mem_dec))
  | (with_reducible refine isi_dct (d := ?_) ?_ ?_; rotate_left; focus (array_mem_dec))))
local macro_rules | `(tactic| array_get_dec) => `(tactic| first
  | (refine ⟨_, rfl, ?_⟩)
  | (refine ⟨rfl, ?_⟩)
  | (refine ⟨_, _, rfl, rfl, ?_⟩)
  | sizeOf_list_dec
  | (refine Or.inl ⟨_, rfl, ?_⟩)
  | (refine ⟨?_, ?_⟩; focus ((with_reducible refine sz _ ?_); first | assumption | exact Nat.le_of_ble_eq_true rfl))
  | (refine ⟨?_, ?_⟩; focus ((with_reducible show (_ : Int) ≠ 0); first | decide | omega))
  | (refine ⟨Or.inl ⟨?_, ?_⟩, ?_⟩; (focus decide); (focus decide)))
local macro_rules | `(tactic| decreasing_trivial_pre_omega) => `(tactic| repeat array_get_dec)


/-! ### _law_same: equal data are told to be so -/
def spSame (K : PySem.W.Frag) (n : Nat) : Sp := fun vs H Q _ => ∃ (a b : V) (d : PD), vs = [a, b] ∧ Rep K H a d ∧ Rep K H b d ∧ d.deep < n ∧ ∀ H', Same H H' → Q (.bl true) H'
section
variable {P : Program} {w : World} {K : PySem.W.Frag} {mg : Str → Option Value} {base : Heap}
theorem same_step {k n : Nat} (F : ∃ f fd, Fun K "_law_same" "_law_same" s__law_same f fd ∧ mg "_law_same" = some (.ref f)) (B : Bi mg)
    (d__law_same : Dn P w K mg base k "_law_same" s__law_same ["told", "due"] (spSame K n)) : Dn P w K mg base (k + 1) "_law_same" s__law_same ["told", "due"] (spSame K (n + 1)) := by
  obtain ⟨f, fd, F, gm⟩ := F
  refine ⟨f, fd, F.okX sc__law_same (fun vs H Q E h => ?_) (fun cdv A outer s H vs Q E hr h => ?_), gm, F⟩
  · obtain ⟨a, b, d, rfl, _⟩ := h
    rfl
  · obtain ⟨a, b, d, rfl, ra, rb, dn, k⟩ := h
    refine ⟨_, PSs.nox ((pss_cons (ps_if (pt_cmpR op_isN (pv 1) pe_non (nomark _))
      (pss_one (ps_ret (pe_cmpR op_isN (pv 0) pe_non (nomark _))))
      pss_nil)
      (pss_cons (ps_if (pt_val (pe_callB (clIsi K) (by rfl) B.isinstance (by decide +kernel) (pa_cons (pv 1) (pa_cons (pe_bltn (v := .ty "bool") (by rfl) B.bool (by decide +kernel) rfl) pa_nil))))
      (pss_one (ps_ret (pe_and (pe_callB (clIsi K) (by rfl) B.isinstance (by decide +kernel) (pa_cons (pv 0) (pa_cons (pe_bltn (v := .ty "bool") (by rfl) B.bool (by decide +kernel) rfl) pa_nil))) (pe_one (pe_cmpR op_eq (pe_cmpR op_is_bl (pv 0) pe_bl (nomark _)) (pe_cmpR op_is_bl (pv 1) pe_bl (nomark _)) (nomark _))))))
      pss_nil)
      (pss_cons (ps_if (pt_val (pe_callB (clIsi K) (by rfl) B.isinstance (by decide +kernel) (pa_cons (pv 1) (pa_cons (pe_bltn (v := .ty "int") (by rfl) B.int (by decide +kernel) rfl) pa_nil))))
      (pss_one (ps_ret (pe_and (pe_callB (clIsi K) (by rfl) B.isinstance (by decide +kernel) (pa_cons (pv 0) (pa_cons (pe_bltn (v := .ty "int") (by rfl) B.int (by decide +kernel) rfl) pa_nil))) (pe_and (pe_not (pe_callB (clIsi K) (by rfl) B.isinstance (by decide +kernel) (pa_cons (pv 0) (pa_cons (pe_bltn (v := .ty "bool") (by rfl) B.bool (by decide +kernel) rfl) pa_nil)))) (pe_one (pe_cmpR op_eq (pe_op op_sub (pe_callTy call_int1 (by rfl) B.int (by decide +kernel) (pa_cons (pv 0) pa_nil)) (pv 1)) pe_int (nomark _)))))))
      pss_nil)
      (pss_cons (ps_if (pt_val (pe_callB (clIsi K) (by rfl) B.isinstance (by decide +kernel) (pa_cons (pv 1) (pa_cons (pe_bltn (v := .ty "str") (by rfl) B.str (by decide +kernel) rfl) pa_nil))))
      (pss_one (ps_ret (pe_and (pe_callB (clIsi K) (by rfl) B.isinstance (by decide +kernel) (pa_cons (pv 0) (pa_cons (pe_bltn (v := .ty "str") (by rfl) B.str (by decide +kernel) rfl) pa_nil))) (pe_and (pe_cmpR op_eq (pe_callB (clLen K) (by rfl) B.len (by decide +kernel) (pa_cons (pv 0) pa_nil)) (pe_callB (clLen K) (by rfl) B.len (by decide +kernel) (pa_cons (pv 1) pa_nil)) (nomark _)) (pe_one (pe_cmpR (opEqD K hr) (pe_lc (own := [("k", 2)]) rfl sc__law_same.nd (pi_range1 (by rfl) B.range (pa_cons (pe_callB (clLen K) (by rfl) B.len (by decide +kernel) (pa_cons (pv 1) pa_nil)) pa_nil)) (blkOk_by (own := [("k", 2)]) (N := ["told", "due", "k", "key"]) (sc := defScope s__law_same) (by decide +kernel)) (fun _ _ _ _ _ => (pg_name (i := 2) sc__law_same.nd rfl (Or.inl rfl))) (fun _ _ _ _ _ => (pts_one (pt_cmpR op_ne (pe_slice sl_str (pv 0) (po_some (pv 2)) (po_some (pe_op op_add (pv 2) pe_int))) (pe_ix (ixQ K) (pv 1) (pv 2) (fun _ _ => rfl)) (nomark _)))) (fun _ _ _ _ _ => (pv 2))) (pe_lst pa_nil) (nomark _)))))))
      pss_nil)
      (pss_cons (ps_if (pt_val (pe_callB (clIsi K) (by rfl) B.isinstance (by decide +kernel) (pa_cons (pv 1) (pa_cons (pe_bltn (v := .ty "dict") (by rfl) B.dict (by decide +kernel) rfl) pa_nil))))
      (pss_one (ps_ret (pe_and (pe_callB (clIsi K) (by rfl) B.isinstance (by decide +kernel) (pa_cons (pv 0) (pa_cons (pe_bltn (v := .ty "dict") (by rfl) B.dict (by decide +kernel) rfl) pa_nil))) (pe_and (pe_cmpR op_eq (pe_callB (clLen K) (by rfl) B.len (by decide +kernel) (pa_cons (pv 0) pa_nil)) (pe_callB (clLen K) (by rfl) B.len (by decide +kernel) (pa_cons (pv 1) pa_nil)) (nomark _)) (pe_one (pe_cmpR (opEqD K hr) (pe_lock (pe_lc (own := [("key", 3)]) rfl sc__law_same.nd (pi_keys (pv 1)) (blkOk_by (own := [("key", 3)]) (N := ["told", "due", "k", "key"]) (sc := defScope s__law_same) (by decide +kernel)) (fun _ _ _ _ _ => (pg_name (i := 3) sc__law_same.nd rfl (Or.inl rfl))) (fun _ _ _ _ _ => (pts_one (PW.pt (pw_or (pt_cmp (pc_dnotin (hu_of hr) (pv 3) (pv 0))) (pw_or1 (pt_not (pt_val (pe_cl d__law_same bd__law_same (hr.mono (by omega)) passL (pa_cons (pe_dget (hu_of hr) (pv 0) (pv 3) (fun _ _ => rfl)) (pa_cons (pe_dget (hu_of hr) (pv 1) (pv 3) (fun _ _ => rfl)) pa_nil)))))))))) (fun _ _ _ _ _ => (pv 3)))) (pe_lst pa_nil) (nomark _)))))))
      pss_nil)
      (pss_cons (ps_if (PW.pt (pw_or (pt_not (pt_val (pe_callB (clIsiT K) (by rfl) B.isinstance (by decide +kernel) (pa_cons (pv 1) (pa_cons (pe_tup (pa_cons (pe_bltn (v := .ty "list") (by rfl) B.list (by decide +kernel) rfl) (pa_cons (pe_bltn (v := .ty "tuple") (by rfl) B.tuple (by decide +kernel) rfl) pa_nil))) pa_nil))))) (pw_or1 (pt_not (pt_val (pe_callB (clIsiT K) (by rfl) B.isinstance (by decide +kernel) (pa_cons (pv 0) (pa_cons (pe_tup (pa_cons (pe_bltn (v := .ty "list") (by rfl) B.list (by decide +kernel) rfl) (pa_cons (pe_bltn (v := .ty "tuple") (by rfl) B.tuple (by decide +kernel) rfl) pa_nil))) pa_nil))))))))
      (pss_one (ps_ret pe_bl))
      pss_nil)
      (pss_cons (ps_if (PW.pt (pw_or (pt_cmpR op_ne (pe_callB (clIsi K) (by rfl) B.isinstance (by decide +kernel) (pa_cons (pv 0) (pa_cons (pe_bltn (v := .ty "list") (by rfl) B.list (by decide +kernel) rfl) pa_nil))) (pe_callB (clIsi K) (by rfl) B.isinstance (by decide +kernel) (pa_cons (pv 1) (pa_cons (pe_bltn (v := .ty "list") (by rfl) B.list (by decide +kernel) rfl) pa_nil))) (nomark _)) (pw_or1 (pt_cmpR op_ne (pe_callB (clLen K) (by rfl) B.len (by decide +kernel) (pa_cons (pv 0) pa_nil)) (pe_callB (clLen K) (by rfl) B.len (by decide +kernel) (pa_cons (pv 1) pa_nil)) (nomark _)))))
      (pss_one (ps_ret pe_bl))
      pss_nil)
      (pss_one (ps_ret (pe_cmpR (opEqD K hr) (pe_lc (own := [("k", 2)]) rfl sc__law_same.nd (pi_range1 (by rfl) B.range (pa_cons (pe_callB (clLen K) (by rfl) B.len (by decide +kernel) (pa_cons (pv 1) pa_nil)) pa_nil)) (blkOk_by (own := [("k", 2)]) (N := ["told", "due", "k", "key"]) (sc := defScope s__law_same) (by decide +kernel)) (fun _ _ _ _ _ => (pg_name (i := 2) sc__law_same.nd rfl (Or.inl rfl))) (fun _ _ _ _ _ => (pts_one (pt_not (pt_val (pe_cl d__law_same bd__law_same (hr.mono (by omega)) passL (pa_cons (pe_ix (ixQ K) (pv 0) (pv 2) (fun _ _ => rfl)) (pa_cons (pe_ix (ixQ K) (pv 1) (pv 2) (fun _ _ => rfl)) pa_nil))))))) (fun _ _ _ _ _ => (pv 2))) (pe_lst pa_nil) (nomark _)))))))))))), ?_⟩
    cases d with
    | non =>
      cases ra; cases rb
      decreasing_trivial_pre_omega
      exact k H (Same.refl H)
    | bl c =>
      cases ra; cases rb
      cases c <;> decreasing_trivial_pre_omega <;> exact k H (Same.refl H)
    | int i =>
      cases ra; cases rb
      decreasing_trivial_pre_omega
      have e : decide (V.int (i - i) = V.int 0) = true := decide_eq_true (by rw [Int.sub_self])
      show Q (V.bl (decide (V.int (i - i) = V.int 0))) H
      rw [e]
      exact k H (Same.refl H)
    | str s =>
      cases ra; rename_i hs; cases rb
      decreasing_trivial_pre_omega
      refine if_t (decide_eq_true rfl) ?_
      decreasing_trivial_pre_omega
      refine ⟨by omega, by omega, fun D hD => ?_⟩
      have s0 : Same H (upd H D (.lst [])) := same_new hD
      refine lc_range (lo := 0) (n := s.length) (fun i H' => Same H H' ∧ H' D = some (.lst [])) ⟨s0, upd_same⟩ ?_ ?_
      · rintro i H' hi ⟨s1, hd⟩
        have lt : i < s.cps.toList.length := by rw [Array.length_toList]; exact hi
        obtain ⟨c, hc⟩ : ∃ c, s.cps.toList[i]? = some c := ⟨_, List.getElem?_eq_getElem lt⟩
        refine ⟨rfl, ?_⟩
        decreasing_trivial_pre_omega
        refine ixq_s (sz _ hs) (atI_ok (by omega) (by rw [Int.zero_add, Int.toNat_natCast]; exact hc)) ?_
        have e : cutS s (some (0 + (i : Int))) (some (0 + (i : Int) + 1)) = ⟨#[c]⟩ := by rw [Int.zero_add]; exact cut_one hc
        rw [e]
        refine ⟨rfl, _, rfl, ?_⟩
        refine if_f (by rw [decide_eq_true rfl] <;> rfl) ?_
        exact ⟨s1, hd⟩
      · rintro H' ⟨s1, hd⟩
        refine ⟨Nat.zero_le _, fun p hp => ?_⟩
        refine eq_nil (.inl (.inl ?_)) (.inl (.inl upd_same)) ?_
        · rw [upd_ne (ne_of_none hd hp)]
          exact hd
        · exact k _ (Same.trans s1 (same_new hp))
    | dct l =>
      obtain ⟨a1, rfl, h1, f1⟩ := ra.inv_dct
      obtain ⟨b1, rfl, h2, f2⟩ := rb.inv_dct
      decreasing_trivial_pre_omega
      refine if_t (decide_eq_true rfl) ?_
      refine ⟨b1, _, h2, trivial, fun od => ?_⟩
      have sl : ∀ (a : Addr) (u : HO), Rd H a u → Rd (upd H b1 (.frz od (.dK l))) a u := by
        intro a u q
        by_cases e : a = b1
        · subst e
          rcases q with q | ⟨o, q⟩
          · rw [h2] at q
            cases q
            exact .inr ⟨_, upd_same⟩
          · rw [h2] at q
            cases q
        · rcases q with q | ⟨o, q⟩
          · exact .inl (by rw [upd_ne e]; exact q)
          · exact .inr ⟨o, by rw [upd_ne e]; exact q⟩
      refine ⟨_, rfl, b1, od, rfl, .inl ⟨l, upd_same, fun D hD => ?_⟩⟩
      have nD : D ≠ b1 := by
        intro e
        rw [e, upd_same] at hD
        cases hD
      have fD : H D = none := by rw [upd_ne nD] at hD; exact hD
      have s0 : Same (upd H b1 (.frz od (.dK l))) (upd (upd H b1 (.frz od (.dK l))) D (.lst [])) := same_new hD
      refine lc_it (n := l.length) walk_keys (fun i H' => Same (upd H b1 (.frz od (.dK l))) H' ∧ H' D = some (.lst [])) ⟨s0, upd_same⟩ (fun i H' _ q => q.1 _ _ upd_same) ?_ ?_
      · rintro i x H' H'' hi ⟨s1, hd⟩ ⟨rfl, key, v, hk, rfl⟩
        have ra2 : Rd H'' a1 (.dK l) := Same.rd s1 (sl _ _ (.inl h1))
        have rb2 : Rd H'' b1 (.dK l) := .inr ⟨od, s1 _ _ upd_same⟩
        obtain ⟨v2, hv2, hm2⟩ : ∃ v2, valV l key = some v2 ∧ (key, v2) ∈ l := by
          have hm : (key, v) ∈ l := List.mem_of_getElem? hk
          unfold valV
          cases e : l.find? fun kv => decide (kv.1 = key) with
          | none =>
            have z := List.find?_eq_none.mp e _ hm
            simp at z
          | some p =>
            have z := List.find?_some e
            have z2 : p.1 = key := by simpa using z
            have z3 := List.mem_of_find?_eq_some e
            exact ⟨p.2, rfl, by rw [← z2]; exact z3⟩
        obtain ⟨d2, e2, q2⟩ := f1 _ hm2
        obtain ⟨rp, dp⟩ := rep_ofV (K := K) (H := H'') e2 q2
        refine ⟨rfl, ?_⟩
        decreasing_trivial_pre_omega
        refine ⟨a1, some v2, rfl, .inl ⟨l, key, ra2, rfl, hv2.symm⟩, ?_⟩
        decreasing_trivial_pre_omega
        refine ⟨a1, v2, rfl, .inl ⟨l, key, ra2, rfl, hv2.symm⟩, ?_⟩
        decreasing_trivial_pre_omega
        refine ⟨b1, v2, rfl, .inl ⟨l, key, rb2, rfl, hv2.symm⟩, ?_⟩
        refine ⟨v2, v2, d2, rfl, rp, rp, ?_, fun H3 s3 => ?_⟩
        · have z : (PD.dct l).deep = 1 := rfl
          omega
        · refine ⟨true, rfl, ?_⟩
          exact ⟨Same.trans s1 s3, s3 _ _ hd⟩
      · rintro H' ⟨s1, hd⟩
        refine ⟨s1 _ _ upd_same, ?_⟩
        have eD : (upd H' b1 (.dK l)) D = some (.lst []) := by rw [upd_ne nD]; exact hd
        have s2 : Same H (upd H' b1 (.dK l)) := by
          intro b o e
          by_cases hb : b = b1
          · subst hb
            rw [h2] at e
            cases e
            exact upd_same
          · rw [upd_ne hb]
            exact s1 _ _ (by rw [upd_ne hb]; exact e)
        refine ⟨Nat.zero_le _, fun p hp => ?_⟩
        refine eq_nil (.inl (.inl ?_)) (.inl (.inl upd_same)) ?_
        · rw [upd_ne (ne_of_none eD hp)]
          exact eD
        · exact k _ (Same.trans s2 (same_new hp))
    | lst l =>
      obtain ⟨a1, xs1, rfl, h1, r1, small⟩ := ra.inv_lst
      obtain ⟨b1, xs2, rfl, h2, r2, _⟩ := rb.inv_lst
      have l1 := RepL.len r1
      have l2 := RepL.len r2
      have dl : PD.deepL l < n := by
        have z : (PD.lst l).deep = PD.deepL l + 1 := rfl
        omega
      decreasing_trivial_pre_omega
      refine isi_seq rb fun H1 s1 => ?_
      have ra1 := ra.mono s1
      decreasing_trivial_pre_omega
      refine isi_seq ra1 fun H2 s2 => ?_
      have s02 := Same.trans s1 s2
      have ra2 := ra.mono s02
      have rb2 := rb.mono s02
      have h12 := Same.sql s02 h1
      have h22 := Same.sql s02 h2
      decreasing_trivial_pre_omega
      refine if_f (by rw [l1, l2, decide_eq_true rfl] <;> rfl) ?_
      decreasing_trivial_pre_omega
      refine ⟨?_, ?_, fun D hD => ?_⟩
      · omega
      · omega
      · have s0 : Same H2 (upd H2 D (.lst [])) := same_new hD
        refine lc_range (lo := 0) (n := xs2.length) (fun i H' => Same H2 H' ∧ H' D = some (.lst [])) ⟨s0, upd_same⟩ ?_ ?_
        · rintro i H' hi ⟨s3, hd⟩
          have lt : i < l.length := by omega
          have ed : l[i]? = some (l[i]) := List.getElem?_eq_getElem lt
          obtain ⟨v1, e1, q1⟩ := RepL.get r1 ed
          obtain ⟨v2, e2, q2⟩ := RepL.get r2 ed
          have s03 := Same.trans s02 s3
          have hl1 := Same.sql s03 h1
          have hl2 := Same.sql s03 h2
          refine ⟨rfl, ?_⟩
          decreasing_trivial_pre_omega
          refine ixq_l hl1 (atI_ok (by omega) (by rw [Int.zero_add, Int.toNat_natCast]; exact e1)) ?_
          decreasing_trivial_pre_omega
          refine ixq_l hl2 (atI_ok (by omega) (by rw [Int.zero_add, Int.toNat_natCast]; exact e2)) ?_
          refine ⟨v1, v2, l[i], rfl, q1.mono s03, q2.mono s03, Nat.lt_of_le_of_lt (deepL_at ed) dl, fun H3 s4 => ?_⟩
          refine ⟨true, rfl, ?_⟩
          exact ⟨Same.trans s3 s4, s4 _ _ hd⟩
        · rintro H' ⟨s3, hd⟩
          refine ⟨Nat.zero_le _, fun p hp => ?_⟩
          refine eq_nil (.inl (.inl ?_)) (.inl (.inl upd_same)) ?_
          · rw [upd_ne (ne_of_none hd hp)]
            exact hd
          · exact k _ (Same.trans (Same.trans s02 s3) (same_new hp))
    | tup l =>
      obtain ⟨a1, xs1, rfl, h1, r1, small⟩ := ra.inv_tup
      obtain ⟨b1, xs2, rfl, h2, r2, _⟩ := rb.inv_tup
      have l1 := RepL.len r1
      have l2 := RepL.len r2
      have dl : PD.deepL l < n := by
        have z : (PD.tup l).deep = PD.deepL l + 1 := rfl
        omega
      decreasing_trivial_pre_omega
      refine isi_seq rb fun H1 s1 => ?_
      have ra1 := ra.mono s1
      decreasing_trivial_pre_omega
      refine isi_seq ra1 fun H2 s2 => ?_
      have s02 := Same.trans s1 s2
      have ra2 := ra.mono s02
      have rb2 := rb.mono s02
      have h12 := Same.sqt s02 h1
      have h22 := Same.sqt s02 h2
      decreasing_trivial_pre_omega
      refine if_f (by rw [l1, l2, decide_eq_true rfl] <;> rfl) ?_
      decreasing_trivial_pre_omega
      refine ⟨?_, ?_, fun D hD => ?_⟩
      · omega
      · omega
      · have s0 : Same H2 (upd H2 D (.lst [])) := same_new hD
        refine lc_range (lo := 0) (n := xs2.length) (fun i H' => Same H2 H' ∧ H' D = some (.lst [])) ⟨s0, upd_same⟩ ?_ ?_
        · rintro i H' hi ⟨s3, hd⟩
          have lt : i < l.length := by omega
          have ed : l[i]? = some (l[i]) := List.getElem?_eq_getElem lt
          obtain ⟨v1, e1, q1⟩ := RepL.get r1 ed
          obtain ⟨v2, e2, q2⟩ := RepL.get r2 ed
          have s03 := Same.trans s02 s3
          have hl1 := Same.sqt s03 h1
          have hl2 := Same.sqt s03 h2
          refine ⟨rfl, ?_⟩
          decreasing_trivial_pre_omega
          refine ixq_t hl1 (atI_ok (by omega) (by rw [Int.zero_add, Int.toNat_natCast]; exact e1)) ?_
          decreasing_trivial_pre_omega
          refine ixq_t hl2 (atI_ok (by omega) (by rw [Int.zero_add, Int.toNat_natCast]; exact e2)) ?_
          refine ⟨v1, v2, l[i], rfl, q1.mono s03, q2.mono s03, Nat.lt_of_le_of_lt (deepL_at ed) dl, fun H3 s4 => ?_⟩
          refine ⟨true, rfl, ?_⟩
          exact ⟨Same.trans s3 s4, s4 _ _ hd⟩
        · rintro H' ⟨s3, hd⟩
          refine ⟨Nat.zero_le _, fun p hp => ?_⟩
          refine eq_nil (.inl (.inl ?_)) (.inl (.inl upd_same)) ?_
          · rw [upd_ne (ne_of_none hd hp)]
            exact hd
          · exact k _ (Same.trans (Same.trans s02 s3) (same_new hp))
end

end K30

namespace K30
open PySem PySem.Spec PyProof.Rows L2 GB
local macro_rules | `(tactic| array_mem_dec) => `(tactic| first
  | assumption | exact .non | exact .bl _ | exact .int _ | exact .str _ (by assumption) | exact .str _ (by decide))
local macro_rules | `(tactic| sizeOf_list_dec) => `(tactic| (show Hold _; first
  | (with_reducible refine len_l (xs := ?_) ?_ ?_; rotate_left; focus (assumption))
  | (with_reducible refine len_t (xs := ?_) ?_ ?_; rotate_left; focus (assumption))
  | (with_reducible refine len_s ?_ ?_; focus (first | assumption | exact sz _ (by assumption)))
  | (with_reducible refine len_d (kvs := ?_) ?_ ?_; rotate_left; focus (assumption))
  | (with_reducible refine isi_int (d := ?_) ?_ ?_; rotate_left; focus (array_mem_dec))
  | (with_reducible refine isi_bool (d := ?_) ?_ ?_; rotate_left; focus (array_mem_dec))
  | (with_reducible refine isi_str (d := ?_) ?_ ?_; rotate_left; focus (array_mem_dec))
  | (with_reducible refine isi_lst (d := ?_) ?_ ?_; rotate_left; focus (array_mem_dec))
  | (with_reducible refine isi_tup (d := ?_) ?_ ?_; rotate_left; focus (array_mem_dec))
  | (with_reducible refine isi_dct (d := ?_) ?_ ?_; rotate_left; focus (array_mem_dec))))
local macro_rules | `(tactic| array_get_dec) => `(tactic| first
  | (refine ⟨_, rfl, ?_⟩)
  | (refine ⟨rfl, ?_⟩)
  | (refine ⟨_, _, rfl, rfl, ?_⟩)
  | sizeOf_list_dec
  | (refine Or.inl ⟨_, rfl, ?_⟩)
  | (refine ⟨?_, ?_⟩; focus ((with_reducible refine sz _ ?_); first | assumption | exact Nat.le_of_ble_eq_true rfl))
  | (refine ⟨?_, ?_⟩; focus ((with_reducible show (_ : Int) ≠ 0); first | decide | omega))
  | (refine ⟨Or.inl ⟨?_, ?_⟩, ?_⟩; (focus decide); (focus decide)))
local macro_rules | `(tactic| decreasing_trivial_pre_omega) => `(tactic| repeat array_get_dec)

/-! ### the heap behind draws -/
/-- all but the box at p stands as it stood -/
def But (p : Addr) (H H' : Hp) : Prop := ∀ a u, a ≠ p → H a = some u → H' a = some u
theorem But.refl (p : Addr) (H : Hp) : But p H H := fun _ _ _ h => h
theorem But.trans {p : Addr} {H H1 H2 : Hp} (a : But p H H1) (b : But p H1 H2) : But p H H2 := fun x u n h => b x u n (a x u n h)
theorem But.of {p : Addr} {H H' : Hp} (s : Same H H') : But p H H' := fun _ _ _ h => s _ _ h
theorem But.box {p : Addr} {H : Hp} {o : HO} : But p H (upd H p o) := fun a u n h => by rw [upd_ne n]; exact h
theorem off {H : Hp} {a p : Addr} {o : HO} (n : H p = none) (h : H a = some o) : p ≠ a := by
  intro e
  rw [e, h] at n
  cases n
structure Box (p : Addr) (c : Int) (H0 H : Hp) : Prop where
  at_ : ∃ o, H p = some (.lst o) ∧ BoxIs o c
  but : But p H0 H
theorem Box.same {p : Addr} {c : Int} {H0 H H' : Hp} (b : Box p c H0 H) (s : Same H H') : Box p c H0 H' := by
  obtain ⟨⟨o, h, i⟩, k⟩ := b
  exact ⟨⟨o, s _ _ h, i⟩, k.trans (.of s)⟩
theorem Box.take {p : Addr} {c e : Int} {H0 H : Hp} {o : List V} (b : Box p c H0 H) (i : BoxIs o e) : Box p e H0 (upd H p (.lst o)) := ⟨⟨o, upd_same, i⟩, b.but.trans .box⟩
theorem Box.mono {p : Addr} {c e : Int} {H0 H : Hp} (b : Box p c H0 H) (l : c ≤ e) : Box p e H0 H := by
  obtain ⟨⟨o, h, i⟩, k⟩ := b
  exact ⟨⟨o, h, i.mono l⟩, k⟩
/-- a draw, read -/
theorem take_rd {p : Addr} {m c : Int} {H0 H : Hp} {Q : VK} (b : Box p c H0 H) (c0 : 0 ≤ c) (c1 : c < 1000000) (m0 : 0 < m) (m1 : m < 1073741824)
    (q : ∀ (r : Int) (H' : Hp), 0 ≤ r → r < m → Box p (c + 1) H0 H' → But p H H' → Q (.int r) H') : Hold (TakeP ([.ref p, .int m] ++ []) H Q) := by
  obtain ⟨⟨o, h, i⟩, k⟩ := id b
  exact .mk ⟨p, m, c, o, rfl, h, i, c0, c1, m0, m1, fun r o' r0 r1 i' => q r _ r0 r1 (b.take i') .box⟩
/-- what a drawing def keeps: n draws at most -/
def drew (p : Addr) (c n : Int) (H : Hp) (H' : Hp) : Prop := Box p (c + n) H H'
theorem pick {xs : List V} {r : Int} (h0 : 0 ≤ r) (h1 : r < xs.length) : ∃ v, atI xs r = some v ∧ v ∈ xs := by
  have lt : r.toNat < xs.length := by omega
  exact ⟨xs[r.toNat], atI_ok h0 (List.getElem?_eq_getElem lt), List.getElem_mem lt⟩
theorem rep_two {K : PySem.W.Frag} {H : Hp} {p : Addr} {s : Str} {v : V} {d : PD} (h : H p = some (.lst [.str s, v])) (hs : s.length ≤ 100000) (r : Rep K H v d) : Rep K H (.ref p) (.lst [.str s, d]) :=
  .lst (Nat.le_of_ble_eq_true rfl) (.inl (.inl h)) (.cons (.str s hs) (.cons r .nil))
theorem rep_l2 {K : PySem.W.Frag} {H : Hp} {p : Addr} {v1 v2 : V} {d1 d2 : PD} (h : H p = some (.lst [v1, v2])) (r1 : Rep K H v1 d1) (r2 : Rep K H v2 d2) : Rep K H (.ref p) (.lst [d1, d2]) :=
  .lst (Nat.le_of_ble_eq_true rfl) (.inl (.inl h)) (.cons r1 (.cons r2 .nil))
theorem rep_t2 {K : PySem.W.Frag} {H : Hp} {p : Addr} {v1 v2 : V} {d1 d2 : PD} (h : H p = some (.tup [v1, v2])) (r1 : Rep K H v1 d1) (r2 : Rep K H v2 d2) : Rep K H (.ref p) (.tup [d1, d2]) :=
  .tup (Nat.le_of_ble_eq_true rfl) (.inl (.inl h)) (.cons r1 (.cons r2 .nil))
theorem told_len : ("told" : Str).length ≤ 100000 := by decide +kernel
theorem Box.new_ne {p x : Addr} {c : Int} {H0 H : Hp} (b : Box p c H0 H) (n : H x = none) : x ≠ p := by
  obtain ⟨⟨o, h, _⟩, _⟩ := b
  exact off n h
theorem But.free {p D : Addr} {H H' : Hp} (b : But p H H') (n : H' D = none) (dp : D ≠ p) : H D = none := by
  cases e : H D with
  | none => rfl
  | some u =>
    rw [b D u dp e] at n
    cases n
theorem But.upd {p D : Addr} {H H' : Hp} {o : HO} (b : But p H H') (n : H D = none) : But p H (L2.upd H' D o) := by
  intro a u na h
  rw [upd_ne (ne_of_none h n)]
  exact b a u na h
theorem Box.upd {p D : Addr} {c : Int} {H0 H : Hp} {o : HO} (b : Box p c H0 H) (n : H0 D = none) (dp : D ≠ p) : Box p c H0 (L2.upd H D o) := by
  obtain ⟨⟨x, h, i⟩, k⟩ := b
  exact ⟨⟨x, by rw [upd_ne (Ne.symm dp)]; exact h, i⟩, k.upd n⟩

/-! ### a value that is a list or a dict gets one item more -/
def more : V := .str "more"
def GrownP (K : PySem.W.Frag) (vs : List V) (H : Hp) (Q : VK) : Prop := ∃ (v : V), vs = [v] ∧
      ((∃ d, Rep K H v d ∧ d.isLst = false ∧ d.isDct = false ∧ Q .non H) ∨
      (∃ a xs, v = .ref a ∧ H a = some (.lst xs) ∧ xs.length ≤ 100 ∧ Q .non (upd H a (.lst (xs ++ [more])))) ∨
      (∃ a kvs, v = .ref a ∧ H a = some (.dK kvs) ∧ kvs.length ≤ 100 ∧ Q .non (upd H a (.dK (putK kvs (.inr "more") (.int 1))))))
def spGrown (K : PySem.W.Frag) : Sp := fun vs H Q _ => Hold (GrownP K vs H Q)
section
variable {P : Program} {w : World} {K : PySem.W.Frag} {mg : Str → Option Value} {base : Heap}
theorem isi_l {a : Addr} {xs : List V} {H : Hp} {Q : VK} {n : String} {b : Bool} (h : H a = some (.lst xs)) (hb : kitB "list" n = some b) (q : Q (.bl b) H) : Hold (rIsi K [.ref a, .ty n] H Q) :=
  .mk ⟨_, _, _, _, b, rfl, .ty n, .base (.lst h), kit_ty hb, q⟩
theorem isi_d {a : Addr} {xs : List (Key × V)} {H : Hp} {Q : VK} {n : String} {b : Bool} (h : H a = some (.dK xs)) (hb : kitB "dict" n = some b) (q : Q (.bl b) H) : Hold (rIsi K [.ref a, .ty n] H Q) :=
  .mk ⟨_, _, _, _, b, rfl, .ty n, .base (.dK h), kit_ty hb, q⟩
theorem ok_grown (F : ∃ f fd, Fun K "_law_grown" "_law_grown" s__law_grown f fd ∧ mg "_law_grown" = some (.ref f)) (B : Bi mg) : Dn P w K mg base 1 "_law_grown" s__law_grown ["value"] (spGrown K) := by
  obtain ⟨f, fd, F, gm⟩ := F
  refine ⟨f, fd, F.okX sc__law_grown (fun vs H Q E h => ?_) (fun cdv A outer s H vs Q E hr h => ?_), gm, F⟩
  · obtain ⟨v, rfl, _⟩ := h.h
    rfl
  · obtain ⟨v, rfl, h2⟩ := h.h
    refine ⟨_, PSs.nox ((pss_cons (ps_if (pt_val (pe_callB (clIsi K) (by rfl) B.isinstance (by decide +kernel) (pa_cons (pv 0) (pa_cons (pe_bltn (v := .ty "list") (by rfl) B.list (by decide +kernel) rfl) pa_nil))))
      (pss_one (ps_expr (pe_bm PySem.F.plainAttrs_list PySem.F.slot_list_append PySem.F.type_list_append mt_append (pv 0) (pa_cons pe_str pa_nil))))
      pss_nil)
      (pss_one (ps_if (pt_val (pe_callB (clIsi K) (by rfl) B.isinstance (by decide +kernel) (pa_cons (pv 0) (pa_cons (pe_bltn (v := .ty "dict") (by rfl) B.dict (by decide +kernel) rfl) pa_nil))))
      (pss_one (ps_dput (hu_of hr) (pv 0) pe_str pe_int rfl))
      pss_nil)))), ?_⟩
    rcases h2 with ⟨d, r, e1, e2, k⟩ | ⟨a, xs, rfl, ha, hl, k⟩ | ⟨a, kvs, rfl, ha, hl, k⟩
    · decreasing_trivial_pre_omega
      rw [e1]
      decreasing_trivial_pre_omega
      rw [e2]
      exact k
    · refine ⟨_, rfl, ?_⟩
      refine isi_l ha (b := true) (by decide +kernel) ?_
      decreasing_trivial_pre_omega
      refine ⟨.inl ⟨rfl, _, .inl (.inl ha)⟩, a, xs, more, rfl, rfl, ha, szl _ (by omega), ?_⟩
      refine ⟨_, rfl, ?_⟩
      refine isi_l upd_same (b := false) (by decide +kernel) ?_
      exact ⟨_, rfl, k⟩
    · refine ⟨_, rfl, ?_⟩
      refine isi_d ha (b := false) (by decide +kernel) ?_
      decreasing_trivial_pre_omega
      refine isi_d ha (b := true) (by decide +kernel) ?_
      decreasing_trivial_pre_omega
      exact ⟨a, _, rfl, DPut.k (k := Sum.inr "more") ha (szl _ (by omega)), k⟩
end

end K30

namespace K30
open PySem PySem.Spec PyProof.Rows L2 GB
local macro_rules | `(tactic| array_mem_dec) => `(tactic| first
  | assumption | exact .non | exact .bl _ | exact .int _ | exact .str _ (by assumption) | exact .str _ (by decide))
local macro_rules | `(tactic| sizeOf_list_dec) => `(tactic| (show Hold _; first
  | (with_reducible refine len_l (xs := ?_) ?_ ?_; rotate_left; focus (assumption))
  | (with_reducible refine len_t (xs := ?_) ?_ ?_; rotate_left; focus (assumption))
  | (with_reducible refine len_s ?_ ?_; focus (first | assumption | exact sz _ (by assumption)))
  | (with_reducible refine len_d (kvs := ?_) ?_ ?_; rotate_left; focus (assumption))
  | (with_reducible refine isi_int (d := ?_) ?_ ?_; rotate_left; focus (array_mem_dec))
  | (with_reducible refine isi_bool (d := ?_) ?_ ?_; rotate_left; focus (array_mem_dec))
  | (with_reducible refine isi_str (d := ?_) ?_ ?_; rotate_left; focus (array_mem_dec))
  | (with_reducible refine isi_lst (d := ?_) ?_ ?_; rotate_left; focus (array_mem_dec))
  | (with_reducible refine isi_tup (d := ?_) ?_ ?_; rotate_left; focus (array_mem_dec))
  | (with_reducible refine isi_dct (d := ?_) ?_ ?_; rotate_left; focus (array_mem_dec))))
local macro_rules | `(tactic| array_get_dec) => `(tactic| first
  | (refine ⟨_, rfl, ?_⟩)
  | (refine ⟨rfl, ?_⟩)
  | (refine ⟨_, _, rfl, rfl, ?_⟩)
  | sizeOf_list_dec
  | (refine Or.inl ⟨_, rfl, ?_⟩)
  | (refine ⟨?_, ?_⟩; focus ((with_reducible refine sz _ ?_); first | assumption | exact Nat.le_of_ble_eq_true rfl))
  | (refine ⟨?_, ?_⟩; focus ((with_reducible show (_ : Int) ≠ 0); first | decide | omega))
  | (refine ⟨Or.inl ⟨?_, ?_⟩, ?_⟩; (focus decide); (focus decide)))
local macro_rules | `(tactic| decreasing_trivial_pre_omega) => `(tactic| repeat array_get_dec)

/-! ### the numbers, one script's cell -/
def spNR : Sp := fun vs H Q _ => ∃ (p : Addr) (b : Bool) (c : Int) (H0 : Hp), vs = [.ref p, .bl b] ∧ Box p c H0 H ∧ 0 ≤ c ∧ c < 900000 ∧ ∀ H', Box p (c + 20) H0 H' → But p H H' → Q (.bl true) H'
def rows30 (M ra rb rc : Int) : List Int := [M, M + 1, M - 1, 1 + ra, 10 ^ Int.toNat 18, 10 ^ Int.toNat 18 - rb, 1 + rc ^ Int.toNat 2, 1, 2]
theorem mem_map {xs : List Int} {i : Nat} {v : V} (h : (xs.map V.int)[i]? = some v) : ∃ n, v = V.int n ∧ xs[i]? = some n := by
  rw [List.getElem?_map] at h
  cases e : xs[i]? with
  | none =>
    rw [e] at h
    cases h
  | some n =>
    rw [e] at h
    exact ⟨n, (Option.some.inj h).symm, rfl⟩
section
variable {P : Program} {w : World} {K : PySem.W.Frag} {mg : Str → Option Value} {base : Heap}
theorem ok_numbers (F : At K mg "_law_numbers_right" s__law_numbers_right) (B : Bi mg) (d__law_take : Dn P w K mg base 1 "_law_take" s__law_take ["box", "many"] spTake)
    (d__law_ways : Dn P w K mg base 1 "_law_ways" s__law_ways ["n", "k"] spC) (d__law_alike : Dn P w K mg base 2 "_law_alike" s__law_alike ["many", "c"] spAl)
    (d__law_met : Dn P w K mg base 5 "_law_met" s__law_met ["kind", "args", "by_name"] (spMet K)) (d__law_same : Dn P w K mg base 8 "_law_same" s__law_same ["told", "due"] (spSame K 8)) :
    Dn P w K mg base 10 "_law_numbers_right" s__law_numbers_right ["box", "by_name"] spNR := by
  obtain ⟨f, fd, F, gm⟩ := F
  refine ⟨f, fd, F.okX sc__law_numbers_right (fun vs H Q E h => ?_) (fun cdv A outer s H vs Q E hr h => ?_), gm, F⟩
  · obtain ⟨p, b, c, H0, rfl, _⟩ := h
    rfl
  · obtain ⟨p, b, c, H0, rfl, hB, c0, c1, k⟩ := h
    refine ⟨_, PSs.nox ((pss_cons (ps_par (i := 2) (j := 3) (by rfl) sc__law_numbers_right.nd rfl rfl (by decide) rfl rfl (pa_cons (pe_ix (ixL K) (pe_lst (pa_cons pe_int (pa_cons pe_int (pa_cons pe_int (pa_cons pe_int (pa_cons (pe_op op_add pe_int (pe_cl d__law_take bd__law_take (hr.mono (by omega)) passL (pa_cons (pv 0) (pa_cons pe_int pa_nil)))) pa_nil)))))) (pe_cl d__law_take bd__law_take (hr.mono (by omega)) passL (pa_cons (pv 0) (pa_cons pe_int pa_nil))) (fun _ _ => rfl)) (pa_cons (pe_cl d__law_take bd__law_take (hr.mono (by omega)) passL (pa_cons (pv 0) (pa_cons pe_int pa_nil))) pa_nil)) (by rfl))
      (pss_cons (ps_set (i := 4) sc__law_numbers_right.nd rfl (Or.inl rfl) (pe_cl d__law_ways bd__law_ways (hr.mono (by omega)) passL (pa_cons (pe_op op_add (pv 2) (pv 3)) (pa_cons (pv 2) pa_nil))))
      (pss_cons (ps_if (pt_not (pt_val (pe_cl d__law_same bd__law_same (hr.mono (by omega)) passL (pa_cons (pe_lst (pa_cons (pe_cl d__law_met bd__law_met (hr.mono (by omega)) passL (pa_cons pe_int (pa_cons (pe_lst (pa_cons (pv 2) (pa_cons (pv 3) pa_nil))) (pa_cons (pv 1) pa_nil)))) (pa_cons (pe_cl d__law_met bd__law_met (hr.mono (by omega)) passL (pa_cons pe_int (pa_cons (pe_lst (pa_cons (pv 2) (pa_cons (pv 3) pa_nil))) (pa_cons (pe_not (pv 1)) pa_nil)))) pa_nil))) (pa_cons (pe_lst (pa_cons (pe_lst (pa_cons pe_str (pa_cons (pv 4) pa_nil))) (pa_cons (pe_lst (pa_cons pe_str (pa_cons (pv 4) pa_nil))) pa_nil))) pa_nil)))))
      (pss_one (ps_ret pe_bl))
      pss_nil)
      (pss_cons (ps_set (i := 5) sc__law_numbers_right.nd rfl (Or.inl rfl) (pe_lst (pa_cons (pv 4) (pa_cons (pe_op op_add (pv 4) pe_int) (pa_cons (pe_op op_sub (pv 4) pe_int) (pa_cons (pe_op op_add pe_int (pe_cl d__law_take bd__law_take (hr.mono (by omega)) passL (pa_cons (pv 0) (pa_cons pe_int pa_nil)))) (pa_cons (pe_op op_pow pe_int pe_int) (pa_cons (pe_op op_sub (pe_op op_pow pe_int pe_int) (pe_cl d__law_take bd__law_take (hr.mono (by omega)) passL (pa_cons (pv 0) (pa_cons pe_int pa_nil)))) (pa_cons (pe_op op_add pe_int (pe_op op_pow (pe_callTy call_int1 (by rfl) B.int (by decide +kernel) (pa_cons (pe_cl d__law_take bd__law_take (hr.mono (by omega)) passL (pa_cons (pv 0) (pa_cons (pe_op op_pow pe_int pe_int) pa_nil))) pa_nil)) pe_int)) (pa_cons pe_int (pa_cons pe_int pa_nil)))))))))))
      (pss_cons (ps_for PassesOwn.never rfl (piL K (pe_lc (own := [("many", 6)]) rfl sc__law_numbers_right.nd (piL K (pv 5)) (blkOk_by (own := [("many", 6)]) (N := ["box", "by_name", "c", "r", "most", "rows", "many", "due"]) (sc := defScope s__law_numbers_right) (by decide +kernel)) (fun _ _ _ _ _ => (pg_name (i := 6) sc__law_numbers_right.nd rfl (Or.inl rfl))) (fun _ _ _ _ _ => (pts_one (pt_chain op_le op_le pe_int (pv 6) (pe_op op_pow pe_int pe_int)))) (fun _ _ _ _ _ => (pv 6)))) (pg_name (i := 6) sc__law_numbers_right.nd rfl (Or.inl rfl))
      (pss_cons (ps_set (i := 7) sc__law_numbers_right.nd rfl (Or.inl rfl) (pe_cl d__law_alike bd__law_alike (hr.mono (by omega)) passL (pa_cons (pv 6) (pa_cons (pv 2) pa_nil))))
      (pss_cons (ps_if (PW.pt (pw_or (PW.pt (pw_and (pt_cmpR op_gt (pe_ix (ixT K) (pv 7) pe_int (fun _ _ => rfl)) pe_int (nomark _)) (pw_and1 (pt_cmpR op_ge (pe_cl d__law_ways bd__law_ways (hr.mono (by omega)) passL (pa_cons (pe_op op_sub (pe_op op_add (pv 2) (pe_ix (ixT K) (pv 7) pe_int (fun _ _ => rfl))) pe_int) (pa_cons (pv 2) pa_nil))) (pv 6) (nomark _))))) (pw_or1 (pt_cmpR op_lt (pe_cl d__law_ways bd__law_ways (hr.mono (by omega)) passL (pa_cons (pe_op op_add (pv 2) (pe_ix (ixT K) (pv 7) pe_int (fun _ _ => rfl))) (pa_cons (pv 2) pa_nil))) (pv 6) (nomark _)))))
      (pss_one (ps_ret pe_bl))
      pss_nil)
      (pss_cons (ps_if (pt_not (pt_val (pe_cl d__law_same bd__law_same (hr.mono (by omega)) passL (pa_cons (pe_cl d__law_met bd__law_met (hr.mono (by omega)) passL (pa_cons pe_int (pa_cons (pe_lst (pa_cons (pv 6) (pa_cons (pv 2) pa_nil))) (pa_cons (pv 1) pa_nil)))) (pa_cons (pe_lst (pa_cons pe_str (pa_cons (pv 7) pa_nil))) pa_nil)))))
      (pss_one (ps_ret pe_bl))
      pss_nil)
      (pss_one (ps_set (i := 1) sc__law_numbers_right.nd rfl (Or.inl rfl) (pe_not (pv 1))))))))
      (pss_one (ps_ret pe_bl)))))))), ?_⟩
    decreasing_trivial_pre_omega
    refine take_rd hB (by omega) (by omega) (by decide) (by decide) fun r1 H1 r1a r1b hB1 bt1 => ?_
    decreasing_trivial_pre_omega
    refine fun x hx => ?_
    have hB1' := hB1.same (same_new (o := .lst [.int 1, .int 2, .int 3, .int 40, .int (1 + r1)]) hx)
    have xp : x ≠ p := by
      intro e
      obtain ⟨⟨o, ho, _⟩, _⟩ := hB1
      rw [e, ho] at hx
      cases hx
    decreasing_trivial_pre_omega
    refine take_rd hB1' (by omega) (by omega) (by decide) (by decide) fun r2 H2 r2a r2b hB2 bt2 => ?_
    have hx2 : H2 x = some (.lst [.int 1, .int 2, .int 3, .int 40, .int (1 + r1)]) := bt2 _ _ xp upd_same
    obtain ⟨v, av, mv⟩ := pick (xs := [.int 1, .int 2, .int 3, .int 40, .int (1 + r1)]) r2a r2b
    obtain ⟨cc, rfl, cc1, cc2⟩ : ∃ cc : Nat, v = .int cc ∧ 1 ≤ cc ∧ cc ≤ 40 := by
      simp only [List.mem_cons, List.not_mem_nil, or_false] at mv
      rcases mv with rfl | rfl | rfl | rfl | rfl
      · exact ⟨1, rfl, by omega, by omega⟩
      · exact ⟨2, rfl, by omega, by omega⟩
      · exact ⟨3, rfl, by omega, by omega⟩
      · exact ⟨40, rfl, by omega, by omega⟩
      · exact ⟨(1 + r1).toNat, by rw [Int.toNat_of_nonneg (by omega)], by omega, by omega⟩
    refine ix_l (.inl (.inl hx2)) av ?_
    decreasing_trivial_pre_omega
    refine take_rd hB2 (by omega) (by omega) (by decide) (by decide) fun r3 H3 r3a r3b hB3 bt3 => ?_
    obtain ⟨rr, rfl⟩ := Int.eq_ofNat_of_zero_le r3a
    refine ⟨_, _, rfl, ?_⟩
    decreasing_trivial_pre_omega
    refine ⟨cc + rr, cc, rfl, by omega, by omega, by omega, ?_⟩
    decreasing_trivial_pre_omega
    refine fun a1 n1 => ?_
    decreasing_trivial_pre_omega
    have nb : btw 1 40 (.int (cc : Int)) = true := by
      show (decide ((1 : Int) ≤ cc) && decide ((cc : Int) ≤ 40)) = true
      rw [decide_eq_true (by omega), decide_eq_true (by omega)] <;> rfl
    have nr : btw 0 60 (.int (rr : Int)) = true := by
      show (decide ((0 : Int) ≤ rr) && decide ((rr : Int) ≤ 60)) = true
      rw [decide_eq_true (by omega), decide_eq_true (by omega)] <;> rfl
    refine ⟨1, a1, .int cc, .int rr, .int cc, .int rr, b, rfl, .inl (.inl upd_same), .int _, .int _, fun z => absurd z (by decide), fun _ => ⟨fun z => (by rw [nb] at z; cases z), fun _ z => (by rw [nr] at z; cases z), fun c' r' e1 e2 _ _ _ p1 H4 s4 _ hp1 => ?_⟩⟩
    cases e1
    cases e2
    decreasing_trivial_pre_omega
    refine fun a2 n2 => ?_
    decreasing_trivial_pre_omega
    refine ⟨1, a2, .int cc, .int rr, .int cc, .int rr, !b, rfl, .inl (.inl upd_same), .int _, .int _, fun z => absurd z (by decide), fun _ => ⟨fun z => (by rw [nb] at z; cases z), fun _ z => (by rw [nr] at z; cases z), fun c' r' e1 e2 _ _ _ p2 H5 s5 _ hp2 => ?_⟩⟩
    cases e1
    cases e2
    decreasing_trivial_pre_omega
    refine fun a3 n3 => ?_
    decreasing_trivial_pre_omega
    refine fun a4 n4 => ?_
    decreasing_trivial_pre_omega
    refine fun a5 n5 => ?_
    decreasing_trivial_pre_omega
    refine fun a6 n6 => ?_
    have g4 := same_new (o := .lst [.str "told", .int (MB.C (cc + rr) cc : Nat)]) n4
    have g5 := same_new (o := .lst [.str "told", .int (MB.C (cc + rr) cc : Nat)]) n5
    have g6 := same_new (o := .lst [.ref a4, .ref a5]) n6
    have g35 := (same_new (o := .lst [.ref p1, .ref p2]) n3).trans (g4.trans (g5.trans g6))
    have t1 := (same_new (o := .lst [.int cc, .int rr]) n1).trans (s4.trans ((same_new (o := .lst [.int cc, .int rr]) n2).trans (s5.trans g35)))
    refine ⟨.ref a3, .ref a6, .lst [.lst [.str "told", .int (MB.C (cc + rr) cc : Nat)], .lst [.str "told", .int (MB.C (cc + rr) cc : Nat)]], rfl,
      rep_l2 ((g4.trans (g5.trans g6)) _ _ upd_same) (rep_two (((same_new n2).trans (s5.trans g35)) _ _ hp1) told_len (.int _)) (rep_two (g35 _ _ hp2) told_len (.int _)),
      rep_l2 upd_same (rep_two ((g5.trans g6) _ _ upd_same) told_len (.int _)) (rep_two (g6 _ _ upd_same) told_len (.int _)), Nat.le_of_ble_eq_true rfl, fun H6 s6 => ?_⟩
    have hB6 := hB3.same (t1.trans s6)
    have bt6 : But p H H6 := bt1.trans ((But.of (same_new hx)).trans (bt2.trans (bt3.trans (.of (t1.trans s6)))))
    decreasing_trivial_pre_omega
    refine take_rd hB6 (by omega) (by omega) (by decide) (by decide) fun ra H7 raa rab hB7 bt7 => ?_
    decreasing_trivial_pre_omega
    refine ⟨⟨by decide, by decide, by decide⟩, ?_⟩
    decreasing_trivial_pre_omega
    refine ⟨⟨by decide, by decide, by decide⟩, ?_⟩
    decreasing_trivial_pre_omega
    refine take_rd hB7 (by omega) (by omega) (by decide) (by decide) fun rb H8 rba rbb hB8 bt8 => ?_
    decreasing_trivial_pre_omega
    refine ⟨⟨by decide, by decide, by decide⟩, ?_⟩
    decreasing_trivial_pre_omega
    refine take_rd hB8 (by omega) (by omega) (by decide) (by decide) fun rc H9 rca rcb hB9 bt9 => ?_
    have rc9 : rc < 1000000000 := rcb
    decreasing_trivial_pre_omega
    refine ⟨⟨by decide, by decide, by omega⟩, ?_⟩
    decreasing_trivial_pre_omega
    refine fun a7 n7 => ?_
    have hB10 := hB9.same (same_new (o := .lst ((rows30 (MB.C (cc + rr) cc : Nat) ra rb rc).map V.int)) n7)
    have bt10 : But p H _ := bt6.trans (bt7.trans (bt8.trans (bt9.trans (.of (same_new (o := .lst ((rows30 (MB.C (cc + rr) cc : Nat) ra rb rc).map V.int)) n7)))))
    refine ⟨_, rfl, a7, rfl, ⟨(rows30 (MB.C (cc + rr) cc : Nat) ra rb rc).map V.int, .inl (.inl upd_same)⟩, fun D nD => ?_⟩
    have dp := hB10.new_ne nD
    have d7 : D ≠ a7 := off nD upd_same
    refine lc_list (K := K) (a := a7) (xs := (rows30 (MB.C (cc + rr) cc : Nat) ra rb rc).map V.int) (fun i H' => Box p (c + 6) H0 H' ∧ But p H H' ∧ H' a7 = some (.lst ((rows30 (MB.C (cc + rr) cc : Nat) ra rb rc).map V.int)) ∧
      ∃ ms : List Int, H' D = some (.lst (ms.map V.int)) ∧ ms.length ≤ i ∧ ∀ m ∈ ms, 1 ≤ m ∧ m ≤ 10 ^ 18)
      ⟨hB10.same (same_new nD) |>.mono (by omega), bt10.trans (.of (same_new nD)), same_new nD _ _ upd_same, [], upd_same, Nat.zero_le _, fun m z => by cases z⟩ (fun i H' _ z => .inl (.inl z.2.2.1)) ?_ ?_
    · rintro i y H' hi ⟨b1, b2, h7, ms, hD, hl, hm⟩
      obtain ⟨m, rfl, _⟩ := mem_map hi
      have ln : i < 9 := by
        have := (List.getElem?_eq_some_iff.mp hi).1
        rw [List.length_map] at this
        exact this
      refine ⟨rfl, ?_⟩
      decreasing_trivial_pre_omega
      by_cases m1 : 1 ≤ m
      · refine if_t (decide_eq_true m1) ?_
        refine ⟨_, _, rfl, rfl, ⟨by decide, by decide, by decide⟩, ?_⟩
        decreasing_trivial_pre_omega
        refine if_b (fun hd => ?_) (fun hd => ?_)
        · have m2 : m ≤ 10 ^ 18 := of_decide_eq_true hd
          decreasing_trivial_pre_omega
          refine ⟨ms.map V.int, hD, szl _ (by rw [List.length_map]; omega), ?_⟩
          have e : (ms.map V.int) ++ [V.int m] = (ms ++ [m]).map V.int := by rw [List.map_append]; rfl
          rw [e]
          refine ⟨b1.upd (hB10.but.free nD dp) dp, b2.upd (bt10.free nD dp), ?_, ms ++ [m], upd_same, ?_, ?_⟩
          · rw [upd_ne (Ne.symm d7)]
            exact h7
          · rw [List.length_append, List.length_singleton]
            omega
          · intro x hx
            rcases List.mem_append.mp hx with q | q
            · exact hm x q
            · rw [List.mem_singleton.mp q]
              exact ⟨m1, m2⟩
        · exact ⟨b1, b2, h7, ms, hD, by omega, hm⟩
      · refine if_f (decide_eq_false m1) ?_
        decreasing_trivial_pre_omega
        exact ⟨b1, b2, h7, ms, hD, by omega, hm⟩
    · rintro H' ⟨b1, b2, h7, ms, hD, hl, hm⟩
      have lm : ms.length ≤ 9 := by
        rw [List.length_map] at hl
        exact hl
      refine ⟨D, rfl, ⟨_, .inl (.inl hD)⟩, for_list (K := K) (a := D) (xs := ms.map V.int) (fun i σ H2 => ∃ (bb : Bool) (x1 x2 : Option V) (M : Int), σ = [some (.ref p), some (.bl bb), some (.int cc), some (.int rr), some (.int M), some (.ref a7), x1, x2] ∧ Box p (c + 6) H0 H2 ∧ But p H H2 ∧ H2 D = some (.lst (ms.map V.int)))
        ⟨b, none, none, _, rfl, b1, b2, hD⟩ (fun i σ H2 _ ⟨_, _, _, _, _, _, _, z⟩ => .inl (.inl z)) ?_ ?_⟩
      · rintro i y σ H2 hi ⟨bb, x1, x2, M, rfl, bx1, bx2, hD2⟩
        obtain ⟨m, rfl, hmi⟩ := mem_map hi
        obtain ⟨m1, m2⟩ := hm m (List.mem_of_getElem? hmi)
        obtain ⟨l, rfl⟩ := Int.eq_ofNat_of_zero_le (show 0 ≤ m by omega)
        have l1 : 1 ≤ l := by omega
        have l2 : l ≤ 10 ^ 18 := by omega
        decreasing_trivial_pre_omega
        refine ⟨l, cc, rfl, l1, l2, cc1, cc2, fun r hr hr2 t nt => ?_⟩
        have ht : upd H2 t (.tup (altup cc l r)) t = some (.tup (altup cc l r)) := upd_same
        have hst := same_new (o := .tup (altup cc l r)) nt
        decreasing_trivial_pre_omega
        refine ix_t (.inl (.inl ht)) (v := .int r) (atI_ok (by decide) rfl) ?_
        decreasing_trivial_pre_omega
        by_cases r0 : 0 < r
        case' pos =>
          refine if_t (decide_eq_true (by omega)) ?_
          decreasing_trivial_pre_omega
          refine ix_t (.inl (.inl ht)) (v := .int r) (atI_ok (by decide) rfl) ?_
          decreasing_trivial_pre_omega
          have en : ((cc : Int) + (r : Int) - 1) = ((cc + (r - 1) : Nat) : Int) := by omega
          have sm := hr.2 (r - 1) (by omega)
          refine ⟨cc + (r - 1), cc, by show [V.int ((cc : Int) + (r : Int) - 1), V.int (cc : Int)] = _; rw [en], by omega, by omega, by omega, ?_⟩
          decreasing_trivial_pre_omega
          refine if_f (decide_eq_false (by omega)) ?_
        case' neg =>
          refine if_f (decide_eq_false (by omega)) ?_
        all_goals
          decreasing_trivial_pre_omega
          refine ix_t (.inl (.inl ht)) (v := .int r) (atI_ok (by decide) rfl) ?_
          decreasing_trivial_pre_omega
          have big := hr.1
          refine ⟨cc + r, cc, rfl, by omega, by omega, by omega, ?_⟩
          decreasing_trivial_pre_omega
          refine if_f (decide_eq_false (by omega)) ?_
          decreasing_trivial_pre_omega
          refine fun a8 n8 => ?_
          decreasing_trivial_pre_omega
          have nl : btw 1 (10 ^ 18) (.int (l : Int)) = true := by
            show (decide ((1 : Int) ≤ l) && decide ((l : Int) ≤ 10 ^ 18)) = true
            rw [decide_eq_true (by omega), decide_eq_true (by omega)] <;> rfl
          refine ⟨0, a8, .int l, .int cc, .int l, .int cc, bb, rfl, .inl (.inl upd_same), .int _, .int _, fun _ => ⟨fun z => (by rw [nl] at z; cases z), fun _ z => (by rw [nb] at z; cases z), fun l' c' r' e1 e2 _ _ _ _ hr' _ t' p3 H3 s3 _ ht' hp3 => ?_⟩, fun z => absurd rfl z⟩
          cases e1
          cases e2
          have er := hr.one hr'
          subst er
          decreasing_trivial_pre_omega
          refine fun a9 n9 => ?_
          have s9 := same_new (o := .lst [.str "told", .ref t]) n9
          have s28 := hst.trans ((same_new n8).trans (s3.trans s9))
          refine ⟨.ref p3, .ref a9, .lst [.str "told", .tup [.int r, .int ((r : Int) * (l : Int) - (MB.C (cc + r) (cc + 1) : Nat))]], rfl,
            rep_two (s9 _ _ hp3) told_len (rep_t2 (s9 _ _ ht') (.int _) (.int _)), rep_two upd_same told_len (rep_t2 (((same_new n8).trans (s3.trans s9)) _ _ ht) (.int _) (.int _)), Nat.le_of_ble_eq_true rfl, fun H4 s4 => ?_⟩
          decreasing_trivial_pre_omega
          have s24 := s28.trans s4
          exact ⟨!bb, _, _, M, rfl, bx1.same s24, bx2.trans (.of s24), s24 _ _ hD2⟩
      · rintro σ H2 ⟨bb, x1, x2, M, rfl, bx1, bx2, hD2⟩
        decreasing_trivial_pre_omega
        exact k _ (bx1.mono (by omega)) bx2
end

end K30

namespace K30
open PySem PySem.Spec PyProof.Rows L2 GB
local macro_rules | `(tactic| array_mem_dec) => `(tactic| first
  | assumption | exact .non | exact .bl _ | exact .int _ | exact .str _ (by assumption) | exact .str _ (by decide))
local macro_rules | `(tactic| sizeOf_list_dec) => `(tactic| (show Hold _; first
  | (with_reducible refine len_l (xs := ?_) ?_ ?_; rotate_left; focus (assumption))
  | (with_reducible refine len_t (xs := ?_) ?_ ?_; rotate_left; focus (assumption))
  | (with_reducible refine len_s ?_ ?_; focus (first | assumption | exact sz _ (by assumption)))
  | (with_reducible refine len_d (kvs := ?_) ?_ ?_; rotate_left; focus (assumption))
  | (with_reducible refine isi_int (d := ?_) ?_ ?_; rotate_left; focus (array_mem_dec))
  | (with_reducible refine isi_bool (d := ?_) ?_ ?_; rotate_left; focus (array_mem_dec))
  | (with_reducible refine isi_str (d := ?_) ?_ ?_; rotate_left; focus (array_mem_dec))
  | (with_reducible refine isi_lst (d := ?_) ?_ ?_; rotate_left; focus (array_mem_dec))
  | (with_reducible refine isi_tup (d := ?_) ?_ ?_; rotate_left; focus (array_mem_dec))
  | (with_reducible refine isi_dct (d := ?_) ?_ ?_; rotate_left; focus (array_mem_dec))))
local macro_rules | `(tactic| array_get_dec) => `(tactic| first
  | (refine ⟨_, rfl, ?_⟩)
  | (refine ⟨rfl, ?_⟩)
  | (refine ⟨_, _, rfl, rfl, ?_⟩)
  | sizeOf_list_dec
  | (refine Or.inl ⟨_, rfl, ?_⟩)
  | (refine ⟨?_, ?_⟩; focus ((with_reducible refine sz _ ?_); first | assumption | exact Nat.le_of_ble_eq_true rfl))
  | (refine ⟨?_, ?_⟩; focus ((with_reducible show (_ : Int) ≠ 0); first | decide | omega))
  | (refine ⟨Or.inl ⟨?_, ?_⟩, ?_⟩; (focus decide); (focus decide)))
local macro_rules | `(tactic| decreasing_trivial_pre_omega) => `(tactic| repeat array_get_dec)

/-! ### values that are refused, changed behind the call -/
theorem same_del {p : Addr} {H H' : Hp} (b : But p H H') : Same (del H p) H' := by
  intro a u h
  by_cases e : a = p
  · rw [e, del_same] at h
    cases h
  · rw [del_ne e] at h
    exact b a u e h
theorem del_mono {a : Addr} {H H' : Hp} (s : Same H H') : Same (del H a) (del H' a) := by
  intro b u h
  by_cases e : b = a
  · rw [e, del_same] at h
    cases h
  · rw [del_ne e] at h
    rw [del_ne e]
    exact s b u h
theorem del_sub {a : Addr} {H : Hp} : Same (del H a) H := by
  intro b u h
  by_cases e : b = a
  · rw [e, del_same] at h
    cases h
  · rw [del_ne e] at h
    exact h
theorem del_upd {a : Addr} {H : Hp} {o : HO} : Same (del H a) (upd H a o) := by
  intro b u h
  by_cases e : b = a
  · rw [e, del_same] at h
    cases h
  · rw [del_ne e] at h
    rw [upd_ne e]
    exact h
/-- a value that can be refused: a list of data, an empty dict, or no list and no dict -/
def Odd (K : PySem.W.Frag) (H : Hp) (v : V) (d : PD) : Prop := (Rep K H v d ∧ d.isLst = false ∧ d.isDct = false) ∨ (∃ a xs ds, v = .ref a ∧ d = .lst ds ∧ H a = some (.lst xs) ∧ RepL K (del H a) xs ds ∧ ds.length ≤ 100) ∨
  (∃ a, v = .ref a ∧ d = .dct [] ∧ H a = some (.dK []))
section
variable {K : PySem.W.Frag} {H H' : Hp} {v : V} {d : PD}
theorem Odd.rep (o : Odd K H v d) : Rep K H v d := by
  rcases o with ⟨r, _⟩ | ⟨a, xs, ds, rfl, rfl, h, r, l⟩ | ⟨a, rfl, rfl, h⟩
  · exact r
  · exact .lst (by omega) (.inl (.inl h)) (r.mono del_sub)
  · exact .dct h (fun p z => by cases z)
theorem Odd.mono (o : Odd K H v d) (s : Same H H') : Odd K H' v d := by
  rcases o with ⟨r, e⟩ | ⟨a, xs, ds, rfl, rfl, h, r, l⟩ | ⟨a, rfl, rfl, h⟩
  · exact .inl ⟨r.mono s, e⟩
  · exact .inr (.inl ⟨a, xs, ds, rfl, rfl, s _ _ h, r.mono (del_mono s), l⟩)
  · exact .inr (.inr ⟨a, rfl, rfl, s _ _ h⟩)
/-- it gets one item more, read -/
theorem grown_rd {Q : VK} (o : Odd K H v d) (hd : d.deep ≤ 5) (q : ∀ H' d', (∀ b u, H b = some u → v ≠ .ref b → H' b = some u) → Rep K H' v d' → d'.deep ≤ 5 → Q .non H') : Hold (GrownP K ([v] ++ []) H Q) := by
  rcases o with ⟨r, e1, e2⟩ | ⟨a, xs, ds, rfl, rfl, h, r, l⟩ | ⟨a, rfl, rfl, h⟩
  · exact .mk ⟨v, rfl, .inl ⟨d, r, e1, e2, q H d (fun _ _ h _ => h) r hd⟩⟩
  · refine .mk ⟨_, rfl, .inr (.inl ⟨a, xs, rfl, h, by rw [r.len]; exact l, q _ (.lst (ds ++ [.str "more"])) ?_ ?_ ?_⟩)⟩
    · intro b u hb n
      rw [upd_ne (fun z => n (by rw [z]))]
      exact hb
    · refine .lst (by rw [List.length_append, List.length_singleton]; omega) (.inl (.inl upd_same)) ?_
      exact RepL.snoc (r.mono del_upd) (.str _ (by decide +kernel))
    · have e : ∀ l : List PD, PD.deepL (l ++ [.str "more"]) = PD.deepL l := by
        intro l
        induction l with
        | nil => rfl
        | cons x r ih =>
          show max (PD.deep x) (PD.deepL (r ++ [.str "more"])) = max (PD.deep x) (PD.deepL r)
          rw [ih]
      show PD.deepL (ds ++ [.str "more"]) + 1 ≤ 5
      rw [e]
      exact hd
  · refine .mk ⟨_, rfl, .inr (.inr ⟨a, [], rfl, h, by decide, q _ (.dct (putK [] (.inr "more") (.int 1))) ?_ ?_ (by decide +kernel)⟩)⟩
    · intro b u hb n
      rw [upd_ne (fun z => n (by rw [z]))]
      exact hb
    · refine .dct upd_same ?_
      intro p z
      refine ⟨.int 1, ?_, fun s e => by cases e⟩
      have z2 : p ∈ [((Sum.inr "more" : Key), V.int 1)] := z
      rw [List.mem_singleton.mp z2]
      rfl
theorem odd_non : Odd K H .non .non := .inl ⟨.non, rfl, rfl⟩
theorem odd_int (i : Int) : Odd K H (.int i) (.int i) := .inl ⟨.int i, rfl, rfl⟩
theorem odd_bl (b : Bool) : Odd K H (.bl b) (.bl b) := .inl ⟨.bl b, rfl, rfl⟩
theorem odd_str (s : Str) (h : s.length ≤ 100000) : Odd K H (.str s) (.str s) := .inl ⟨.str s h, rfl, rfl⟩
theorem odd_tup {a : Addr} {xs : List V} {ds : List PD} (h : H a = some (.tup xs)) (r : RepL K H xs ds) (l : ds.length ≤ 100) : Odd K H (.ref a) (.tup ds) := .inl ⟨.tup (by omega) (.inl (.inl h)) r, rfl, rfl⟩
theorem odd_lst {a : Addr} {xs : List V} {ds : List PD} (h : H a = some (.lst xs)) (r : RepL K (del H a) xs ds) (l : ds.length ≤ 100) : Odd K H (.ref a) (.lst ds) := .inr (.inl ⟨a, xs, ds, rfl, rfl, h, r, l⟩)
theorem odd_dct {a : Addr} (h : H a = some (.dK [])) : Odd K H (.ref a) (.dct []) := .inr (.inr ⟨a, rfl, rfl, h⟩)
end

section
variable {P : Program} {w : World} {K : PySem.W.Frag} {mg : Str → Option Value} {base : Heap}
/-- nine values, one of which is drawn: seven plain ones or lists of one number, or a dict -/
theorem nine {Hb H : Hp} {p : Addr} {vs : List V} {a1 a2 a3 : Addr} {x y : Int} {bad : PD → Bool} {us : List (V × PD)} (h1 : H a1 = some (.lst [.int x])) (h2 : H a2 = some (.tup [.int y])) (h3 : H a3 = some (.dK []))
    (n1 : a1 ≠ p) (n2 : a2 ≠ p) (n3 : a3 ≠ p) (z1 : Hb a1 = none) (z2 : Hb a2 = none) (z3 : Hb a3 = none) (hv : vs = us.map (·.1) ++ [.ref a1, .ref a2, .ref a3])
    (hu : ∀ q ∈ us, PD.ofV q.1 = some q.2 ∧ bad q.2 = true ∧ ∀ s, q.2 = .str s → s.length ≤ 100000) (b1 : bad (.lst [.int x]) = true) (b2 : bad (.tup [.int y]) = true) (b3 : bad (.dct []) = true) :
    ∀ v ∈ vs, ∃ d, Odd K (del H p) v d ∧ d.deep ≤ 1 ∧ bad d = true ∧ ∀ b, v = .ref b → Hb b = none ∧ b ≠ p ∧ ∃ u, H b = some u := by
  intro v hm
  rw [hv] at hm
  rcases List.mem_append.mp hm with q | q
  · obtain ⟨⟨v', d⟩, hq, rfl⟩ := List.mem_map.mp q
    obtain ⟨e1, e2, e3⟩ := hu _ hq
    obtain ⟨r, dp⟩ := rep_ofV (K := K) (H := del H p) e1 e3
    refine ⟨d, .inl ⟨r, ?_, ?_⟩, by show d.deep ≤ 1; rw [dp]; exact Nat.zero_le _, e2, fun b e => by
      have e' : v' = .ref b := e
      rw [e'] at e1
      cases e1⟩
    · cases d <;> first | rfl | (simp at dp; done) | (cases v' <;> cases e1)
    · cases d <;> first | rfl | (simp at dp; done) | (cases v' <;> cases e1)
  · simp only [List.mem_cons, List.not_mem_nil, or_false] at q
    rcases q with rfl | rfl | rfl
    · exact ⟨_, odd_lst (by rw [del_ne n1]; exact h1) (.cons (.int _) .nil) (Nat.le_of_ble_eq_true rfl), Nat.le_of_ble_eq_true rfl, b1, fun b e => by cases e; exact ⟨z1, n1, _, h1⟩⟩
    · exact ⟨_, odd_tup (by rw [del_ne n2]; exact h2) (.cons (.int _) .nil) (Nat.le_of_ble_eq_true rfl), Nat.le_of_ble_eq_true rfl, b2, fun b e => by cases e; exact ⟨z2, n2, _, h2⟩⟩
    · exact ⟨_, odd_dct (by rw [del_ne n3]; exact h3), Nat.le_of_ble_eq_true rfl, b3, fun b e => by cases e; exact ⟨z3, n3, _, h3⟩⟩
theorem ok_refused (F : At K mg "_law_refused_right" s__law_refused_right) (B : Bi mg) (d__law_take : Dn P w K mg base 1 "_law_take" s__law_take ["box", "many"] spTake) (d__law_grown : Dn P w K mg base 1 "_law_grown" s__law_grown ["value"] (spGrown K))
    (d__law_met : Dn P w K mg base 5 "_law_met" s__law_met ["kind", "args", "by_name"] (spMet K)) (d__law_same : Dn P w K mg base 8 "_law_same" s__law_same ["told", "due"] (spSame K 8)) :
    Dn P w K mg base 10 "_law_refused_right" s__law_refused_right ["box", "by_name"] spNR := by
  obtain ⟨f, fd, F, gm⟩ := F
  refine ⟨f, fd, F.okX sc__law_refused_right (fun vs H Q E h => ?_) (fun cdv A outer s H vs Q E hr h => ?_), gm, F⟩
  · obtain ⟨p, b, c, H0, rfl, _⟩ := h
    rfl
  · obtain ⟨p, b, c, H0, rfl, hB, c0, c1, k⟩ := h
    refine ⟨_, PSs.nox ((pss_cons (ps_set (i := 2) sc__law_refused_right.nd rfl (Or.inl rfl) (pe_ix (ixL K) (pe_lst (pa_cons pe_non (pa_cons pe_int (pa_cons (pe_un un_neg pe_int) (pa_cons (pe_op op_add (pe_op op_pow pe_int pe_int) pe_int) (pa_cons pe_bl (pa_cons pe_str (pa_cons (pe_lst (pa_cons pe_int pa_nil)) (pa_cons (pe_tup (pa_cons pe_int pa_nil)) (pa_cons pe_dnewK pa_nil)))))))))) (pe_cl d__law_take bd__law_take (hr.mono (by omega)) passL (pa_cons (pv 0) (pa_cons pe_int pa_nil))) (fun _ _ => rfl)))
      (pss_cons (ps_set (i := 3) sc__law_refused_right.nd rfl (Or.inl rfl) (pe_cl d__law_met bd__law_met (hr.mono (by omega)) passL (pa_cons pe_int (pa_cons (pe_lst (pa_cons (pv 2) (pa_cons pe_non pa_nil))) (pa_cons (pv 1) pa_nil)))))
      (pss_cons (ps_expr (pe_cl d__law_grown bd__law_grown (hr.mono (by omega)) passL (pa_cons (pv 2) pa_nil)))
      (pss_cons (ps_if (PW.pt (pw_or (pt_cmpR op_ne (pe_ix (ixL K) (pv 3) pe_int (fun _ _ => rfl)) pe_str (nomark _)) (pw_or1 (pt_not (pt_val (pe_cl d__law_same bd__law_same (hr.mono (by omega)) passL (pa_cons (pe_ix (ixL K) (pv 3) pe_int (fun _ _ => rfl)) (pa_cons (pv 2) pa_nil))))))))
      (pss_one (ps_ret pe_bl))
      pss_nil)
      (pss_cons (ps_for PassesOwn.never rfl (piL K (pe_lst (pa_cons (pe_tup (pa_cons pe_int (pa_cons pe_int pa_nil))) (pa_cons (pe_tup (pa_cons pe_int (pa_cons pe_non pa_nil))) pa_nil)))) (pgTup K rfl (pgs_cons (pg_name (i := 4) sc__law_refused_right.nd rfl (Or.inl rfl)) (pgs_cons (pg_name (i := 5) sc__law_refused_right.nd rfl (Or.inl rfl)) pgs_nil)))
      (pss_cons (ps_set (i := 2) sc__law_refused_right.nd rfl (Or.inl rfl) (pe_ix (ixL K) (pe_lst (pa_cons pe_non (pa_cons pe_int (pa_cons pe_int (pa_cons (pe_un un_neg pe_int) (pa_cons pe_bl (pa_cons pe_str (pa_cons (pe_lst (pa_cons pe_int pa_nil)) (pa_cons (pe_tup (pa_cons pe_int pa_nil)) (pa_cons pe_dnewK pa_nil)))))))))) (pe_cl d__law_take bd__law_take (hr.mono (by omega)) passL (pa_cons (pv 0) (pa_cons pe_int pa_nil))) (fun _ _ => rfl)))
      (pss_cons (ps_set (i := 3) sc__law_refused_right.nd rfl (Or.inl rfl) (pe_cl d__law_met bd__law_met (hr.mono (by omega)) passL (pa_cons (pv 4) (pa_cons (pe_ifExp (pt_cmpR op_eq (pv 4) pe_int (nomark _)) (pe_lst (pa_cons (pv 5) (pa_cons (pv 2) pa_nil))) (pe_lst (pa_cons (pv 2) (pa_cons (pv 5) pa_nil)))) (pa_cons (pe_not (pv 1)) pa_nil)))))
      (pss_cons (ps_expr (pe_cl d__law_grown bd__law_grown (hr.mono (by omega)) passL (pa_cons (pv 2) pa_nil)))
      (pss_one (ps_if (PW.pt (pw_or (pt_cmpR op_ne (pe_ix (ixL K) (pv 3) pe_int (fun _ _ => rfl)) pe_str (nomark _)) (pw_or1 (pt_not (pt_val (pe_cl d__law_same bd__law_same (hr.mono (by omega)) passL (pa_cons (pe_ix (ixL K) (pv 3) pe_int (fun _ _ => rfl)) (pa_cons (pv 2) pa_nil))))))))
      (pss_one (ps_ret pe_bl))
      pss_nil))))))
      (pss_cons (ps_set (i := 2) sc__law_refused_right.nd rfl (Or.inl rfl) (pe_ix (ixL K) (pe_lst (pa_cons pe_non (pa_cons (pe_un un_neg pe_int) (pa_cons pe_int (pa_cons pe_bl (pa_cons pe_str (pa_cons (pe_lst (pa_cons pe_int pa_nil)) (pa_cons (pe_tup (pa_cons pe_int pa_nil)) (pa_cons pe_dnewK pa_nil))))))))) (pe_cl d__law_take bd__law_take (hr.mono (by omega)) passL (pa_cons (pv 0) (pa_cons pe_int pa_nil))) (fun _ _ => rfl)))
      (pss_cons (ps_set (i := 3) sc__law_refused_right.nd rfl (Or.inl rfl) (pe_cl d__law_met bd__law_met (hr.mono (by omega)) passL (pa_cons pe_int (pa_cons (pe_lst (pa_cons pe_int (pa_cons (pv 2) pa_nil))) (pa_cons (pv 1) pa_nil)))))
      (pss_cons (ps_expr (pe_cl d__law_grown bd__law_grown (hr.mono (by omega)) passL (pa_cons (pv 2) pa_nil)))
      (pss_one (ps_ret (pe_and (pe_cmpR op_eq (pe_ix (ixL K) (pv 3) pe_int (fun _ _ => rfl)) pe_str (nomark _)) (pe_one (pe_cl d__law_same bd__law_same (hr.mono (by omega)) passL (pa_cons (pe_ix (ixL K) (pv 3) pe_int (fun _ _ => rfl)) (pa_cons (pv 2) pa_nil)))))))))))))))), ?_⟩
    decreasing_trivial_pre_omega
    refine ⟨⟨by decide, by decide, by decide⟩, ?_⟩
    decreasing_trivial_pre_omega
    refine fun a1 n1 => ?_
    decreasing_trivial_pre_omega
    refine fun a2 n2 => ?_
    decreasing_trivial_pre_omega
    refine fun a3 n3 => ?_
    decreasing_trivial_pre_omega
    refine fun a4 n4 => ?_
    have s1 := same_new (o := .lst [.int 1]) n1
    have s2 := same_new (o := .tup [.int 1]) n2
    have s3 := same_new (o := .dK []) n3
    have q1 := hB.new_ne n1
    have q2 := (hB.same s1).new_ne n2
    have q3 := (hB.same (s1.trans s2)).new_ne n3
    have q4 := (hB.same (s1.trans (s2.trans s3))).new_ne n4
    have s4 := same_new (o := .lst [.non, .int 0, .int (-1), .int (10 ^ Int.toNat 18 + 1), .bl true, .str "1", .ref a1, .ref a2, .ref a3]) n4
    have hBc := hB.same (s1.trans (s2.trans (s3.trans s4)))
    have odds := nine (K := K) (Hb := H) (p := p) (bad := fun d => !btw 1 (10 ^ 18) d) (us := [(.non, .non), (.int 0, .int 0), (.int (-1), .int (-1)), (.int (10 ^ Int.toNat 18 + 1), .int (10 ^ Int.toNat 18 + 1)), (.bl true, .bl true), (.str "1", .str "1")])
      ((s2.trans (s3.trans s4)) _ _ upd_same) ((s3.trans s4) _ _ upd_same) (s4 _ _ upd_same) q1 q2 q3 n1 (s1.free n2) ((s1.trans s2).free n3) rfl (by
        intro q hq
        simp only [List.mem_cons, List.not_mem_nil, or_false] at hq
        rcases hq with rfl | rfl | rfl | rfl | rfl | rfl <;> exact ⟨rfl, by decide +kernel, fun s e => by cases e <;> decide +kernel⟩) rfl rfl rfl
    decreasing_trivial_pre_omega
    refine take_rd hBc (by omega) (by omega) (by decide) (by decide) fun r1 H1 r1a r1b hB1 bt1 => ?_
    obtain ⟨v, av, mv⟩ := pick (xs := [.non, .int 0, .int (-1), .int (10 ^ Int.toNat 18 + 1), .bl true, .str "1", .ref a1, .ref a2, .ref a3]) r1a r1b
    refine ix_l (.inl (.inl (bt1 _ _ q4 upd_same))) av ?_
    obtain ⟨d, od, dd, bad, own⟩ := odds v mv
    have bt1' : But p H H1 := (But.of (s1.trans (s2.trans (s3.trans s4)))).trans bt1
    have od1 := od.mono (same_del bt1)
    have own1 : ∀ b, v = .ref b → H b = none ∧ b ≠ p ∧ ∃ u, H1 b = some u := fun b e => by
      obtain ⟨e1, e2, u, e3⟩ := own b e
      exact ⟨e1, e2, u, bt1 _ _ e2 e3⟩
    clear odds s1 s2 s3 s4 hBc od bt1 mv av own
    have nbad : btw 1 (10 ^ 18) d = false := by
      cases e : btw 1 (10 ^ 18) d with
      | false => rfl
      | true =>
        have : (!btw 1 (10 ^ 18) d) = true := bad
        rw [e] at this
        cases this
    decreasing_trivial_pre_omega
    refine fun a5 n5 => ?_
    have s5 := same_new (o := .lst [v, .non]) n5
    decreasing_trivial_pre_omega
    refine ⟨0, a5, v, .non, d, .non, b, rfl, .inl (.inl upd_same), (od1.mono s5).rep, .non, fun _ => ⟨fun _ pt H2 st npt hpt => ?_, fun z => (by rw [nbad] at z; cases z), fun l c' r' e1 e2 l1 l2 => (by
      rw [e1] at nbad
      have z : (decide ((1 : Int) ≤ l) && decide ((l : Int) ≤ 10 ^ 18)) = false := nbad
      rw [decide_eq_true (by omega), decide_eq_true (by omega)] at z
      cases z)⟩, fun z => absurd rfl z⟩
    have s12 := s5.trans st
    have od2 := od1.mono s12
    decreasing_trivial_pre_omega
    refine grown_rd od2 (by omega) fun H3 d' keep rep' deep' => ?_
    have hB3 : Box p (c + 1) H0 H3 := by
      obtain ⟨⟨o, ho, io⟩, kk⟩ := hB1
      refine ⟨⟨o, keep _ _ (s12 _ _ ho) fun e => (own1 _ e).2.1 rfl, io⟩, fun x u nx hx => keep _ _ (s12 _ _ (kk x u nx hx)) fun e => ?_⟩
      have z := hB.but x u nx hx
      rw [(own1 x e).1] at z
      cases z
    have hK3 : But p H H3 := fun x u nx hx => keep _ _ (s12 _ _ (bt1' x u nx hx)) fun e => by
      have z := (own1 x e).1
      rw [hx] at z
      cases z
    have hpt3 := keep _ _ hpt fun e => by
      obtain ⟨_, _, u, z⟩ := own1 _ e
      rw [s5.free npt] at z
      cases z
    decreasing_trivial_pre_omega
    refine ix_l (.inl (.inl hpt3)) (v := .str "number") rfl ?_
    decreasing_trivial_pre_omega
    refine ix_l (.inl (.inl hpt3)) (v := v) rfl ?_
    decreasing_trivial_pre_omega
    refine ⟨v, v, d', rfl, rep', rep', by omega, fun H4 s4 => ?_⟩
    decreasing_trivial_pre_omega
    refine fun a6 n6 => ?_
    decreasing_trivial_pre_omega
    refine fun a7 n7 => ?_
    decreasing_trivial_pre_omega
    refine fun a8 n8 => ?_
    have hB4 := hB3.same s4
    have hK4 := hK3.trans (.of s4)
    have g6 := same_new (o := .tup [.int 0, .int 7]) n6
    have g7 := same_new (o := .tup [.int 1, .non]) n7
    have g8 := same_new (o := .lst [.ref a6, .ref a7]) n8
    have m6 := hB4.new_ne n6
    have m7 := (hB4.same g6).new_ne n7
    have m8 := (hB4.same (g6.trans g7)).new_ne n8
    clear keep rep' deep' st hpt hpt3 od1 own1 n5 npt nbad bt1' hB1 s12 od2 s5
    refine ⟨a8, rfl, ⟨_, .inl (.inl upd_same)⟩, for_list (K := K) (a := a8) (xs := [.ref a6, .ref a7]) (fun i σ H' => ∃ (v' : V) (x1 x2 x3 : Option V), σ = [some (.ref p), some (.bl b), some v', x1, x2, x3] ∧ Box p (c + 1 + i) H0 H' ∧ But p H H' ∧
        H' a6 = some (.tup [.int 0, .int 7]) ∧ H' a7 = some (.tup [.int 1, .non]) ∧ H' a8 = some (.lst [.ref a6, .ref a7]))
      ⟨v, _, none, none, rfl, (hB4.same (g6.trans (g7.trans g8))).mono (by omega), hK4.trans (.of (g6.trans (g7.trans g8))), (g7.trans g8) _ _ upd_same, g8 _ _ upd_same, upd_same⟩ (fun i σ H' _ ⟨_, _, _, _, _, _, _, _, _, z⟩ => .inl (.inl z)) ?_ ?_⟩
    · rintro i y σ Hi hi ⟨v0, x1, x2, x3, rfl, hBi, hKi, h6, h7, h8⟩
      match i, hi with
      | 0, hi =>
        cases hi
        refine ⟨a6, _, rfl, .inl (.inl h6), rfl, _, _, rfl, _, _, rfl, rfl, ?_⟩
        decreasing_trivial_pre_omega
        refine fun a1 n1 => ?_
        decreasing_trivial_pre_omega
        refine fun a2 n2 => ?_
        decreasing_trivial_pre_omega
        refine fun a3 n3 => ?_
        decreasing_trivial_pre_omega
        refine fun a4 n4 => ?_
        have s1 := same_new (o := .lst [.int 1]) n1
        have s2 := same_new (o := .tup [.int 1]) n2
        have s3 := same_new (o := .dK []) n3
        have q1 := hBi.new_ne n1
        have q2 := (hBi.same s1).new_ne n2
        have q3 := (hBi.same (s1.trans s2)).new_ne n3
        have q4 := (hBi.same (s1.trans (s2.trans s3))).new_ne n4
        have s4 := same_new (o := .lst [.non, .int 0, .int 41, .int (-1), .bl true, .str "1", .ref a1, .ref a2, .ref a3]) n4
        have hBc := hBi.same (s1.trans (s2.trans (s3.trans s4)))
        have odds := nine (K := K) (Hb := Hi) (p := p) (bad := fun d => !btw 1 40 d) (us := [(.non, .non), (.int 0, .int 0), (.int 41, .int 41), (.int (-1), .int (-1)), (.bl true, .bl true), (.str "1", .str "1")])
          ((s2.trans (s3.trans s4)) _ _ upd_same) ((s3.trans s4) _ _ upd_same) (s4 _ _ upd_same) q1 q2 q3 n1 (s1.free n2) ((s1.trans s2).free n3) rfl (by
            intro q hq
            simp only [List.mem_cons, List.not_mem_nil, or_false] at hq
            rcases hq with rfl | rfl | rfl | rfl | rfl | rfl <;> exact ⟨rfl, by decide +kernel, fun s e => by cases e <;> decide +kernel⟩) rfl rfl rfl
        decreasing_trivial_pre_omega
        refine take_rd hBc (by omega) (by omega) (by decide) (by decide) fun r1 H1 r1a r1b hB1 bt1 => ?_
        obtain ⟨v, av, mv⟩ := pick (xs := [.non, .int 0, .int 41, .int (-1), .bl true, .str "1", .ref a1, .ref a2, .ref a3]) r1a r1b
        refine ix_l (.inl (.inl (bt1 _ _ q4 upd_same))) av ?_
        obtain ⟨d, od, dd, bad, own⟩ := odds v mv
        have bt1' : But p Hi H1 := (But.of (s1.trans (s2.trans (s3.trans s4)))).trans bt1
        have od1 := od.mono (same_del bt1)
        have own1 : ∀ b, v = .ref b → Hi b = none ∧ b ≠ p ∧ ∃ u, H1 b = some u := fun b e => by
          obtain ⟨e1, e2, u, e3⟩ := own b e
          exact ⟨e1, e2, u, bt1 _ _ e2 e3⟩
        clear odds s1 s2 s3 s4 hBc od bt1 mv av own
        have nbad : btw 1 40 d = false := by
          cases e : btw 1 40 d with
          | false => rfl
          | true =>
            have : (!btw 1 40 d) = true := bad
            rw [e] at this
            cases this
        decreasing_trivial_pre_omega
        refine fun a5 n5 => ?_
        have s5 := same_new (o := .lst [.int 7, v]) n5
        decreasing_trivial_pre_omega
        refine ⟨0, a5, .int 7, v, .int 7, d, !b, rfl, .inl (.inl upd_same), .int _, (od1.mono s5).rep, fun _ => ⟨fun z => absurd z (by decide +kernel), fun _ _ pt H2 st npt hpt => ?_, fun l c' r' e1 e2 l1 l2 l3 l4 => (by
          rw [e2] at nbad
          have z : (decide ((1 : Int) ≤ c') && decide ((c' : Int) ≤ 40)) = false := nbad
          rw [decide_eq_true (by omega), decide_eq_true (by omega)] at z
          cases z)⟩, fun z => absurd rfl z⟩
        have s12 := s5.trans st
        have od2 := od1.mono s12
        decreasing_trivial_pre_omega
        refine grown_rd od2 (by omega) fun H3 d' keep rep' deep' => ?_
        have hB3 : Box p (c + 1 + ((0 : Nat) : Int) + 1) H0 H3 := by
          obtain ⟨⟨o, ho, io⟩, kk⟩ := hB1
          refine ⟨⟨o, keep _ _ (s12 _ _ ho) fun e => (own1 _ e).2.1 rfl, io⟩, fun x u nx hx => keep _ _ (s12 _ _ (kk x u nx hx)) fun e => ?_⟩
          have z := hBi.but x u nx hx
          rw [(own1 x e).1] at z
          cases z
        have hK3 : But p Hi H3 := fun x u nx hx => keep _ _ (s12 _ _ (bt1' x u nx hx)) fun e => by
          have z := (own1 x e).1
          rw [hx] at z
          cases z
        have hpt3 := keep _ _ hpt fun e => by
          obtain ⟨_, _, u, z⟩ := own1 _ e
          rw [s5.free npt] at z
          cases z
        decreasing_trivial_pre_omega
        refine ix_l (.inl (.inl hpt3)) (v := .str "slots") rfl ?_
        decreasing_trivial_pre_omega
        refine ix_l (.inl (.inl hpt3)) (v := v) rfl ?_
        decreasing_trivial_pre_omega
        refine ⟨v, v, d', rfl, rep', rep', by omega, fun H4 s4 => ?_⟩
        decreasing_trivial_pre_omega
        have k4 := hK3.trans (.of s4)
        exact ⟨v, _, _, _, rfl, (hB3.same s4).mono (by omega), hKi.trans k4, k4 _ _ m6 h6, k4 _ _ m7 h7, k4 _ _ m8 h8⟩
      | 1, hi =>
        cases hi
        refine ⟨a7, _, rfl, .inl (.inl h7), rfl, _, _, rfl, _, _, rfl, rfl, ?_⟩
        decreasing_trivial_pre_omega
        refine fun a1 n1 => ?_
        decreasing_trivial_pre_omega
        refine fun a2 n2 => ?_
        decreasing_trivial_pre_omega
        refine fun a3 n3 => ?_
        decreasing_trivial_pre_omega
        refine fun a4 n4 => ?_
        have s1 := same_new (o := .lst [.int 1]) n1
        have s2 := same_new (o := .tup [.int 1]) n2
        have s3 := same_new (o := .dK []) n3
        have q1 := hBi.new_ne n1
        have q2 := (hBi.same s1).new_ne n2
        have q3 := (hBi.same (s1.trans s2)).new_ne n3
        have q4 := (hBi.same (s1.trans (s2.trans s3))).new_ne n4
        have s4 := same_new (o := .lst [.non, .int 0, .int 41, .int (-1), .bl true, .str "1", .ref a1, .ref a2, .ref a3]) n4
        have hBc := hBi.same (s1.trans (s2.trans (s3.trans s4)))
        have odds := nine (K := K) (Hb := Hi) (p := p) (bad := fun d => !btw 1 40 d) (us := [(.non, .non), (.int 0, .int 0), (.int 41, .int 41), (.int (-1), .int (-1)), (.bl true, .bl true), (.str "1", .str "1")])
          ((s2.trans (s3.trans s4)) _ _ upd_same) ((s3.trans s4) _ _ upd_same) (s4 _ _ upd_same) q1 q2 q3 n1 (s1.free n2) ((s1.trans s2).free n3) rfl (by
            intro q hq
            simp only [List.mem_cons, List.not_mem_nil, or_false] at hq
            rcases hq with rfl | rfl | rfl | rfl | rfl | rfl <;> exact ⟨rfl, by decide +kernel, fun s e => by cases e <;> decide +kernel⟩) rfl rfl rfl
        decreasing_trivial_pre_omega
        refine take_rd hBc (by omega) (by omega) (by decide) (by decide) fun r1 H1 r1a r1b hB1 bt1 => ?_
        obtain ⟨v, av, mv⟩ := pick (xs := [.non, .int 0, .int 41, .int (-1), .bl true, .str "1", .ref a1, .ref a2, .ref a3]) r1a r1b
        refine ix_l (.inl (.inl (bt1 _ _ q4 upd_same))) av ?_
        obtain ⟨d, od, dd, bad, own⟩ := odds v mv
        have bt1' : But p Hi H1 := (But.of (s1.trans (s2.trans (s3.trans s4)))).trans bt1
        have od1 := od.mono (same_del bt1)
        have own1 : ∀ b, v = .ref b → Hi b = none ∧ b ≠ p ∧ ∃ u, H1 b = some u := fun b e => by
          obtain ⟨e1, e2, u, e3⟩ := own b e
          exact ⟨e1, e2, u, bt1 _ _ e2 e3⟩
        clear odds s1 s2 s3 s4 hBc od bt1 mv av own
        have nbad : btw 1 40 d = false := by
          cases e : btw 1 40 d with
          | false => rfl
          | true =>
            have : (!btw 1 40 d) = true := bad
            rw [e] at this
            cases this
        decreasing_trivial_pre_omega
        refine fun a5 n5 => ?_
        have s5 := same_new (o := .lst [v, .non]) n5
        decreasing_trivial_pre_omega
        refine ⟨1, a5, v, .non, d, .non, !b, rfl, .inl (.inl upd_same), (od1.mono s5).rep, .non, fun z => absurd z (by decide), fun _ => ⟨fun _ pt H2 st npt hpt => ?_, fun z => (by rw [nbad] at z; cases z), fun c' r' e1 e2 => (by cases e2)⟩⟩
        have s12 := s5.trans st
        have od2 := od1.mono s12
        decreasing_trivial_pre_omega
        refine grown_rd od2 (by omega) fun H3 d' keep rep' deep' => ?_
        have hB3 : Box p (c + 1 + ((1 : Nat) : Int) + 1) H0 H3 := by
          obtain ⟨⟨o, ho, io⟩, kk⟩ := hB1
          refine ⟨⟨o, keep _ _ (s12 _ _ ho) fun e => (own1 _ e).2.1 rfl, io⟩, fun x u nx hx => keep _ _ (s12 _ _ (kk x u nx hx)) fun e => ?_⟩
          have z := hBi.but x u nx hx
          rw [(own1 x e).1] at z
          cases z
        have hK3 : But p Hi H3 := fun x u nx hx => keep _ _ (s12 _ _ (bt1' x u nx hx)) fun e => by
          have z := (own1 x e).1
          rw [hx] at z
          cases z
        have hpt3 := keep _ _ hpt fun e => by
          obtain ⟨_, _, u, z⟩ := own1 _ e
          rw [s5.free npt] at z
          cases z
        decreasing_trivial_pre_omega
        refine ix_l (.inl (.inl hpt3)) (v := .str "slots") rfl ?_
        decreasing_trivial_pre_omega
        refine ix_l (.inl (.inl hpt3)) (v := v) rfl ?_
        decreasing_trivial_pre_omega
        refine ⟨v, v, d', rfl, rep', rep', by omega, fun H4 s4 => ?_⟩
        decreasing_trivial_pre_omega
        have k4 := hK3.trans (.of s4)
        exact ⟨v, _, _, _, rfl, (hB3.same s4).mono (by omega), hKi.trans k4, k4 _ _ m6 h6, k4 _ _ m7 h7, k4 _ _ m8 h8⟩
    · rintro σ Hi ⟨v0, x1, x2, x3, rfl, hBi, hKi, h6, h7, h8⟩
      replace hBi : Box p (c + 1 + ((2 : Nat) : Int)) H0 Hi := hBi
      decreasing_trivial_pre_omega
      refine fun a1 n1 => ?_
      decreasing_trivial_pre_omega
      refine fun a2 n2 => ?_
      decreasing_trivial_pre_omega
      refine fun a3 n3 => ?_
      decreasing_trivial_pre_omega
      refine fun a4 n4 => ?_
      have s1 := same_new (o := .lst [.int 0]) n1
      have s2 := same_new (o := .tup [.int 0]) n2
      have s3 := same_new (o := .dK []) n3
      have q1 := hBi.new_ne n1
      have q2 := (hBi.same s1).new_ne n2
      have q3 := (hBi.same (s1.trans s2)).new_ne n3
      have q4 := (hBi.same (s1.trans (s2.trans s3))).new_ne n4
      have s4 := same_new (o := .lst [.non, .int (-1), .int 61, .bl true, .str "0", .ref a1, .ref a2, .ref a3]) n4
      have hBc := hBi.same (s1.trans (s2.trans (s3.trans s4)))
      have odds := nine (K := K) (Hb := Hi) (p := p) (bad := fun d => !btw 0 60 d) (us := [(.non, .non), (.int (-1), .int (-1)), (.int 61, .int 61), (.bl true, .bl true), (.str "0", .str "0")])
        ((s2.trans (s3.trans s4)) _ _ upd_same) ((s3.trans s4) _ _ upd_same) (s4 _ _ upd_same) q1 q2 q3 n1 (s1.free n2) ((s1.trans s2).free n3) rfl (by
          intro q hq
          simp only [List.mem_cons, List.not_mem_nil, or_false] at hq
          rcases hq with rfl | rfl | rfl | rfl | rfl <;> exact ⟨rfl, by decide +kernel, fun s e => by cases e <;> decide +kernel⟩) rfl rfl rfl
      decreasing_trivial_pre_omega
      refine take_rd hBc (by omega) (by omega) (by decide) (by decide) fun r1 H1 r1a r1b hB1 bt1 => ?_
      obtain ⟨v, av, mv⟩ := pick (xs := [.non, .int (-1), .int 61, .bl true, .str "0", .ref a1, .ref a2, .ref a3]) r1a r1b
      refine ix_l (.inl (.inl (bt1 _ _ q4 upd_same))) av ?_
      obtain ⟨d, od, dd, bad, own⟩ := odds v mv
      have bt1' : But p Hi H1 := (But.of (s1.trans (s2.trans (s3.trans s4)))).trans bt1
      have od1 := od.mono (same_del bt1)
      have own1 : ∀ b, v = .ref b → Hi b = none ∧ b ≠ p ∧ ∃ u, H1 b = some u := fun b e => by
        obtain ⟨e1, e2, u, e3⟩ := own b e
        exact ⟨e1, e2, u, bt1 _ _ e2 e3⟩
      clear odds s1 s2 s3 s4 hBc od bt1 mv av own
      have nbad : btw 0 60 d = false := by
        cases e : btw 0 60 d with
        | false => rfl
        | true =>
          have : (!btw 0 60 d) = true := bad
          rw [e] at this
          cases this
      decreasing_trivial_pre_omega
      refine fun a5 n5 => ?_
      have s5 := same_new (o := .lst [.int 3, v]) n5
      decreasing_trivial_pre_omega
      refine ⟨1, a5, .int 3, v, .int 3, d, b, rfl, .inl (.inl upd_same), .int _, (od1.mono s5).rep, fun z => absurd z (by decide), fun _ => ⟨fun z => absurd z (by decide +kernel), fun _ _ pt H2 st npt hpt => ?_, fun c' r' e1 e2 l1 l2 l3 => (by
        rw [e2] at nbad
        have z : (decide ((0 : Int) ≤ r') && decide ((r' : Int) ≤ 60)) = false := nbad
        rw [decide_eq_true (by omega), decide_eq_true (by omega)] at z
        cases z)⟩⟩
      have s12 := s5.trans st
      have od2 := od1.mono s12
      decreasing_trivial_pre_omega
      refine grown_rd od2 (by omega) fun H3 d' keep rep' deep' => ?_
      have hB3 : Box p (c + 1 + ((2 : Nat) : Int) + 1) H0 H3 := by
        obtain ⟨⟨o, ho, io⟩, kk⟩ := hB1
        refine ⟨⟨o, keep _ _ (s12 _ _ ho) fun e => (own1 _ e).2.1 rfl, io⟩, fun x u nx hx => keep _ _ (s12 _ _ (kk x u nx hx)) fun e => ?_⟩
        have z := hBi.but x u nx hx
        rw [(own1 x e).1] at z
        cases z
      have hK3 : But p Hi H3 := fun x u nx hx => keep _ _ (s12 _ _ (bt1' x u nx hx)) fun e => by
        have z := (own1 x e).1
        rw [hx] at z
        cases z
      have hpt3 := keep _ _ hpt fun e => by
        obtain ⟨_, _, u, z⟩ := own1 _ e
        rw [s5.free npt] at z
        cases z
      decreasing_trivial_pre_omega
      refine ix_l (.inl (.inl hpt3)) (v := .str "number") rfl ?_
      decreasing_trivial_pre_omega
      refine ix_l (.inl (.inl hpt3)) (v := v) rfl ?_
      decreasing_trivial_pre_omega
      refine ⟨v, v, d', rfl, rep', rep', by omega, fun H4 s4 => ?_⟩
      decreasing_trivial_pre_omega
      exact k _ ((hB3.same s4).mono (by omega)) (hKi.trans (hK3.trans (.of s4)))
end

end K30

/-! Heaps with some lists hidden: what stands beside lists that grow. -/
namespace GB
open PySem PySem.Spec PyProof.Rows L2
def hid (l : List Addr) (H : Hp) : Hp := fun b => if b ∈ l then none else H b
section
variable {K : PySem.W.Frag} {H H' H0 : Hp} {l m : List Addr} {a b : Addr} {o : HO}
theorem hid_nil : hid [] H = H := by
  funext x
  exact if_neg (by simp)
theorem hid_at (h : a ∉ l) : hid l H a = H a := if_neg h
theorem hid_in (h : a ∈ l) : hid l H a = none := if_pos h
theorem hid_upd (h : a ∈ l) : hid l (upd H a o) = hid l H := by
  funext x
  by_cases e : x ∈ l
  · rw [hid_in e, hid_in e]
  · rw [hid_at e, hid_at e, upd_ne]
    intro z
    exact e (by rw [z]; exact h)
theorem hid_mono (s : Same H H') : Same (hid l H) (hid l H') := by
  intro x u h
  by_cases e : x ∈ l
  · rw [hid_in e] at h
    cases h
  · rw [hid_at e] at h
    rw [hid_at e]
    exact s x u h
theorem hid_same : Same (hid l H) H := by
  intro x u h
  by_cases e : x ∈ l
  · rw [hid_in e] at h
    cases h
  · rw [hid_at e] at h
    exact h
theorem hid_less (s : ∀ x ∈ l, x ∈ m) : Same (hid m H) (hid l H) := by
  intro x u h
  by_cases e : x ∈ m
  · rw [hid_in e] at h
    cases h
  · rw [hid_at e] at h
    rw [hid_at fun z => e (s x z)]
    exact h
/-- a new object that is hidden at once -/
theorem hid_new (n : H a = none) : Same (hid l H) (hid (a :: l) (upd H a o)) := by
  intro x u h
  by_cases e : x ∈ l
  · rw [hid_in e] at h
    cases h
  · rw [hid_at e] at h
    have ne : x ≠ a := ne_of_none h n
    rw [hid_at (by simp [e, ne]), upd_ne ne]
    exact h
/-- integers in a row -/
def pdI (r : List Int) : PD := .lst (r.map PD.int)
def pdII (r : List (List Int)) : PD := .lst (r.map pdI)
def pdIII (r : List (List (List Int))) : PD := .lst (r.map pdII)
theorem repI : ∀ (r : List Int), RepL K H (r.map V.int) (r.map PD.int)
  | [] => .nil
  | i :: r => .cons (.int i) (repI r)
theorem repI_inv : ∀ {r : List Int} {xs : List V}, RepL K H xs (r.map PD.int) → xs = r.map V.int
  | [], _, .nil => rfl
  | i :: r, _, .cons h t => by
    cases h
    rw [repI_inv t]
    rfl
theorem rep_ints {a : Addr} {r : List Int} (h : SqL K H a (r.map V.int)) (l : r.length ≤ 100000) : Rep K H (.ref a) (pdI r) := .lst (by rw [List.length_map]; exact l) h (repI r)
theorem rep_ints_inv {v : V} {r : List Int} (h : Rep K H v (pdI r)) : ∃ a, v = .ref a ∧ SqL K H a (r.map V.int) ∧ r.length ≤ 100000 := by
  obtain ⟨a, xs, rfl, hs, hr, hl⟩ := Rep.inv_lst h
  rw [repI_inv hr] at hs
  rw [List.length_map] at hl
  exact ⟨a, rfl, hs, hl⟩
theorem rep_rows_inv {v : V} {r : List (List Int)} (h : Rep K H v (pdII r)) : ∃ a xs, v = .ref a ∧ SqL K H a xs ∧ RepL K H xs (r.map pdI) ∧ xs.length = r.length ∧ r.length ≤ 100000 := by
  obtain ⟨a, xs, rfl, hs, hr, hl⟩ := Rep.inv_lst h
  have e := hr.len
  rw [List.length_map] at hl e
  exact ⟨a, xs, rfl, hs, hr, e, hl⟩
theorem repl_get {α : Type} {f : α → PD} {xs : List V} {r : List α} {i : Nat} {x : α} (h : RepL K H xs (r.map f)) (e : r[i]? = some x) : ∃ v, xs[i]? = some v ∧ Rep K H v (f x) :=
  RepL.get h (by rw [List.getElem?_map, e]; rfl)
theorem repl_snoc {α : Type} {f : α → PD} {xs : List V} {r : List α} {v : V} {x : α} (h : RepL K H xs (r.map f)) (k : Rep K H v (f x)) : RepL K H (xs ++ [v]) ((r ++ [x]).map f) := by
  rw [List.map_append]
  exact RepL.snoc h k
theorem at_last {α : Type} {xs : List α} {v : α} (h : xs[xs.length - 1]? = some v) : atI xs (-1) = some v := by
  have lt : xs.length - 1 < xs.length := (List.getElem?_eq_some_iff.mp h).1
  unfold atI ixN
  rw [if_neg (by decide), if_pos (by omega)]
  show xs[((-1 : Int) + (xs.length : Int)).toNat]? = some v
  have e : ((-1 : Int) + (xs.length : Int)).toNat = xs.length - 1 := by omega
  rw [e]
  exact h
end
end GB
namespace GB
open PySem PySem.Spec PyProof.Rows L2
theorem nodup_ne {l : List Addr} (h : l.Nodup) {i j : Nat} {a b : Addr} (ha : l[i]? = some a) (hb : l[j]? = some b) (n : i ≠ j) : a ≠ b := by
  intro e
  subst e
  exact n (nd_ix h ha hb)
theorem rep_zeros (n : Nat) : (List.replicate n [V.int 0]).flatten = (List.replicate n (0 : Int)).map V.int := by
  induction n with
  | zero => rfl
  | succ n ih =>
    rw [List.replicate_succ, List.flatten_cons, ih, List.replicate_succ]
    rfl
theorem set_l {v : V} {H : Hp} {Q : Hp → Prop} {p : Addr} {xs : List V} {k : Int} {j : Nat} (hp : H p = some (.lst xs)) (hk : k = (j : Int)) (hj : j < xs.length) (q : Q (upd H p (.lst (xs.set j v)))) : rSetL (.ref p) (.int k) v H Q := by
  refine ⟨p, xs, k, j, rfl, rfl, hp, ?_, q⟩
  subst hk
  unfold ixN
  rw [if_pos (by omega), if_pos (by omega)]
  rfl
end GB

/-! Tables of least costs: the costs of stretches by numbers of slots. -/
namespace MT
/-- the cost of n rounds from f on -/
def pre (cs : List Int) (f n : Nat) : Int := ((cs.drop f).take n).sum
theorem pre_zero (cs : List Int) (f : Nat) : pre cs f 0 = 0 := rfl
theorem take_more {α : Type} : ∀ {l : List α} {i : Nat} {x : α}, l[i]? = some x → l.take (i + 1) = l.take i ++ [x]
  | [], i, x, h => by simp at h
  | a :: l, 0, x, h => by
    have e : a = x := Option.some.inj h
    subst e
    rfl
  | a :: l, i + 1, x, h => by
    have ih := take_more (l := l) (i := i) (x := x) h
    show a :: l.take (i + 1) = a :: l.take i ++ [x]
    rw [ih]
    rfl
theorem pre_succ {cs : List Int} {f n : Nat} {c : Int} (h : cs[f + n]? = some c) : pre cs f (n + 1) = pre cs f n + c := by
  unfold pre
  have h2 : (cs.drop f)[n]? = some c := by rw [List.getElem?_drop]; exact h
  rw [take_more h2, List.sum_append]
  simp
/-- the least of some numbers -/
def minL : List Int → Int
  | [] => 0
  | a :: r => r.foldl min a
theorem foldl_min : ∀ (r : List Int) (a : Int), (r.foldl min a = a ∨ r.foldl min a ∈ r) ∧ r.foldl min a ≤ a ∧ ∀ y ∈ r, r.foldl min a ≤ y
  | [], a => ⟨.inl rfl, Int.le_refl a, fun y h => by cases h⟩
  | b :: r, a => by
    obtain ⟨h1, h2, h3⟩ := foldl_min r (min a b)
    show (r.foldl min (min a b) = a ∨ r.foldl min (min a b) ∈ b :: r) ∧ r.foldl min (min a b) ≤ a ∧ ∀ y ∈ b :: r, r.foldl min (min a b) ≤ y
    refine ⟨?_, ?_, ?_⟩
    · rcases h1 with h1 | h1
      · rw [h1]
        rcases Int.le_total a b with q | q
        · exact .inl (Int.min_eq_left q)
        · rw [Int.min_eq_right q]
          exact .inr List.mem_cons_self
      · exact .inr (List.mem_cons_of_mem _ h1)
    · exact Int.le_trans h2 (Int.min_le_left a b)
    · intro y hy
      rcases List.mem_cons.mp hy with rfl | hy
      · exact Int.le_trans h2 (Int.min_le_right a y)
      · exact h3 y hy
theorem minL_is {l : List Int} {m : Int} (h : m ∈ l) (hm : ∀ y ∈ l, m ≤ y) : m = minL l := by
  cases l with
  | nil => cases h
  | cons a r =>
    obtain ⟨h1, h2, h3⟩ := foldl_min r a
    have e1 : minL (a :: r) = r.foldl min a := rfl
    rw [e1]
    have mem : r.foldl min a ∈ a :: r := by
      rcases h1 with q | q
      · rw [q]; exact List.mem_cons_self
      · exact List.mem_cons_of_mem _ q
    have l1 := hm _ mem
    have l2 : r.foldl min a ≤ m := by
      rcases List.mem_cons.mp h with rfl | q
      · exact h2
      · exact h3 m q
    omega
/-- the costs with one slot -/
def T0 (cs : List Int) (f : Nat) : Nat → Int
  | 0 => 0
  | 1 => 0
  | n + 2 => T0 cs f (n + 1) + pre cs f (n + 1)
/-- the partings of n + 1 rounds from f on, r being the costs of fewer rounds -/
def parts (cs : List Int) (fewer : Nat → Nat → Int) (r : Nat → Int) (f n : Nat) : List Int := (List.range n).map fun i => pre cs f (i + 1) + fewer (f + i + 1) (n - i) + r i
/-- the costs of 1, .., n rounds from f on -/
def row (cs : List Int) (fewer : Nat → Nat → Int) (f : Nat) : Nat → List Int
  | 0 => []
  | n + 1 => row cs fewer f n ++ [if n = 0 then 0 else minL (parts cs fewer (fun i => (row cs fewer f n).getD i 0) f n)]
/-- the least cost of so many rounds from f on, with s further slots -/
def T (cs : List Int) : Nat → Nat → Nat → Int
  | 0, f, n => T0 cs f n
  | s + 1, f, n => (row cs (T cs s) f n).getD (n - 1) 0
theorem row_length (cs : List Int) (g : Nat → Nat → Int) (f : Nat) : ∀ n, (row cs g f n).length = n
  | 0 => rfl
  | n + 1 => by
    show (row cs g f n ++ [_]).length = n + 1
    rw [List.length_append, row_length cs g f n]
    rfl
theorem row_get (cs : List Int) (g : Nat → Nat → Int) (f : Nat) : ∀ (n i : Nat), i < n → (row cs g f n).getD i 0 = (row cs g f (i + 1)).getD i 0
  | 0, i, h => absurd h (Nat.not_lt_zero i)
  | n + 1, i, h => by
    rcases Nat.lt_or_ge i n with q | q
    · have e : (row cs g f (n + 1)).getD i 0 = (row cs g f n).getD i 0 := by
        show (row cs g f n ++ [_]).getD i 0 = _
        rw [List.getD_eq_getElem?_getD, List.getD_eq_getElem?_getD, List.getElem?_append_left (by rw [row_length]; exact q)]
      rw [e]
      exact row_get cs g f n i q
    · have e : i = n := by omega
      subst e
      rfl
theorem row_T (cs : List Int) (s f n : Nat) : row cs (T cs s) f n = (List.range n).map fun i => T cs (s + 1) f (i + 1) := by
  apply List.ext_getElem?
  intro i
  rcases Nat.lt_or_ge i n with q | q
  · rw [List.getElem?_map, List.getElem?_range q]
    have h := row_get cs (T cs s) f n i q
    have l : i < (row cs (T cs s) f n).length := by rw [row_length]; exact q
    rw [List.getElem?_eq_getElem l]
    rw [List.getD_eq_getElem?_getD, List.getElem?_eq_getElem l] at h
    show some _ = some (T cs (s + 1) f (i + 1))
    exact congrArg some h
  · rw [List.getElem?_eq_none (by rw [row_length]; exact q), List.getElem?_eq_none (by rw [List.length_map, List.length_range]; exact q)]
/-- the last one of a row is the least of the partings -/
theorem T_succ (cs : List Int) (s f n : Nat) (h : 0 < n) : T cs (s + 1) f (n + 1) = minL (parts cs (T cs s) (fun i => T cs (s + 1) f (i + 1)) f n) := by
  have e : T cs (s + 1) f (n + 1) = (row cs (T cs s) f (n + 1)).getD n 0 := rfl
  rw [e]
  show (row cs (T cs s) f n ++ [if n = 0 then 0 else minL _]).getD n 0 = _
  rw [List.getD_eq_getElem?_getD, List.getElem?_append_right (by rw [row_length]; exact Nat.le_refl n), row_length, Nat.sub_self, if_neg (by omega)]
  show minL _ = minL _
  congr 1
  unfold parts
  apply List.map_congr_left
  intro i hi
  have hi' : i < n := List.mem_range.mp hi
  have h1 := row_get cs (T cs s) f n i hi'
  show _ + (row cs (T cs s) f n).getD i 0 = _
  rw [h1]
  rfl
theorem T_one (cs : List Int) (s f : Nat) : T cs s f 1 = 0 := by
  cases s with
  | zero => rfl
  | succ s => rfl
/-- the row of a table: the costs of 1, 2, .. rounds from f on, up to the end -/
def tabRow (cs : List Int) (s f : Nat) : List Int := (List.range (cs.length - f)).map fun i => T cs s f (i + 1)
def tabRows (cs : List Int) (s : Nat) : List (List Int) := (List.range cs.length).map fun f => tabRow cs s f
def tab (cs : List Int) (c : Nat) : List (List (List Int)) := (List.range c).map fun s => tabRows cs s
/-- the law's sum for one slot -/
def S (cs : List Int) (f n : Nat) : Int := ((List.range n).map fun k => cs.getD (f + k) 0 * ((n : Int) - (k : Int))).sum
theorem sum_map_add {α : Type} (l : List α) (g h : α → Int) : (l.map fun x => g x + h x).sum = (l.map g).sum + (l.map h).sum := by
  induction l with
  | nil => rfl
  | cons a r ih =>
    simp only [List.map_cons, List.sum_cons, ih]
    omega
theorem pre_range {cs : List Int} {f : Nat} : ∀ {n : Nat}, f + n ≤ cs.length → pre cs f n = ((List.range n).map fun k => cs.getD (f + k) 0).sum
  | 0, _ => rfl
  | n + 1, h => by
    have lt : f + n < cs.length := by omega
    have e : cs[f + n]? = some cs[f + n] := List.getElem?_eq_getElem lt
    rw [pre_succ e, List.range_succ, List.map_append, List.sum_append, pre_range (by omega)]
    congr 1
    rw [List.map_cons, List.map_nil, List.sum_cons, List.sum_nil, List.getD_eq_getElem?_getD, e]
    simp
theorem S_T0 {cs : List Int} {f : Nat} : ∀ {n : Nat}, f + n ≤ cs.length → S cs f n = T0 cs f (n + 1)
  | 0, _ => rfl
  | n + 1, h => by
    show S cs f (n + 1) = T0 cs f (n + 1) + pre cs f (n + 1)
    rw [← S_T0 (n := n) (by omega), pre_range h]
    unfold S
    have e : ((List.range (n + 1)).map fun k => cs.getD (f + k) 0 * (((n + 1 : Nat) : Int) - (k : Int))) = (List.range (n + 1)).map fun k => cs.getD (f + k) 0 * ((n : Int) - (k : Int)) + cs.getD (f + k) 0 := by
      apply List.map_congr_left
      intro k _
      have e2 : (((n + 1 : Nat) : Int) - (k : Int)) = ((n : Int) - (k : Int)) + 1 := by omega
      rw [e2, Int.mul_add, Int.mul_one]
    rw [e, sum_map_add]
    congr 1
    rw [List.range_succ, List.map_append, List.sum_append, List.map_cons, List.map_nil, List.sum_cons, List.sum_nil, Int.sub_self, Int.mul_zero]
    simp
end MT
namespace MT
/-- a row of which t places are filled -/
def rowAt (cs : List Int) (s f t : Nat) : List Int := (List.range (cs.length - f)).map fun j => if j < t then T cs s f (j + 1) else 0
theorem rowAt_zero (cs : List Int) (s f : Nat) : rowAt cs s f 1 = List.replicate (cs.length - f) 0 := by
  unfold rowAt
  apply List.ext_getElem?
  intro i
  rw [List.getElem?_map, List.getElem?_replicate]
  rcases Nat.lt_or_ge i (cs.length - f) with q | q
  · rw [List.getElem?_range q, if_pos q]
    show some (if i < 1 then T cs s f (i + 1) else 0) = some 0
    by_cases e : i < 1
    · have e0 : i = 0 := by omega
      rw [if_pos e, e0, T_one]
    · rw [if_neg e]
  · rw [List.getElem?_eq_none (by rw [List.length_range]; exact q), if_neg (by omega)]
    rfl
theorem rowAt_length (cs : List Int) (s f t : Nat) : (rowAt cs s f t).length = cs.length - f := by
  unfold rowAt
  rw [List.length_map, List.length_range]
theorem rowAt_set {cs : List Int} {s f t : Nat} : (rowAt cs s f t).set t (T cs s f (t + 1)) = rowAt cs s f (t + 1) := by
  apply List.ext_getElem?
  intro i
  rw [List.getElem?_set]
  unfold rowAt
  rw [List.getElem?_map, List.getElem?_map, List.length_map, List.length_range]
  rcases Nat.lt_or_ge i (cs.length - f) with q | q
  · rw [List.getElem?_range q]
    show _ = some (if i < t + 1 then T cs s f (i + 1) else 0)
    by_cases e : t = i
    · subst e
      rw [if_pos rfl, if_pos q, if_pos (by omega)]
    · rw [if_neg e]
      show some (if i < t then T cs s f (i + 1) else 0) = _
      by_cases l : i < t
      · rw [if_pos l, if_pos (by omega)]
      · rw [if_neg l, if_neg (by omega)]
  · rw [List.getElem?_eq_none (by rw [List.length_range]; exact q)]
    by_cases e : t = i
    · rw [if_pos e, if_neg (by omega)]
      rfl
    · rw [if_neg e]
      rfl
theorem rowAt_full {cs : List Int} {s f t : Nat} (h : cs.length - f ≤ t) : rowAt cs s f t = tabRow cs s f := by
  unfold rowAt tabRow
  apply List.map_congr_left
  intro j hj
  rw [if_pos (by have := List.mem_range.mp hj; omega)]
theorem rowAt_get {cs : List Int} {s f t j : Nat} (h : j < t) (l : j < cs.length - f) : (rowAt cs s f t)[j]? = some (T cs s f (j + 1)) := by
  unfold rowAt
  rw [List.getElem?_map, List.getElem?_range l]
  show some (if j < t then T cs s f (j + 1) else 0) = _
  rw [if_pos h]
end MT

namespace K30
open PySem PySem.Spec PyProof.Rows L2 GB
local macro_rules | `(tactic| array_mem_dec) => `(tactic| first
  | assumption | exact .non | exact .bl _ | exact .int _ | exact .str _ (by assumption) | exact .str _ (by decide))
local macro_rules | `(tactic| sizeOf_list_dec) => `(tactic| (show Hold _; first
  | (with_reducible refine len_l (xs := ?_) ?_ ?_; rotate_left; focus (assumption))
  | (with_reducible refine len_t (xs := ?_) ?_ ?_; rotate_left; focus (assumption))
  | (with_reducible refine len_s ?_ ?_; focus (first | assumption | exact sz _ (by assumption)))
  | (with_reducible refine len_d (kvs := ?_) ?_ ?_; rotate_left; focus (assumption))
  | (with_reducible refine isi_int (d := ?_) ?_ ?_; rotate_left; focus (array_mem_dec))
  | (with_reducible refine isi_bool (d := ?_) ?_ ?_; rotate_left; focus (array_mem_dec))
  | (with_reducible refine isi_str (d := ?_) ?_ ?_; rotate_left; focus (array_mem_dec))
  | (with_reducible refine isi_lst (d := ?_) ?_ ?_; rotate_left; focus (array_mem_dec))
  | (with_reducible refine isi_tup (d := ?_) ?_ ?_; rotate_left; focus (array_mem_dec))
  | (with_reducible refine isi_dct (d := ?_) ?_ ?_; rotate_left; focus (array_mem_dec))))
local macro_rules | `(tactic| array_get_dec) => `(tactic| first
  | (refine ⟨_, rfl, ?_⟩)
  | (refine ⟨rfl, ?_⟩)
  | (refine ⟨_, _, rfl, rfl, ?_⟩)
  | sizeOf_list_dec
  | (refine Or.inl ⟨_, rfl, ?_⟩)
  | (refine ⟨?_, ?_⟩; focus ((with_reducible refine sz _ ?_); first | assumption | exact Nat.le_of_ble_eq_true rfl))
  | (refine ⟨?_, ?_⟩; focus ((with_reducible show (_ : Int) ≠ 0); first | decide | omega))
  | (refine ⟨Or.inl ⟨?_, ?_⟩, ?_⟩; (focus decide); (focus decide)))
local macro_rules | `(tactic| decreasing_trivial_pre_omega) => `(tactic| repeat array_get_dec)

/-! ### tables of least costs -/
/-- a chain that is known -/
structure Chain (cs : List Int) : Prop where
  one : 1 ≤ cs.length
  most : cs.length ≤ 60
  each : ∀ x ∈ cs, 1 ≤ x ∧ x ≤ 1000000
def LoneP (K : PySem.W.Frag) (vs : List V) (H : Hp) (Q : VK) : Prop := ∃ (a : Addr) (cs : List Int) (f : Nat), vs = [.ref a, .int f] ∧ SqL K H a (cs.map V.int) ∧ cs.length ≤ 60 ∧ f < cs.length ∧
  ∀ p H', Same H H' → H p = none → H' p = some (.lst ((MT.tabRow cs 0 f).map V.int)) → Q (.ref p) H'
def spLone (K : PySem.W.Frag) : Sp := fun vs H Q _ => Hold (LoneP K vs H Q)
def SplitP (K : PySem.W.Frag) (vs : List V) (H : Hp) (Q : VK) : Prop := ∃ (a pr : Addr) (v : V) (cs : List Int) (rows : List (List Int)) (r : List Int) (g : Nat → Nat → Int) (f m : Nat), vs = [.ref a, v, .ref pr, .int f, .int m] ∧
  SqL K H a (cs.map V.int) ∧ cs.length ≤ 60 ∧ f + m ≤ cs.length ∧ Rep K H v (pdII rows) ∧ SqL K H pr (r.map V.int) ∧ m = r.length + 1 ∧ (∀ i, i < m - 1 → ∃ q, rows[f + i + 1]? = some q ∧ q[m - i - 2]? = some (g (f + i + 1) (m - 1 - i))) ∧
  ∀ p H', Same H H' → H p = none → H' p = some (.lst ((MT.parts cs g (fun i => r.getD i 0) f (m - 1)).map V.int)) → Q (.ref p) H'
def spSplit (K : PySem.W.Frag) : Sp := fun vs H Q _ => Hold (SplitP K vs H Q)
def TabP (K : PySem.W.Frag) (vs : List V) (H : Hp) (Q : VK) : Prop := ∃ (a : Addr) (cs : List Int) (c : Nat), vs = [.ref a, .int c] ∧ SqL K H a (cs.map V.int) ∧ Chain cs ∧ 1 ≤ c ∧ c ≤ 40 ∧
  ∀ v H', Same H H' → Rep K H' v (pdIII (MT.tab cs c)) → Q v H'
def spTab (K : PySem.W.Frag) : Sp := fun vs H Q _ => Hold (TabP K vs H Q)
section
variable {P : Program} {w : World} {K : PySem.W.Frag} {mg : Str → Option Value} {base : Heap}
theorem cut_lone {cs : List Int} {f : Nat} (h : f < cs.length) : cutV (cs.map V.int) (some (f : Int)) (some (-1)) = ((cs.drop f).dropLast).map V.int := by
  unfold cutV
  have e1 : HT.sIx (cs.map V.int).length 0 (some (f : Int)) = f := by rw [HT.sIx_nat, List.length_map, Nat.min_eq_left (by omega)]
  have e2 : HT.sIx (cs.map V.int).length (cs.map V.int).length (some (-1)) = cs.length - 1 := by
    show (if (-1 : Int) < 0 then ((-1 : Int) + ((cs.map V.int).length : Int)).toNat else min (-1 : Int).toNat (cs.map V.int).length) = _
    rw [if_pos (by decide), List.length_map]
    omega
  rw [e1, e2, ← List.map_drop, ← List.map_take, List.dropLast_eq_take, List.length_drop]
  congr 2
  omega
theorem ok_lone (F : At K mg "lone_row" s_lone_row) (B : Bi mg) : Dn P w K mg base 1 "lone_row" s_lone_row ["costs", "first"] (spLone K) := by
  obtain ⟨f, fd, F, gm⟩ := F
  refine ⟨f, fd, F.okX sc_lone_row (fun vs H Q E h => ?_) (fun cdv A outer s H vs Q E hr h => ?_), gm, F⟩
  · obtain ⟨a, cs, f, rfl, _⟩ := h.h
    rfl
  · obtain ⟨a, cs, f, rfl, hS, hl, hf, k⟩ := h.h
    refine ⟨_, PSs.nox ((pss_cons (ps_par (i := 2) (j := 3) (by rfl) sc_lone_row.nd rfl rfl (by decide) rfl rfl (pa_cons (pe_lst (pa_cons pe_int pa_nil)) (pa_cons pe_int pa_nil)) (by rfl))
      (pss_cons (ps_for PassesOwn.never rfl (piL K (pe_slice (slL K) (pv 0) (po_some (pv 1)) (po_some (pe_un un_neg pe_int)))) (pg_name (i := 4) sc_lone_row.nd rfl (Or.inl rfl))
      (pss_cons (ps_set (i := 3) sc_lone_row.nd rfl (Or.inl rfl) (pe_op op_add (pv 3) (pv 4)))
      (pss_one (ps_expr (pe_bm PySem.F.plainAttrs_list PySem.F.slot_list_append PySem.F.type_list_append mt_append (pv 2) (pa_cons (pe_op op_add (pe_ix (ixL K) (pv 2) (pe_un un_neg pe_int) (fun _ _ => rfl)) (pv 3)) pa_nil))))))
      (pss_one (ps_ret (pv 2)))))), ?_⟩
    decreasing_trivial_pre_omega
    refine fun p np => ?_
    decreasing_trivial_pre_omega
    refine ⟨_, _, rfl, ?_⟩
    decreasing_trivial_pre_omega
    have s1 := same_new (o := .lst [.int 0]) np
    refine sl_l (Same.sql s1 hS) fun q nq => ?_
    rw [cut_lone hf]
    have ln : ((cs.drop f).dropLast).length = cs.length - f - 1 := by rw [List.length_dropLast, List.length_drop]
    refine ⟨q, rfl, ⟨_, .inl (.inl upd_same)⟩, for_list (K := K) (a := q) (xs := ((cs.drop f).dropLast).map V.int) (fun i σ H' => ∃ (x : Option V), σ = [some (.ref a), some (.int f), some (.ref p), some (.int (MT.pre cs f i)), x] ∧ i + f < cs.length ∧ Same H (hid [p] H') ∧
        H' p = some (.lst (((List.range (i + 1)).map fun j => MT.T0 cs f (j + 1)).map V.int)) ∧ H' q = some (.lst (((cs.drop f).dropLast).map V.int)))
      ⟨none, rfl, by omega, ?_, ?_, upd_same⟩ (fun i σ H' _ ⟨_, _, _, _, _, z⟩ => .inl (.inl z)) ?_ ?_⟩
    · have z := hid_new (l := []) (o := .lst [.int 0]) np
      rw [hid_nil] at z
      exact z.trans (hid_mono (same_new nq))
    · exact (same_new nq) _ _ upd_same
    · rintro i y σ H' hi ⟨x, rfl, li, sh, hp, hq⟩
      rw [List.getElem?_map] at hi
      obtain ⟨cost, hc, rfl⟩ : ∃ cost, cs[f + i]? = some cost ∧ y = V.int cost := by
        cases e : ((cs.drop f).dropLast)[i]? with
        | none =>
          rw [e] at hi
          cases hi
        | some z =>
          rw [e] at hi
          have e2 := e
          rw [List.dropLast_eq_take, List.getElem?_take] at e2
          split at e2
          · rw [List.getElem?_drop] at e2
            exact ⟨z, e2, (Option.some.inj hi).symm⟩
          · cases e2
      have lt : f + i + 1 < cs.length := by
        have z : i < ((cs.drop f).dropLast).length := by
          cases e : ((cs.drop f).dropLast)[i]? with
          | none =>
            rw [e] at hi
            cases hi
          | some z => exact (List.getElem?_eq_some_iff.mp e).1
        omega
      have pq : q ≠ p := off nq upd_same
      decreasing_trivial_pre_omega
      have hlast : atI (((List.range (i + 1)).map fun j => MT.T0 cs f (j + 1)).map V.int) (-1) = some (.int (MT.T0 cs f (i + 1))) := by
        apply at_last
        simp [List.length_map, List.length_range]
      refine ⟨.inl ⟨rfl, _, .inl (.inl hp)⟩, ?_⟩
      decreasing_trivial_pre_omega
      refine ix_l (.inl (.inl hp)) hlast ?_
      decreasing_trivial_pre_omega
      refine ⟨p, _, _, rfl, rfl, hp, szl _ (by rw [List.length_map, List.length_map, List.length_range]; omega), ?_⟩
      have e1 : (((List.range (i + 1)).map fun j => MT.T0 cs f (j + 1)).map V.int) ++ [V.int (MT.T0 cs f (i + 1) + (MT.pre cs f i + cost))] = ((List.range (i + 1 + 1)).map fun j => MT.T0 cs f (j + 1)).map V.int := by
        rw [List.range_succ (n := i + 1), List.map_append, List.map_append]
        congr 1
        show _ = [V.int (MT.T0 cs f (i + 1) + MT.pre cs f (i + 1))]
        rw [MT.pre_succ hc]
      have e2 := MT.pre_succ hc
      refine ⟨some (.int cost), ?_, by omega, by rw [hid_upd (by simp)]; exact sh, ?_, by rw [upd_ne pq]; exact hq⟩
      · show [some (V.ref a), some (V.int f), some (V.ref p), some (V.int (MT.pre cs f i + cost)), some (V.int cost)] = _
        rw [e2]
      · rw [upd_same]
        exact congrArg (fun l => some (HO.lst l)) e1
    · rintro σ H' ⟨x, rfl, li, sh, hp, hq⟩
      decreasing_trivial_pre_omega
      refine k p H' (sh.trans hid_same) np ?_
      rw [hp, List.length_map, ln]
      have e : cs.length - f - 1 + 1 = cs.length - f := by omega
      rw [e]
      rfl
theorem ok_split (F : At K mg "split_costs" s_split_costs) (B : Bi mg) : Dn P w K mg base 1 "split_costs" s_split_costs ["costs", "fewer", "same", "first", "many"] (spSplit K) := by
  obtain ⟨f, fd, F, gm⟩ := F
  refine ⟨f, fd, F.okX sc_split_costs (fun vs H Q E h => ?_) (fun cdv A outer s H vs Q E hr h => ?_), gm, F⟩
  · obtain ⟨a, pr, v, cs, rows, r, g, f, m, rfl, _⟩ := h.h
    rfl
  · obtain ⟨a, pr, v, cs, rows, r, g, f, m, rfl, hS, hl, hf, hR, hr2, hm, hg, k⟩ := h.h
    obtain ⟨ar, xr, rfl, hxr, hRL, _, _⟩ := rep_rows_inv hR
    refine ⟨_, PSs.nox ((pss_cons (ps_par (i := 5) (j := 6) (by rfl) sc_split_costs.nd rfl rfl (by decide) rfl rfl (pa_cons (pe_lst pa_nil) (pa_cons pe_int pa_nil)) (by rfl))
      (pss_cons (ps_for PassesOwn.never rfl (pi_range2 (by rfl) B.range (pa_cons pe_int (pa_cons (pv 4) pa_nil))) (pg_name (i := 7) sc_split_costs.nd rfl (Or.inl rfl))
      (pss_cons (ps_set (i := 6) sc_split_costs.nd rfl (Or.inl rfl) (pe_op op_add (pv 6) (pe_ix (ixL K) (pv 0) (pe_op op_sub (pe_op op_add (pv 3) (pv 7)) pe_int) (fun _ _ => rfl))))
      (pss_one (ps_expr (pe_bm PySem.F.plainAttrs_list PySem.F.slot_list_append PySem.F.type_list_append mt_append (pv 5) (pa_cons (pe_op op_add (pe_op op_add (pv 6) (pe_ix (ixL K) (pe_ix (ixL K) (pv 1) (pe_op op_add (pv 3) (pv 7)) (fun _ _ => rfl)) (pe_op op_sub (pe_op op_sub (pv 4) (pv 7)) pe_int) (fun _ _ => rfl))) (pe_ix (ixL K) (pv 2) (pe_op op_sub (pv 7) pe_int) (fun _ _ => rfl))) pa_nil))))))
      (pss_one (ps_ret (pv 5)))))), ?_⟩
    decreasing_trivial_pre_omega
    refine fun p np => ?_
    decreasing_trivial_pre_omega
    refine ⟨_, _, rfl, ?_⟩
    decreasing_trivial_pre_omega
    have z := hid_new (l := []) (o := .lst []) np
    rw [hid_nil] at z
    refine ⟨1, (m : Int), rfl, ⟨by omega, by omega, by omega, by omega⟩, for_range (lo := 1) (n := ((m : Int) - 1).toNat) (fun i σ H' => ∃ (x : Option V), σ = [some (.ref a), some (.ref ar), some (.ref pr), some (.int f), some (.int m), some (.ref p), some (.int (MT.pre cs f i)), x] ∧ i ≤ m - 1 ∧ Same H (hid [p] H') ∧
        H' p = some (.lst (((List.range i).map fun j => MT.pre cs f (j + 1) + g (f + j + 1) (m - 1 - j) + r.getD j 0).map V.int)))
      ⟨none, rfl, Nat.zero_le _, z, upd_same⟩ ?_ ?_⟩
    · rintro i σ H' hi ⟨x, rfl, li, sh, hp⟩
      have i1 : i < m - 1 := by omega
      have s2 := sh.trans hid_same
      have hS' := Same.sql s2 hS
      have lt : f + i < cs.length := by omega
      obtain ⟨cost, hc⟩ : ∃ cost, cs[f + i]? = some cost := ⟨_, List.getElem?_eq_getElem lt⟩
      decreasing_trivial_pre_omega
      refine ix_l hS' (v := .int cost) (atI_ok (by omega) ?_) ?_
      · have e : ((f : Int) + (1 + (i : Int)) - 1).toNat = f + i := by omega
        rw [e, List.getElem?_map, hc]
        rfl
      decreasing_trivial_pre_omega
      obtain ⟨q, hq1, hq2⟩ := hg i i1
      obtain ⟨vq, hv1, hv2⟩ := repl_get hRL hq1
      obtain ⟨aq, rfl, hq3, _⟩ := rep_ints_inv hv2
      have hri : r[i]? = some (r.getD i 0) := by
        rw [List.getD_eq_getElem?_getD, List.getElem?_eq_getElem (show i < r.length by omega)]
        rfl
      refine ⟨.inl ⟨rfl, _, .inl (.inl hp)⟩, ?_⟩
      decreasing_trivial_pre_omega
      refine ix_l (Same.sql s2 hxr) (v := .ref aq) (atI_ok (by omega) ?_) ?_
      · have e : ((f : Int) + (1 + (i : Int))).toNat = f + i + 1 := by omega
        rw [e]
        exact hv1
      decreasing_trivial_pre_omega
      refine ix_l (Same.sql s2 hq3) (v := .int (g (f + i + 1) (m - 1 - i))) (atI_ok (by omega) ?_) ?_
      · have e : ((m : Int) - (1 + (i : Int)) - 1).toNat = m - i - 2 := by omega
        rw [e, List.getElem?_map, hq2]
        rfl
      decreasing_trivial_pre_omega
      refine ix_l (Same.sql s2 hr2) (v := .int (r.getD i 0)) (atI_ok (by omega) ?_) ?_
      · have e : ((1 + (i : Int)) - 1).toNat = i := by omega
        rw [e, List.getElem?_map, hri]
        rfl
      decreasing_trivial_pre_omega
      refine ⟨p, _, _, rfl, rfl, hp, szl _ (by rw [List.length_map, List.length_map, List.length_range]; omega), ?_⟩
      have e2 := MT.pre_succ hc
      refine ⟨some (.int (1 + (i : Int))), ?_, by omega, by rw [hid_upd (by simp)]; exact sh, ?_⟩
      · show [some (V.ref a), some (V.ref ar), some (V.ref pr), some (V.int f), some (V.int m), some (V.ref p), some (V.int (MT.pre cs f i + cost)), some (V.int (1 + (i : Int)))] = _
        rw [e2]
      · rw [upd_same]
        refine congrArg (fun l => some (HO.lst l)) ?_
        show _ ++ [V.int (MT.pre cs f i + cost + g (f + i + 1) (m - 1 - i) + r.getD i 0)] = _
        rw [← e2, List.range_succ, List.map_append, List.map_append]
        rfl
    · rintro σ H' ⟨x, rfl, li, sh, hp⟩
      decreasing_trivial_pre_omega
      refine k p H' (sh.trans hid_same) np ?_
      rw [hp]
      have e : ((m : Int) - 1).toNat = m - 1 := by omega
      rw [e]
      rfl
end

end K30

namespace K30
open PySem PySem.Spec PyProof.Rows L2 GB
local macro_rules | `(tactic| array_mem_dec) => `(tactic| first
  | assumption | exact .non | exact .bl _ | exact .int _ | exact .str _ (by assumption) | exact .str _ (by decide))
local macro_rules | `(tactic| sizeOf_list_dec) => `(tactic| (show Hold _; first
  | (with_reducible refine len_l (xs := ?_) ?_ ?_; rotate_left; focus (assumption))
  | (with_reducible refine len_t (xs := ?_) ?_ ?_; rotate_left; focus (assumption))
  | (with_reducible refine len_s ?_ ?_; focus (first | assumption | exact sz _ (by assumption)))
  | (with_reducible refine len_d (kvs := ?_) ?_ ?_; rotate_left; focus (assumption))
  | (with_reducible refine isi_int (d := ?_) ?_ ?_; rotate_left; focus (array_mem_dec))
  | (with_reducible refine isi_bool (d := ?_) ?_ ?_; rotate_left; focus (array_mem_dec))
  | (with_reducible refine isi_str (d := ?_) ?_ ?_; rotate_left; focus (array_mem_dec))
  | (with_reducible refine isi_lst (d := ?_) ?_ ?_; rotate_left; focus (array_mem_dec))
  | (with_reducible refine isi_tup (d := ?_) ?_ ?_; rotate_left; focus (array_mem_dec))
  | (with_reducible refine isi_dct (d := ?_) ?_ ?_; rotate_left; focus (array_mem_dec))))
local macro_rules | `(tactic| array_get_dec) => `(tactic| first
  | (refine ⟨_, rfl, ?_⟩)
  | (refine ⟨rfl, ?_⟩)
  | (refine ⟨_, _, rfl, rfl, ?_⟩)
  | sizeOf_list_dec
  | (refine Or.inl ⟨_, rfl, ?_⟩)
  | (refine ⟨?_, ?_⟩; focus ((with_reducible refine sz _ ?_); first | assumption | exact Nat.le_of_ble_eq_true rfl))
  | (refine ⟨?_, ?_⟩; focus ((with_reducible show (_ : Int) ≠ 0); first | decide | omega))
  | (refine ⟨Or.inl ⟨?_, ?_⟩, ?_⟩; (focus decide); (focus decide)))
local macro_rules | `(tactic| decreasing_trivial_pre_omega) => `(tactic| repeat array_get_dec)

section
variable {P : Program} {w : World} {K : PySem.W.Frag} {mg : Str → Option Value} {base : Heap}
/-- the rows of a table so far -/
abbrev rowsTo (cs : List Int) (s n : Nat) : List (List Int) := (List.range n).map fun f => MT.tabRow cs s f
theorem ok_table (F : At K mg "table_of" s_table_of) (B : Bi mg) (d_lone_row : Dn P w K mg base 1 "lone_row" s_lone_row ["costs", "first"] (spLone K))
    (d_split_costs : Dn P w K mg base 1 "split_costs" s_split_costs ["costs", "fewer", "same", "first", "many"] (spSplit K)) : Dn P w K mg base 2 "table_of" s_table_of ["costs", "c"] (spTab K) := by
  obtain ⟨f, fd, F, gm⟩ := F
  refine ⟨f, fd, F.okX sc_table_of (fun vs H Q E h => ?_) (fun cdv A outer s H vs Q E hr h => ?_), gm, F⟩
  · obtain ⟨a, cs, c, rfl, _⟩ := h.h
    rfl
  · obtain ⟨a, cs, c, rfl, hS, hC, c1, c2, k⟩ := h.h
    refine ⟨_, PSs.nox ((pss_cons (ps_set (i := 2) sc_table_of.nd rfl (Or.inl rfl) (pe_callB (clLen K) (by rfl) B.len (by decide +kernel) (pa_cons (pv 0) pa_nil)))
      (pss_cons (ps_set (i := 3) sc_table_of.nd rfl (Or.inl rfl) (pe_lst (pa_cons (pe_lc (own := [("first", 6)]) rfl sc_table_of.nd (pi_range1 (by rfl) B.range (pa_cons (pv 2) pa_nil)) (blkOk_by (own := [("first", 6)]) (N := ["costs", "c", "rounds", "found", "_", "rows", "first", "row", "many"]) (sc := defScope s_table_of) (by decide +kernel)) (fun _ _ _ _ _ => (pg_name (i := 6) sc_table_of.nd rfl (Or.inl rfl))) (fun _ _ _ _ _ => pts_nil) (fun _ _ _ _ _ => (pe_cl d_lone_row bd_lone_row (hr.mono (by omega)) passL (pa_cons (pv 0) (pa_cons (pv 6) pa_nil))))) pa_nil)))
      (pss_cons (ps_for PassesOwn.never rfl (pi_range1 (by rfl) B.range (pa_cons (pe_op op_sub (pv 1) pe_int) pa_nil)) (pg_name (i := 4) sc_table_of.nd rfl (Or.inl rfl))
      (pss_cons (ps_set (i := 5) sc_table_of.nd rfl (Or.inl rfl) (pe_lst pa_nil))
      (pss_cons (ps_for PassesOwn.never rfl (pi_range1 (by rfl) B.range (pa_cons (pv 2) pa_nil)) (pg_name (i := 6) sc_table_of.nd rfl (Or.inl rfl))
      (pss_cons (ps_set (i := 7) sc_table_of.nd rfl (Or.inl rfl) (pe_lst (pa_cons pe_int pa_nil)))
      (pss_cons (ps_for PassesOwn.never rfl (pi_range2 (by rfl) B.range (pa_cons pe_int (pa_cons (pe_op op_add (pe_op op_sub (pv 2) (pv 6)) pe_int) pa_nil))) (pg_name (i := 8) sc_table_of.nd rfl (Or.inl rfl))
      (pss_one (ps_expr (pe_bm PySem.F.plainAttrs_list PySem.F.slot_list_append PySem.F.type_list_append mt_append (pv 7) (pa_cons (pe_callB (clMin K) (by rfl) B.min (by decide +kernel) (pa_cons (pe_cl d_split_costs bd_split_costs (hr.mono (by omega)) passL (pa_cons (pv 0) (pa_cons (pe_ix (ixL K) (pv 3) (pe_un un_neg pe_int) (fun _ _ => rfl)) (pa_cons (pv 7) (pa_cons (pv 6) (pa_cons (pv 8) pa_nil)))))) pa_nil)) pa_nil)))))
      (pss_one (ps_expr (pe_bm PySem.F.plainAttrs_list PySem.F.slot_list_append PySem.F.type_list_append mt_append (pv 5) (pa_cons (pv 7) pa_nil)))))))
      (pss_one (ps_expr (pe_bm PySem.F.plainAttrs_list PySem.F.slot_list_append PySem.F.type_list_append mt_append (pv 3) (pa_cons (pv 5) pa_nil)))))))
      (pss_one (ps_ret (pv 3))))))), ?_⟩
    have ln : (cs.map V.int).length = cs.length := List.length_map ..
    have l60 := hC.most
    decreasing_trivial_pre_omega
    rw [ln]
    refine ⟨by omega, by omega, fun D nD => ?_⟩
    have z := hid_new (l := []) (o := .lst []) nD
    rw [hid_nil] at z
    refine lc_range (lo := 0) (n := cs.length) (fun i H' => Same H (hid [D] H') ∧ ∃ xs, H' D = some (.lst xs) ∧ RepL K (hid [D] H') xs ((rowsTo cs 0 i).map pdI)) ⟨z, [], upd_same, .nil⟩ ?_ ?_
    · rintro i H' hi ⟨s1, xs, hD, hx⟩
      refine ⟨rfl, ?_⟩
      decreasing_trivial_pre_omega
      refine .mk ⟨a, cs, i, by rw [Int.zero_add]; rfl, Same.sql (s1.trans hid_same) hS, by omega, hi, fun p H2 s2 np hp => ?_⟩
      have hD2 := s2 _ _ hD
      have pD : p ≠ D := off np hD
      refine ⟨xs, hD2, szl _ ?_, ?_⟩
      · rw [hx.len, List.length_map, List.length_map, List.length_range]
        omega
      · refine ⟨by rw [hid_upd (by simp)]; exact s1.trans (hid_mono s2), _, upd_same, ?_⟩
        rw [hid_upd (by simp)]
        have e : (rowsTo cs 0 (i + 1)).map pdI = (rowsTo cs 0 i ++ [MT.tabRow cs 0 i]).map pdI := by
          show ((List.range (i + 1)).map _).map pdI = _
          rw [List.range_succ, List.map_append]
          rfl
        rw [e]
        refine repl_snoc (hx.mono (hid_mono s2)) (rep_ints (.inl (.inl ?_)) ?_)
        · rw [hid_at (by simp [pD])]
          exact hp
        · show ((List.range (cs.length - i)).map _).length ≤ _
          rw [List.length_map, List.length_range]
          omega
    · rintro H' ⟨s1, xs, hD, hx⟩
      decreasing_trivial_pre_omega
      refine fun pf nf => ?_
      have Df : D ≠ pf := (off nf hD).symm
      have s2 := hid_new (l := []) (o := .lst [.ref D]) nf
      rw [hid_nil] at s2
      have rD : Rep K (hid [pf] (upd H' pf (.lst [.ref D]))) (.ref D) (pdII (MT.tabRows cs 0)) := by
        refine .lst (by rw [List.length_map]; show ((List.range cs.length).map _).length ≤ _; rw [List.length_map, List.length_range]; omega) (.inl (.inl ?_)) ((hx.mono hid_same).mono s2)
        rw [hid_at (by simp [Df]), upd_ne Df]
        exact hD
      decreasing_trivial_pre_omega
      have sH : Same H (hid [pf] (upd H' pf (.lst [.ref D]))) := (s1.trans hid_same).trans s2
      refine ⟨by omega, by omega, for_range (lo := 0) (n := ((c : Int) - 1).toNat) (fun i σ G => ∃ (x4 x5 x6 x7 x8 : Option V) (items : List V), σ = [some (.ref a), some (.int c), some (.int cs.length), some (.ref pf), x4, x5, x6, x7, x8] ∧ Same H (hid [pf] G) ∧
          G pf = some (.lst items) ∧ RepL K (hid [pf] G) items (((List.range (i + 1)).map fun s => MT.tabRows cs s).map pdII) ∧ i < c)
        ⟨none, none, none, none, none, [.ref D], rfl, sH, upd_same, .cons rD .nil, by omega⟩ ?_ ?_⟩
      · rintro i σ G hi ⟨x4, x5, x6, x7, x8, items, rfl, sG, hf, hI, lc⟩
        decreasing_trivial_pre_omega
        refine fun pr nr => ?_
        have prf : pf ≠ pr := (off nr hf).symm
        have s3 := hid_new (l := [pf]) (o := .lst []) nr
        decreasing_trivial_pre_omega
        refine ⟨by omega, by omega, for_range (lo := 0) (n := cs.length) (fun f σ G2 => ∃ (x4 x6 x7 x8 : Option V) (ritems : List V), σ = [some (.ref a), some (.int c), some (.int cs.length), some (.ref pf), x4, some (.ref pr), x6, x7, x8] ∧ Same H (hid [pr, pf] G2) ∧
            G2 pf = some (.lst items) ∧ RepL K (hid [pr, pf] G2) items (((List.range (i + 1)).map fun s => MT.tabRows cs s).map pdII) ∧ G2 pr = some (.lst ritems) ∧ RepL K (hid [pr, pf] G2) ritems ((rowsTo cs (i + 1) f).map pdI))
          ⟨_, x6, x7, x8, [], rfl, sG.trans s3, by rw [upd_ne prf]; exact hf, hI.mono s3, upd_same, .nil⟩ ?_ ?_⟩
        · rintro f σ G2 hf2 ⟨y4, y6, y7, y8, ritems, rfl, sG2, hf3, hI2, hr3, hR2⟩
          decreasing_trivial_pre_omega
          refine fun pw nw => ?_
          have pwf : pf ≠ pw := (off nw hf3).symm
          have pwr : pr ≠ pw := (off nw hr3).symm
          have s4 := hid_new (l := [pr, pf]) (o := .lst [.int 0]) nw
          decreasing_trivial_pre_omega
          refine ⟨2, _, rfl, ⟨by omega, by omega, by omega, by omega⟩, for_range (lo := 2) (n := ((cs.length : Int) - (0 + (f : Int)) + 1 - 2).toNat) (fun j σ G3 => ∃ (x8 : Option V), σ = [some (.ref a), some (.int c), some (.int cs.length), some (.ref pf), y4, some (.ref pr), some (.int (0 + (f : Int))), some (.ref pw), x8] ∧ Same H (hid [pw, pr, pf] G3) ∧
              G3 pf = some (.lst items) ∧ RepL K (hid [pw, pr, pf] G3) items (((List.range (i + 1)).map fun s => MT.tabRows cs s).map pdII) ∧ G3 pr = some (.lst ritems) ∧ RepL K (hid [pw, pr, pf] G3) ritems ((rowsTo cs (i + 1) f).map pdI) ∧
              G3 pw = some (.lst (((List.range (j + 1)).map fun k => MT.T cs (i + 1) f (k + 1)).map V.int)) ∧ f + j < cs.length)
            ⟨y8, rfl, sG2.trans s4, by rw [upd_ne pwf]; exact hf3, hI2.mono s4, by rw [upd_ne pwr]; exact hr3, hR2.mono s4, by rw [upd_same]; rfl, by omega⟩ ?_ ?_⟩
          · rintro j σ G3 hj ⟨x8, rfl, sG3, hf4, hI3, hr4, hR3, hw4, lj⟩
            have lj2 : f + j + 1 < cs.length := by omega
            decreasing_trivial_pre_omega
            obtain ⟨v, hv1, hv2⟩ := repl_get (r := (List.range (i + 1)).map fun s => MT.tabRows cs s) (f := pdII) hI3 (i := i) (x := MT.tabRows cs i) (by rw [List.getElem?_map, List.getElem?_range (by omega)]; rfl)
            have il : items.length = i + 1 := by rw [hI3.len, List.length_map, List.length_map, List.length_range]
            refine ⟨.inl ⟨rfl, _, .inl (.inl hw4)⟩, ?_⟩
            decreasing_trivial_pre_omega
            refine ix_l (.inl (.inl hf4)) (v := v) (at_last (by rw [il]; exact hv1)) ?_
            decreasing_trivial_pre_omega
            have ea : [V.ref a, v, V.ref pw, V.int (0 + (f : Int)), V.int (2 + (j : Int))] = [V.ref a, v, V.ref pw, V.int (f : Int), V.int ((j + 2 : Nat) : Int)] := by
              have e1 : (2 + (j : Int)) = ((j + 2 : Nat) : Int) := by omega
              rw [Int.zero_add, e1]
            refine .mk ⟨a, pw, v, cs, MT.tabRows cs i, (List.range (j + 1)).map fun k => MT.T cs (i + 1) f (k + 1), MT.T cs i, f, j + 2, ea, Same.sql (sG3.trans hid_same) hS, l60, by omega, hv2.mono hid_same, .inl (.inl hw4), by rw [List.length_map, List.length_range], ?_, fun p G4 s5 np hp => ?_⟩
            · intro t ht
              refine ⟨MT.tabRow cs i (f + t + 1), ?_, ?_⟩
              · show ((List.range cs.length).map _)[f + t + 1]? = _
                rw [List.getElem?_map, List.getElem?_range (by omega)]
                rfl
              · show ((List.range (cs.length - (f + t + 1))).map _)[j + 2 - t - 2]? = _
                rw [List.getElem?_map, List.getElem?_range (by omega)]
                have e1 : j + 2 - t - 2 + 1 = j + 2 - 1 - t := by omega
                show some (MT.T cs i (f + t + 1) (j + 2 - t - 2 + 1)) = _
                rw [e1]
            · decreasing_trivial_pre_omega
              have e2 : MT.parts cs (MT.T cs i) (fun k => ((List.range (j + 1)).map fun k => MT.T cs (i + 1) f (k + 1)).getD k 0) f (j + 2 - 1) = MT.parts cs (MT.T cs i) (fun k => MT.T cs (i + 1) f (k + 1)) f (j + 1) := by
                unfold MT.parts
                apply List.map_congr_left
                intro t ht
                have lt := List.mem_range.mp ht
                have e3 : ((List.range (j + 1)).map fun k => MT.T cs (i + 1) f (k + 1)).getD t 0 = MT.T cs (i + 1) f (t + 1) := by
                  rw [List.getD_eq_getElem?_getD, List.getElem?_map, List.getElem?_range (by omega)]
                  rfl
                show _ + _ + ((List.range (j + 1)).map fun k => MT.T cs (i + 1) f (k + 1)).getD t 0 = _
                rw [e3]
                rfl
              rw [e2] at hp
              refine min_l (.inl (.inl hp)) (by unfold MT.parts; rw [List.length_map, List.length_range]; omega) fun m hm1 hm2 => ?_
              have em : m = MT.T cs (i + 1) f (j + 1 + 1) := by rw [MT.T_succ cs i f (j + 1) (by omega)]; exact MT.minL_is hm1 hm2
              subst em
              decreasing_trivial_pre_omega
              refine ⟨pw, _, _, rfl, rfl, s5 _ _ hw4, szl _ (by rw [List.length_map, List.length_map, List.length_range]; omega), ?_⟩
              refine ⟨some (.int (2 + (j : Int))), rfl, by rw [hid_upd (by simp)]; exact sG3.trans (hid_mono s5), by rw [upd_ne pwf]; exact s5 _ _ hf4, by rw [hid_upd (by simp)]; exact hI3.mono (hid_mono s5), by rw [upd_ne pwr]; exact s5 _ _ hr4, by rw [hid_upd (by simp)]; exact hR3.mono (hid_mono s5), ?_, by omega⟩
              rw [upd_same, List.range_succ (n := j + 1), List.map_append, List.map_append]
              rfl
          · rintro σ G3 ⟨x8, rfl, sG3, hf4, hI3, hr4, hR3, hw4, lj⟩
            decreasing_trivial_pre_omega
            refine ⟨.inl ⟨rfl, _, .inl (.inl hr4)⟩, ?_⟩
            decreasing_trivial_pre_omega
            have rl : ritems.length = f := by rw [hR3.len, List.length_map, List.length_map, List.length_range]
            refine ⟨pr, _, _, rfl, rfl, hr4, szl _ (by omega), ?_⟩
            have less : Same (hid [pw, pr, pf] G3) (hid [pr, pf] G3) := hid_less (by intro x hx; simp at hx ⊢; rcases hx with rfl | rfl <;> simp)
            refine ⟨_, _, _, _, ritems ++ [.ref pw], rfl, by rw [hid_upd (by simp)]; exact sG3.trans less, by rw [upd_ne prf]; exact hf4, by rw [hid_upd (by simp)]; exact hI3.mono less, upd_same, ?_⟩
            rw [hid_upd (by simp)]
            have e : (rowsTo cs (i + 1) (f + 1)).map pdI = (rowsTo cs (i + 1) f ++ [MT.tabRow cs (i + 1) f]).map pdI := by
              show ((List.range (f + 1)).map _).map pdI = _
              rw [List.range_succ, List.map_append]
              rfl
            rw [e]
            refine repl_snoc (hR3.mono less) (rep_ints (.inl (.inl ?_)) ?_)
            · rw [hid_at (by simp [Ne.symm pwr, Ne.symm pwf]), hw4]
              have e2 : ((cs.length : Int) - (0 + (f : Int)) + 1 - 2).toNat + 1 = cs.length - f := by omega
              rw [e2]
              rfl
            · show ((List.range (cs.length - f)).map _).length ≤ _
              rw [List.length_map, List.length_range]
              omega
        · rintro σ G2 ⟨y4, y6, y7, y8, ritems, rfl, sG2, hf3, hI2, hr3, hR2⟩
          decreasing_trivial_pre_omega
          refine ⟨.inl ⟨rfl, _, .inl (.inl hf3)⟩, ?_⟩
          decreasing_trivial_pre_omega
          have il : items.length = i + 1 := by rw [hI2.len, List.length_map, List.length_map, List.length_range]
          refine ⟨pf, _, _, rfl, rfl, hf3, szl _ (by omega), ?_⟩
          have less : Same (hid [pr, pf] G2) (hid [pf] G2) := hid_less (by intro x hx; simp at hx ⊢; simp [hx])
          refine ⟨_, _, _, _, _, items ++ [.ref pr], rfl, by rw [hid_upd (by simp)]; exact sG2.trans less, upd_same, ?_, by omega⟩
          rw [hid_upd (by simp)]
          have e : ((List.range (i + 1 + 1)).map fun s => MT.tabRows cs s).map pdII = (((List.range (i + 1)).map fun s => MT.tabRows cs s) ++ [MT.tabRows cs (i + 1)]).map pdII := by
            rw [List.range_succ (n := i + 1), List.map_append]
            rfl
          rw [e]
          refine repl_snoc (hI2.mono less) (.lst ?_ (.inl (.inl ?_)) (hR2.mono less))
          · show (((List.range cs.length).map _).map pdI).length ≤ _
            rw [List.length_map, List.length_map, List.length_range]
            omega
          · rw [hid_at (by simp [Ne.symm prf])]
            exact hr3
      · rintro σ G ⟨x4, x5, x6, x7, x8, items, rfl, sG, hf, hI, lc⟩
        decreasing_trivial_pre_omega
        refine k _ _ (sG.trans hid_same) (.lst ?_ (.inl (.inl hf)) ?_)
        · show (((List.range c).map fun s => MT.tabRows cs s).map pdII).length ≤ _
          rw [List.length_map, List.length_map, List.length_range]
          omega
        · have e : ((c : Int) - 1).toNat + 1 = c := by omega
          rw [e] at hI
          exact hI.mono hid_same
end

end K30

namespace K30
open PySem PySem.Spec PyProof.Rows L2 GB
local macro_rules | `(tactic| array_mem_dec) => `(tactic| first
  | assumption | exact .non | exact .bl _ | exact .int _ | exact .str _ (by assumption) | exact .str _ (by decide))
local macro_rules | `(tactic| sizeOf_list_dec) => `(tactic| (show Hold _; first
  | (with_reducible refine len_l (xs := ?_) ?_ ?_; rotate_left; focus (assumption))
  | (with_reducible refine len_t (xs := ?_) ?_ ?_; rotate_left; focus (assumption))
  | (with_reducible refine len_s ?_ ?_; focus (first | assumption | exact sz _ (by assumption)))
  | (with_reducible refine len_d (kvs := ?_) ?_ ?_; rotate_left; focus (assumption))
  | (with_reducible refine isi_int (d := ?_) ?_ ?_; rotate_left; focus (array_mem_dec))
  | (with_reducible refine isi_bool (d := ?_) ?_ ?_; rotate_left; focus (array_mem_dec))
  | (with_reducible refine isi_str (d := ?_) ?_ ?_; rotate_left; focus (array_mem_dec))
  | (with_reducible refine isi_lst (d := ?_) ?_ ?_; rotate_left; focus (array_mem_dec))
  | (with_reducible refine isi_tup (d := ?_) ?_ ?_; rotate_left; focus (array_mem_dec))
  | (with_reducible refine isi_dct (d := ?_) ?_ ?_; rotate_left; focus (array_mem_dec))))
local macro_rules | `(tactic| array_get_dec) => `(tactic| first
  | (refine ⟨_, rfl, ?_⟩)
  | (refine ⟨rfl, ?_⟩)
  | (refine ⟨_, _, rfl, rfl, ?_⟩)
  | sizeOf_list_dec
  | (refine Or.inl ⟨_, rfl, ?_⟩)
  | (refine ⟨?_, ?_⟩; focus ((with_reducible refine sz _ ?_); first | assumption | exact Nat.le_of_ble_eq_true rfl))
  | (refine ⟨?_, ?_⟩; focus ((with_reducible show (_ : Int) ≠ 0); first | decide | omega))
  | (refine ⟨Or.inl ⟨?_, ?_⟩, ?_⟩; (focus decide); (focus decide)))
local macro_rules | `(tactic| decreasing_trivial_pre_omega) => `(tactic| repeat array_get_dec)

/-! ### chains, judged -/
def seqOf : PD → Option (List PD)
  | .lst l => some l | .tup l => some l | _ => none
def chainD (d : PD) : Bool := match seqOf d with
  | some l => decide (1 ≤ l.length) && (decide (l.length ≤ 60) && l.all (btw 1 1000000))
  | none => false
theorem chainD_ints {cs : List Int} (h : Chain cs) : chainD (pdI cs) = true := by
  show (decide (1 ≤ (cs.map PD.int).length) && (decide ((cs.map PD.int).length ≤ 60) && (cs.map PD.int).all (btw 1 1000000))) = true
  rw [List.length_map, decide_eq_true h.one, decide_eq_true h.most, Bool.true_and, Bool.true_and, List.all_eq_true]
  intro x hx
  obtain ⟨n, hn, rfl⟩ := List.mem_map.mp hx
  obtain ⟨h1, h2⟩ := h.each n hn
  show (decide (1 ≤ n) && decide (n ≤ 1000000)) = true
  rw [decide_eq_true h1, decide_eq_true h2] <;> rfl
def AreP (K : PySem.W.Frag) (vs : List V) (H : Hp) (Q : VK) : Prop := ∃ (v : V) (d : PD), vs = [v] ∧ Rep K H v d ∧ ∀ H', Same H H' → Q (.bl (chainD d)) H'
def spAre (K : PySem.W.Frag) : Sp := fun vs H Q _ => Hold (AreP K vs H Q)
def CheckP (K : PySem.W.Frag) (C : Addr) (vs : List V) (H : Hp) (Q : VK) (E : XK) : Prop := ∃ (v : V) (d : PD), vs = [v] ∧ Rep K H v d ∧ (chainD d = true → ∀ H', Same H H' → Q .non H') ∧ (chainD d = false → Told E H C v)
def spCosts (K : PySem.W.Frag) (C : Addr) : Sp := fun vs H Q E => Hold (CheckP K C vs H Q E)
def LeastP (K : PySem.W.Frag) (CC CS : Addr) (vs : List V) (H : Hp) (Q : VK) (E : XK) : Prop := ∃ (v1 v2 : V) (d1 d2 : PD), vs = [v1, v2] ∧ Rep K H v1 d1 ∧ Rep K H v2 d2 ∧ (chainD d1 = false → Told E H CC v1) ∧ (chainD d1 = true → btw 1 40 d2 = false → Told E H CS v2) ∧
  (chainD d1 = true → btw 1 40 d2 = true → ∃ (cs : List Int) (c : Nat), d1 = pdI cs ∧ d2 = .int c ∧ Chain cs ∧ 1 ≤ c ∧ c ≤ 40 ∧ ∀ H', Same H H' → Q (.int (MT.T cs (c - 1) 0 cs.length)) H')
def spLeast (K : PySem.W.Frag) (CC CS : Addr) : Sp := fun vs H Q E => Hold (LeastP K CC CS vs H Q E)
theorem Told.mono {E : XK} {H H' : Hp} {C : Addr} {v : V} (t : Told E H C v) (s : Same H H') : Told E H' C v := fun d G g n e => t d G (s.trans g) (s.free n) e
section
variable {P : Program} {w : World} {K : PySem.W.Frag} {mg : Str → Option Value} {base : Heap}
theorem ok_are (F : At K mg "are_costs" s_are_costs) (B : Bi mg) (g_MOST_ROUNDS : ∃ t, mg "MOST_ROUNDS" = some (.int 60 t)) (g_MOST_COST : ∃ t, mg "MOST_COST" = some (.int 1000000 t))
    (d_is_list : Dn P w K mg base 1 "is_list" s_is_list ["value"] (spIsList K)) (d_is_between : Dn P w K mg base 2 "is_between" s_is_between ["value", "low", "high"] (spBtw K)) : Dn P w K mg base 3 "are_costs" s_are_costs ["value"] (spAre K) := by
  obtain ⟨f, fd, F, gm⟩ := F
  refine ⟨f, fd, F.okX sc_are_costs (fun vs H Q E h => ?_) (fun cdv A outer s H vs Q E hr h => ?_), gm, F⟩
  · obtain ⟨v, d, rfl, _⟩ := h.h
    rfl
  · obtain ⟨v, d, rfl, r, k⟩ := h.h
    refine ⟨_, PSs.nox ((pss_cons (ps_if (PW.pt (pw_or (pt_not (pt_val (pe_cl d_is_list bd_is_list (hr.mono (by omega)) passL (pa_cons (pv 0) pa_nil)))) (pw_or1 (pt_not (pt_chain op_le op_le pe_int (pe_callB (clLen K) (by rfl) B.len (by decide +kernel) (pa_cons (pv 0) pa_nil)) (pe_globI g_MOST_ROUNDS))))))
      (pss_one (ps_ret pe_bl))
      pss_nil)
      (pss_one (ps_ret (pe_callB (clAll K) (by rfl) B.all (by decide +kernel) (pa_cons (pe_lc (own := [("cost", 1)]) rfl sc_are_costs.nd (piQ K (pv 0)) (blkOk_by (own := [("cost", 1)]) (N := ["value", "cost"]) (sc := defScope s_are_costs) (by decide +kernel)) (fun _ _ _ _ _ => (pg_name (i := 1) sc_are_costs.nd rfl (Or.inl rfl))) (fun _ _ _ _ _ => pts_nil) (fun _ _ _ _ _ => (pe_cl d_is_between bd_is_between (hr.mono (by omega)) passL (pa_cons (pv 1) (pa_cons pe_int (pa_cons (pe_globI g_MOST_COST) pa_nil)))))) pa_nil)))))), ?_⟩
    decreasing_trivial_pre_omega
    refine ⟨v, d, rfl, r, fun H1 s1 => ?_⟩
    decreasing_trivial_pre_omega
    have r1 := r.mono s1
    have k2 : ∀ b : Bool, chainD d = b → ∀ H', Same H H' → Q (.bl b) H' := fun b e H' s => by
      rw [← e]
      exact k H' s
    clear k
    cases d with
    | lst l | tup l =>
      first
        | obtain ⟨a, xs, rfl, hxs, hr2, small⟩ := r1.inv_lst
        | obtain ⟨a, xs, rfl, hxs, hr2, small⟩ := r1.inv_tup
      have len := hr2.len
      decreasing_trivial_pre_omega
      by_cases q1 : 1 ≤ l.length
      · refine if_t (decide_eq_true (by omega)) ?_
        decreasing_trivial_pre_omega
        by_cases q2 : l.length ≤ 60
        · refine if_f (by rw [decide_eq_true (show (xs.length : Int) ≤ 60 by omega)] <;> rfl) ?_
          decreasing_trivial_pre_omega
          have fin : ∀ (D : Addr) (H3 : Hp), H1 D = none → Same H1 (hid [D] H3) → H3 D = some (.lst (((l.take xs.length).map (btw 1 1000000)).map V.bl)) → Hold (rAll K [.ref D] H3 fun x H' => Q x H') := by
            intro D H3 nD s3 hD
            refine all_l (.inl (.inl hD)) ?_
            have e : (l.take xs.length).map (btw 1 1000000) = l.map (btw 1 1000000) := by rw [len, List.take_length]
            rw [e]
            refine k2 _ ?_ _ (s1.trans (s3.trans hid_same))
            show (decide (1 ≤ l.length) && (decide (l.length ≤ 60) && l.all (btw 1 1000000))) = _
            rw [decide_eq_true q1, decide_eq_true q2, Bool.true_and, Bool.true_and, List.all_map]
            rfl
          have start : ∀ D : Addr, H1 D = none → Same H1 (hid [D] (upd H1 D (.lst []))) := by
            intro D nD
            have z := hid_new (l := []) (o := .lst []) nD
            rw [hid_nil] at z
            exact z
          first
            | (refine .mk (.inl ⟨_, rfl, a, rfl, ⟨_, hxs⟩, fun D nD => ?_⟩)
               refine lc_it (n := xs.length) (walk_list (xs := xs)) (fun i H' => Same H1 (hid [D] H') ∧ H' D = some (.lst (((l.take i).map (btw 1 1000000)).map V.bl))) ⟨start D nD, upd_same⟩ (fun i H' _ q => Same.sql (q.1.trans hid_same) hxs) ?_ (fun H3 q => fin D H3 nD q.1 q.2))
            | (refine .mk (.inr ⟨_, rfl, a, rfl, ⟨_, hxs⟩, fun D nD => ?_⟩)
               refine lc_it (n := xs.length) (walk_tup (xs := xs)) (fun i H' => Same H1 (hid [D] H') ∧ H' D = some (.lst (((l.take i).map (btw 1 1000000)).map V.bl))) ⟨start D nD, upd_same⟩ (fun i H' _ q => Same.sqt (q.1.trans hid_same) hxs) ?_ (fun H3 q => fin D H3 nD q.1 q.2))
          rintro i x H2 _ hi ⟨s2, hD⟩ ⟨rfl, hx⟩
          obtain ⟨d, hd, rd⟩ := RepL.at hr2 hx
          refine ⟨rfl, ?_⟩
          decreasing_trivial_pre_omega
          refine ⟨x, d, 1, 1000000, rfl, rd.mono (s2.trans hid_same), ?_⟩
          refine ⟨_, hD, szl _ (by rw [List.length_map, List.length_map, List.length_take]; omega), by rw [hid_upd (by simp)]; exact s2, ?_⟩
          rw [upd_same, MT.take_more hd, List.map_append, List.map_append]
          rfl
        · refine if_t (by rw [decide_eq_false (show ¬ (xs.length : Int) ≤ 60 by omega)] <;> rfl) ?_
          refine k2 _ ?_ _ s1
          show (decide (1 ≤ l.length) && (decide (l.length ≤ 60) && l.all (btw 1 1000000))) = false
          rw [decide_eq_false q2, Bool.false_and, Bool.and_false]
      · refine if_f (decide_eq_false (by omega)) ?_
        decreasing_trivial_pre_omega
        refine k2 _ ?_ _ s1
        show (decide (1 ≤ l.length) && (decide (l.length ≤ 60) && l.all (btw 1 1000000))) = false
        rw [decide_eq_false q1, Bool.false_and]
    | _ =>
      decreasing_trivial_pre_omega
      exact k2 _ rfl _ s1
end

end K30

namespace K30
open PySem PySem.Spec PyProof.Rows L2 GB
local macro_rules | `(tactic| array_mem_dec) => `(tactic| first
  | assumption | exact .non | exact .bl _ | exact .int _ | exact .str _ (by assumption) | exact .str _ (by decide))
local macro_rules | `(tactic| sizeOf_list_dec) => `(tactic| (show Hold _; first
  | (with_reducible refine len_l (xs := ?_) ?_ ?_; rotate_left; focus (assumption))
  | (with_reducible refine len_t (xs := ?_) ?_ ?_; rotate_left; focus (assumption))
  | (with_reducible refine len_s ?_ ?_; focus (first | assumption | exact sz _ (by assumption)))
  | (with_reducible refine len_d (kvs := ?_) ?_ ?_; rotate_left; focus (assumption))
  | (with_reducible refine isi_int (d := ?_) ?_ ?_; rotate_left; focus (array_mem_dec))
  | (with_reducible refine isi_bool (d := ?_) ?_ ?_; rotate_left; focus (array_mem_dec))
  | (with_reducible refine isi_str (d := ?_) ?_ ?_; rotate_left; focus (array_mem_dec))
  | (with_reducible refine isi_lst (d := ?_) ?_ ?_; rotate_left; focus (array_mem_dec))
  | (with_reducible refine isi_tup (d := ?_) ?_ ?_; rotate_left; focus (array_mem_dec))
  | (with_reducible refine isi_dct (d := ?_) ?_ ?_; rotate_left; focus (array_mem_dec))))
local macro_rules | `(tactic| array_get_dec) => `(tactic| first
  | (refine ⟨_, rfl, ?_⟩)
  | (refine ⟨rfl, ?_⟩)
  | (refine ⟨_, _, rfl, rfl, ?_⟩)
  | sizeOf_list_dec
  | (refine Or.inl ⟨_, rfl, ?_⟩)
  | (refine ⟨?_, ?_⟩; focus ((with_reducible refine sz _ ?_); first | assumption | exact Nat.le_of_ble_eq_true rfl))
  | (refine ⟨?_, ?_⟩; focus ((with_reducible show (_ : Int) ≠ 0); first | decide | omega))
  | (refine ⟨Or.inl ⟨?_, ?_⟩, ?_⟩; (focus decide); (focus decide)))
local macro_rules | `(tactic| decreasing_trivial_pre_omega) => `(tactic| repeat array_get_dec)

section
variable {P : Program} {w : World} {K : PySem.W.Frag} {mg : Str → Option Value} {base : Heap}
theorem ok_costs {C : Addr} (F : At K mg "check_costs" s_check_costs) (B : Bi mg) (e_InvalidCosts : Er P w K mg base "InvalidCosts" C ["given"])
    (d_are_costs : Dn P w K mg base 3 "are_costs" s_are_costs ["value"] (spAre K)) : Dn P w K mg base 4 "check_costs" s_check_costs ["costs"] (spCosts K C) := by
  obtain ⟨f, fd, F, gm⟩ := F
  refine ⟨f, fd, F.okX sc_check_costs (fun vs H Q E h => ?_) (fun cdv A outer s H vs Q E hr h => ?_), gm, F⟩
  · obtain ⟨v, d, rfl, _⟩ := h.h
    rfl
  · obtain ⟨v, d, rfl, r, k1, k2⟩ := h.h
    refine ⟨_, (pss_one (ps_if (pt_not (pt_val (pe_cl d_are_costs bd_are_costs (hr.mono (by omega)) passL (pa_cons (pv 0) pa_nil))))
      (pss_one (ps_raiseEr rfl e_InvalidCosts (hr.mono (by omega)) (takes_of rfl rfl rfl rfl) (pa_cons (pv 0) pa_nil) (monoA_cons monoE_var monoA_nil)))
      pss_nil)), ?_⟩
    decreasing_trivial_pre_omega
    refine .mk ⟨v, d, rfl, r, fun H1 s1 => ?_⟩
    decreasing_trivial_pre_omega
    cases e : chainD d with
    | true => exact k1 e _ s1
    | false =>
      refine ⟨_, rfl, rfl, fun q H' s nq eq => (k2 e).mono s1 q H' s nq eq⟩
theorem last_of {α : Type} {xs : List α} {n : Nat} {v : α} (h : xs.length = n + 1) (e : xs[n]? = some v) : atI xs (-1) = some v := by
  apply at_last
  rw [h]
  exact e
theorem ok_least {CC CS : Addr} (F : At K mg "least_cost" s_least_cost) (B : Bi mg) (d_check_costs : Dn P w K mg base 4 "check_costs" s_check_costs ["costs"] (spCosts K CC)) (d_check_slots : Dn P w K mg base 3 "check_slots" s_check_slots ["c"] (spSlots K CS))
    (d_table_of : Dn P w K mg base 2 "table_of" s_table_of ["costs", "c"] (spTab K)) : Dn P w K mg base 5 "least_cost" s_least_cost ["costs", "c"] (spLeast K CC CS) := by
  obtain ⟨f, fd, F, gm⟩ := F
  refine ⟨f, fd, F.okX sc_least_cost (fun vs H Q E h => ?_) (fun cdv A outer s H vs Q E hr h => ?_), gm, F⟩
  · obtain ⟨v1, v2, d1, d2, rfl, _⟩ := h.h
    rfl
  · obtain ⟨v1, v2, d1, d2, rfl, r1, r2, k1, k2, k3⟩ := h.h
    refine ⟨_, (pss_cons (ps_expr (pe_cl d_check_costs bd_check_costs (hr.mono (by omega)) (passes_call (takes_of rfl rfl rfl rfl) fun _ _ _ _ h => h) (pa_cons (pv 0) pa_nil)))
      (pss_cons (ps_expr (pe_cl d_check_slots bd_check_slots (hr.mono (by omega)) (passes_call (takes_of rfl rfl rfl rfl) fun _ _ _ _ h => h) (pa_cons (pv 1) pa_nil)))
      (pss_one (ps_ret (pe_ix (ixL K) (pe_ix (ixL K) (pe_ix (ixL K) (pe_cl d_table_of bd_table_of (hr.mono (by omega)) passL (pa_cons (pv 0) (pa_cons (pv 1) pa_nil))) (pe_un un_neg pe_int) (fun _ _ => rfl)) pe_int (fun _ _ => rfl)) (pe_un un_neg pe_int) (fun _ _ => rfl)))))), ?_⟩
    decreasing_trivial_pre_omega
    refine .mk ⟨v1, d1, rfl, r1, fun e1 H1 s1 => ?_, fun e1 => k1 e1⟩
    decreasing_trivial_pre_omega
    refine ⟨v2, d2, rfl, r2.mono s1, fun e2 => ?_, fun e2 => (k2 e1 e2).mono s1⟩
    obtain ⟨cs, c, rfl, rfl, hC, c1, c2, k⟩ := k3 e1 e2
    obtain ⟨a, rfl, ha, _⟩ := rep_ints_inv r1
    cases r2
    decreasing_trivial_pre_omega
    refine .mk ⟨a, cs, c, rfl, Same.sql s1 ha, hC, c1, c2, fun v H2 s2 rv => ?_⟩
    decreasing_trivial_pre_omega
    obtain ⟨at_, xt, rfl, ht, hr3, _⟩ := Rep.inv_lst rv
    have lt : xt.length = (c - 1) + 1 := by
      rw [hr3.len, List.length_map]
      show ((List.range c).map _).length = _
      rw [List.length_map, List.length_range]
      omega
    obtain ⟨v3, e3, r3⟩ := repl_get (r := MT.tab cs c) (f := pdII) hr3 (i := c - 1) (x := MT.tabRows cs (c - 1)) (by show ((List.range c).map _)[c - 1]? = _; rw [List.getElem?_map, List.getElem?_range (by omega)]; rfl)
    refine ix_l ht (v := v3) (last_of lt e3) ?_
    obtain ⟨a4, x4, rfl, h4, hr4, l4, _⟩ := rep_rows_inv r3
    decreasing_trivial_pre_omega
    obtain ⟨v5, e5, r5⟩ := repl_get (r := MT.tabRows cs (c - 1)) (f := pdI) hr4 (i := 0) (x := MT.tabRow cs (c - 1) 0) (by show ((List.range cs.length).map _)[0]? = _; rw [List.getElem?_map, List.getElem?_range (by have := hC.one; omega)]; rfl)
    refine ix_l h4 (v := v5) (atI_ok (by decide) e5) ?_
    obtain ⟨a6, rfl, h6, _⟩ := rep_ints_inv r5
    decreasing_trivial_pre_omega
    have one := hC.one
    have l6 : ((MT.tabRow cs (c - 1) 0).map V.int).length = (cs.length - 1) + 1 := by
      rw [List.length_map]
      show ((List.range (cs.length - 0)).map _).length = _
      rw [List.length_map, List.length_range]
      omega
    refine ix_l h6 (v := .int (MT.T cs (c - 1) 0 cs.length)) (last_of l6 ?_) (k _ (s1.trans s2))
    rw [List.getElem?_map]
    show (((List.range (cs.length - 0)).map _)[cs.length - 1]?).map _ = _
    rw [List.getElem?_map, List.getElem?_range (by omega)]
    have e : cs.length - 1 + 1 = cs.length := by omega
    show some (V.int (MT.T cs (c - 1) 0 (cs.length - 1 + 1))) = _
    rw [e]
end

end K30

namespace K30
open PySem PySem.Spec PyProof.Rows L2 GB
local macro_rules | `(tactic| array_mem_dec) => `(tactic| first
  | assumption | exact .non | exact .bl _ | exact .int _ | exact .str _ (by assumption) | exact .str _ (by decide))
local macro_rules | `(tactic| sizeOf_list_dec) => `(tactic| (show Hold _; first
  | (with_reducible refine len_l (xs := ?_) ?_ ?_; rotate_left; focus (assumption))
  | (with_reducible refine len_t (xs := ?_) ?_ ?_; rotate_left; focus (assumption))
  | (with_reducible refine len_s ?_ ?_; focus (first | assumption | exact sz _ (by assumption)))
  | (with_reducible refine len_d (kvs := ?_) ?_ ?_; rotate_left; focus (assumption))
  | (with_reducible refine isi_int (d := ?_) ?_ ?_; rotate_left; focus (array_mem_dec))
  | (with_reducible refine isi_bool (d := ?_) ?_ ?_; rotate_left; focus (array_mem_dec))
  | (with_reducible refine isi_str (d := ?_) ?_ ?_; rotate_left; focus (array_mem_dec))
  | (with_reducible refine isi_lst (d := ?_) ?_ ?_; rotate_left; focus (array_mem_dec))
  | (with_reducible refine isi_tup (d := ?_) ?_ ?_; rotate_left; focus (array_mem_dec))
  | (with_reducible refine isi_dct (d := ?_) ?_ ?_; rotate_left; focus (array_mem_dec))))
local macro_rules | `(tactic| array_get_dec) => `(tactic| first
  | (refine ⟨_, rfl, ?_⟩)
  | (refine ⟨rfl, ?_⟩)
  | (refine ⟨_, _, rfl, rfl, ?_⟩)
  | sizeOf_list_dec
  | (refine Or.inl ⟨_, rfl, ?_⟩)
  | (refine ⟨?_, ?_⟩; focus ((with_reducible refine sz _ ?_); first | assumption | exact Nat.le_of_ble_eq_true rfl))
  | (refine ⟨?_, ?_⟩; focus ((with_reducible show (_ : Int) ≠ 0); first | decide | omega))
  | (refine ⟨Or.inl ⟨?_, ?_⟩, ?_⟩; (focus decide); (focus decide)))
local macro_rules | `(tactic| decreasing_trivial_pre_omega) => `(tactic| repeat array_get_dec)

/-! ### the law's own table -/
def LTabP (K : PySem.W.Frag) (vs : List V) (H : Hp) (Q : VK) : Prop := ∃ (a : Addr) (cs : List Int) (c : Nat), vs = [.ref a, .int c] ∧ SqL K H a (cs.map V.int) ∧ Chain cs ∧ 1 ≤ c ∧ c ≤ 40 ∧ ∀ v H', Same H H' → Rep K H' v (pdIII (MT.tab cs c)) → Q v H'
def spLTab (K : PySem.W.Frag) : Sp := fun vs H Q _ => Hold (LTabP K vs H Q)
section
variable {P : Program} {w : World} {K : PySem.W.Frag} {mg : Str → Option Value} {base : Heap}
theorem ok_lawTable (F : At K mg "_law_table" s__law_table) (B : Bi mg) : Dn P w K mg base 1 "_law_table" s__law_table ["costs", "c"] (spLTab K) := by
  obtain ⟨f, fd, F, gm⟩ := F
  refine ⟨f, fd, F.okX sc__law_table (fun vs H Q E h => ?_) (fun cdv A outer s H vs Q E hr h => ?_), gm, F⟩
  · obtain ⟨a, cs, c, rfl, _⟩ := h.h
    rfl
  · obtain ⟨a, cs, c, rfl, hS, hC, c1, c2, k⟩ := h.h
    refine ⟨_, PSs.nox ((pss_cons (ps_asg (pe_tup (pa_cons (pe_callB (clLen K) (by rfl) B.len (by decide +kernel) (pa_cons (pv 0) pa_nil)) (pa_cons (pe_lst pa_nil) pa_nil))) (pgTup K rfl (pgs_cons (pg_name (i := 2) sc__law_table.nd rfl (Or.inr rfl)) (pgs_cons (pg_name (i := 3) sc__law_table.nd rfl (Or.inr rfl)) pgs_nil))))
      (pss_cons (ps_for PassesOwn.never rfl (pi_range1 (by rfl) B.range (pa_cons (pv 1) pa_nil)) (pg_name (i := 4) sc__law_table.nd rfl (Or.inr rfl))
      (pss_cons (ps_set (i := 5) sc__law_table.nd rfl (Or.inr rfl) (pe_lc (own := [("first", 7)]) rfl sc__law_table.nd (pi_range1 (by rfl) B.range (pa_cons (pv 2) pa_nil)) (blkOk_by (own := [("first", 7)]) (N := ["costs", "c", "many", "found", "slots", "rows", "size", "first", "sums", "k", "part"]) (sc := defScope s__law_table) (by decide +kernel)) (fun _ _ _ _ _ => (pg_name (i := 7) sc__law_table.nd rfl (Or.inl rfl))) (fun _ _ _ _ _ => pts_nil) (fun _ _ _ _ _ => (pe_op op_rep (pe_lst (pa_cons pe_int pa_nil)) (pe_op op_sub (pv 2) (pv 7))))))
      (pss_cons (ps_for PassesOwn.never rfl (pi_range2 (by rfl) B.range (pa_cons pe_int (pa_cons (pe_op op_add (pv 2) pe_int) pa_nil))) (pg_name (i := 6) sc__law_table.nd rfl (Or.inr rfl))
      (pss_one (ps_for PassesOwn.never rfl (pi_range1 (by rfl) B.range (pa_cons (pe_op op_add (pe_op op_sub (pv 2) (pv 6)) pe_int) pa_nil)) (pg_name (i := 7) sc__law_table.nd rfl (Or.inr rfl))
      (pss_one (ps_if (pt_cmpR op_eq (pv 4) pe_int (nomark _))
      (pss_one (ps_asg (pe_callB (clSum K) (by rfl) B.sum (by decide +kernel) (pa_cons (pe_lc (own := [("k", 9)]) rfl sc__law_table.nd (pi_range1 (by rfl) B.range (pa_cons (pe_op op_sub (pv 6) pe_int) pa_nil)) (blkOk_by (own := [("k", 9)]) (N := ["costs", "c", "many", "found", "slots", "rows", "size", "first", "sums", "k", "part"]) (sc := defScope s__law_table) (by decide +kernel)) (fun _ _ _ _ _ => (pg_name (i := 9) sc__law_table.nd rfl (Or.inl rfl))) (fun _ _ _ _ _ => pts_nil) (fun _ _ _ _ _ => (pe_op op_mul (pe_ix (ixL K) (pv 0) (pe_op op_add (pv 7) (pv 9)) (fun _ _ => rfl)) (pe_op op_sub (pe_op op_sub (pv 6) pe_int) (pv 9))))) pa_nil)) (pg_sub (pe_ix (ixL K) (pv 5) (pv 7) (fun _ _ => rfl)) (pe_op op_sub (pv 6) pe_int) set_list)))
      (pss_cons (ps_setLc (i := 8) (own := [("part", 10)]) rfl sc__law_table.nd rfl rfl (sw_true rfl rfl rfl (by decide +kernel)) (pi_range2 (by rfl) B.range (pa_cons pe_int (pa_cons (pv 6) pa_nil))) (blkOk_by (own := [("part", 10)]) (N := ["costs", "c", "many", "found", "slots", "rows", "size", "first", "sums", "k", "part"]) (sc := defScope s__law_table) (by decide +kernel)) (fun _ _ _ _ _ => (pg_name (i := 10) sc__law_table.nd rfl (Or.inl rfl))) (fun _ _ _ _ _ => pts_nil) (fun _ _ _ _ _ => (pe_op op_add (pe_op op_add (pe_callB (clSum K) (by rfl) B.sum (by decide +kernel) (pa_cons (pe_slice (slL K) (pv 0) (po_some (pv 7)) (po_some (pe_op op_add (pv 7) (pv 10)))) pa_nil)) (pe_ix (ixL K) (pe_ix (ixL K) (pe_ix (ixL K) (pv 3) (pe_op op_sub (pv 4) pe_int) (fun _ _ => rfl)) (pe_op op_add (pv 7) (pv 10)) (fun _ _ => rfl)) (pe_op op_sub (pe_op op_sub (pv 6) (pv 10)) pe_int) (fun _ _ => rfl))) (pe_ix (ixL K) (pe_ix (ixL K) (pv 5) (pv 7) (fun _ _ => rfl)) (pe_op op_sub (pv 10) pe_int) (fun _ _ => rfl)))))
      (pss_one (ps_asg (pe_callB (clMin K) (by rfl) B.min (by decide +kernel) (pa_cons (pv 8) pa_nil)) (pg_sub (pe_ix (ixL K) (pv 5) (pv 7) (fun _ _ => rfl)) (pe_op op_sub (pv 6) pe_int) set_list)))))))))
      (pss_one (ps_expr (pe_bm PySem.F.plainAttrs_list PySem.F.slot_list_append PySem.F.type_list_append mt_append (pv 3) (pa_cons (pv 5) pa_nil)))))))
      (pss_one (ps_ret (pv 3)))))), ?_⟩
    decreasing_trivial_pre_omega
    refine fun pf nf => ?_
    decreasing_trivial_pre_omega
    refine fun pt nt => ?_
    refine ⟨pt, _, rfl, .inl (.inl upd_same), rfl, _, _, rfl, _, _, rfl, rfl, ?_⟩
    have ln : (cs.map V.int).length = cs.length := List.length_map ..
    rw [ln]
    have l60 := hC.most
    have one := hC.one
    have s0 := hid_new (l := []) (o := .lst []) nf
    rw [hid_nil] at s0
    have s1 := s0.trans (hid_mono (l := [pf]) (same_new (o := .tup [.int cs.length, .ref pf]) nt))
    have hf0 : (upd (upd H pf (.lst [])) pt (.tup [.int cs.length, .ref pf])) pf = some (.lst []) := same_new nt _ _ upd_same
    decreasing_trivial_pre_omega
    refine ⟨by omega, by omega, for_range (lo := 0) (n := c) (fun s σ G => ∃ (x4 x5 x6 x7 x8 x9 x10 : Option V) (items : List V), σ = [some (.ref a), some (.int c), some (.int cs.length), some (.ref pf), x4, x5, x6, x7, x8, x9, x10] ∧ Same H (hid [pf] G) ∧
        G pf = some (.lst items) ∧ RepL K (hid [pf] G) items (((List.range s).map fun s => MT.tabRows cs s).map pdII))
      ⟨none, none, none, none, none, none, none, [], rfl, s1, hf0, .nil⟩ ?_ ?_⟩
    · rintro s σ G hs ⟨x4, x5, x6, x7, x8, x9, x10, items, rfl, sG, hf, hI⟩
      decreasing_trivial_pre_omega
      refine ⟨by omega, by omega, fun D nD => ?_⟩
      have Df : pf ≠ D := (off nD hf).symm
      have s2 := hid_new (l := [pf]) (o := .lst []) nD
      refine lc_range (lo := 0) (n := cs.length) (fun i G2 => ∃ ws : List Addr, ws.length = i ∧ ws.Nodup ∧ (∀ w ∈ ws, w ≠ D ∧ w ≠ pf) ∧ Same H (hid (ws ++ [D, pf]) G2) ∧ G2 pf = some (.lst items) ∧
          RepL K (hid (ws ++ [D, pf]) G2) items (((List.range s).map fun s => MT.tabRows cs s).map pdII) ∧ G2 D = some (.lst (ws.map V.ref)) ∧ ∀ f w, ws[f]? = some w → G2 w = some (.lst ((MT.rowAt cs s f 1).map V.int)))
        ⟨[], rfl, List.nodup_nil, fun w z => (by cases z), sG.trans s2, by rw [upd_ne Df]; exact hf, hI.mono s2, upd_same, fun f w z => (by simp at z)⟩ ?_ ?_
      · rintro i G2 hi ⟨ws, wl, wn, wo, sG2, hf2, hI2, hD2, hw2⟩
        refine ⟨rfl, ?_⟩
        decreasing_trivial_pre_omega
        refine fun q nq => ?_
        decreasing_trivial_pre_omega
        refine ⟨q, _, _, rfl, rfl, upd_same, by omega, by omega, ?_, fun w nw => ?_⟩
        · show 1 * _ ≤ sizeLine
          exact sz _ (by omega)
        · rw [rep_zeros]
          have sq := same_new (o := .lst [.int 0]) nq
          have eL : ((cs.length : Int) - (0 + (i : Int))).toNat = cs.length - i := by omega
          rw [eL, ← MT.rowAt_zero cs s i]
          have wD : D ≠ w := (off nw (sq _ _ hD2)).symm
          have wpf : pf ≠ w := (off nw (sq _ _ hf2)).symm
          have sw := same_new (o := .lst ((MT.rowAt cs s i 1).map V.int)) nw
          have wnew : w ∉ ws := by
            intro hm
            obtain ⟨f, hf'⟩ := List.getElem?_of_mem hm
            have z := sq _ _ (hw2 f w hf')
            rw [nw] at z
            cases z
          have step : Same (hid (ws ++ [D, pf]) G2) (hid ((ws ++ [w]) ++ [D, pf]) (upd (upd (upd G2 q (.lst [.int 0])) w (.lst ((MT.rowAt cs s i 1).map V.int))) D (.lst (ws.map V.ref ++ [V.ref w])))) := by
            rw [hid_upd (by simp)]
            refine ((hid_mono sq).trans (hid_new (l := ws ++ [D, pf]) nw)).trans (hid_less ?_)
            intro x hx
            simp at hx ⊢
            rcases hx with h | h | h | h <;> simp [h]
          refine ⟨ws.map V.ref, sw _ _ (sq _ _ hD2), szl _ (by rw [List.length_map]; omega), ws ++ [w], by rw [List.length_append, wl]; rfl, ?_, ?_, sG2.trans step, ?_, hI2.mono step, ?_, ?_⟩
          · rw [List.nodup_append]
            refine ⟨wn, by simp, ?_⟩
            intro x hx y hy e
            rw [List.mem_singleton.mp hy] at e
            rw [e] at hx
            exact wnew hx
          · intro x hx
            rcases List.mem_append.mp hx with h | h
            · exact wo x h
            · rw [List.mem_singleton.mp h]
              exact ⟨Ne.symm wD, Ne.symm wpf⟩
          · rw [upd_ne Df, upd_ne wpf]
            exact sq _ _ hf2
          · rw [upd_same, List.map_append]
            rfl
          · intro f x hx
            rcases Nat.lt_or_ge f ws.length with hl | hl
            · rw [List.getElem?_append_left hl] at hx
              have hm := List.mem_of_getElem? hx
              rw [upd_ne (wo x hm).1, upd_ne (fun e => wnew (by rw [← e]; exact hm))]
              exact sq _ _ (hw2 f x hx)
            · rw [List.getElem?_append_right hl] at hx
              have e0 : f - ws.length = 0 := by
                rcases Nat.eq_zero_or_pos (f - ws.length) with z | z
                · exact z
                · rw [List.getElem?_eq_none (by simp; omega)] at hx
                  cases hx
              rw [e0] at hx
              cases hx
              have ef : f = i := by omega
              subst ef
              rw [upd_ne (Ne.symm wD), upd_same]
      · rintro G2 ⟨ws, wl, wn, wo, sG2, hf2, hI2, hD2, hw2⟩
        decreasing_trivial_pre_omega
        refine ⟨2, _, rfl, ⟨by omega, by omega, by omega, by omega⟩, for_range (lo := 2) (n := ((cs.length : Int) + 1 - 2).toNat) (fun i σ G3 => ∃ (x6 x7 x8 x9 x10 : Option V), σ = [some (.ref a), some (.int c), some (.int cs.length), some (.ref pf), some (.int (0 + (s : Int))), some (.ref D), x6, x7, x8, x9, x10] ∧ Same H (hid (ws ++ [D, pf]) G3) ∧
            G3 pf = some (.lst items) ∧ RepL K (hid (ws ++ [D, pf]) G3) items (((List.range s).map fun s => MT.tabRows cs s).map pdII) ∧ G3 D = some (.lst (ws.map V.ref)) ∧ ∀ f w, ws[f]? = some w → G3 w = some (.lst ((MT.rowAt cs s f (i + 1)).map V.int)))
          ⟨x6, x7, x8, x9, x10, rfl, sG2, hf2, hI2, hD2, hw2⟩ ?_ ?_⟩
        · rintro i σ G3 hi ⟨x6, x7, x8, x9, x10, rfl, sG3, hf3, hI3, hD3, hw3⟩
          decreasing_trivial_pre_omega
          refine ⟨by omega, by omega, for_range (lo := 0) (n := ((cs.length : Int) - (2 + (i : Int)) + 1).toNat) (fun f σ G4 => ∃ (x7 x8 x9 x10 : Option V), σ = [some (.ref a), some (.int c), some (.int cs.length), some (.ref pf), some (.int (0 + (s : Int))), some (.ref D), some (.int (2 + (i : Int))), x7, x8, x9, x10] ∧ Same H (hid (ws ++ [D, pf]) G4) ∧
              G4 pf = some (.lst items) ∧ RepL K (hid (ws ++ [D, pf]) G4) items (((List.range s).map fun s => MT.tabRows cs s).map pdII) ∧ G4 D = some (.lst (ws.map V.ref)) ∧ ∀ f' w, ws[f']? = some w → G4 w = some (.lst ((MT.rowAt cs s f' (if f' < f then i + 2 else i + 1)).map V.int)))
            ⟨x7, x8, x9, x10, rfl, sG3, hf3, hI3, hD3, fun f' w hw => (by rw [if_neg (Nat.not_lt_zero _)]; exact hw3 f' w hw)⟩ ?_ ?_⟩
          · rintro f σ G4 hf' ⟨x7, x8, x9, x10, rfl, sG4, hf4, hI4, hD4, hw4⟩
            have lf : f + (i + 2) ≤ cs.length := by omega
            have e0f : (0 + (f : Int)).toNat = f := by omega
            have hS4 := Same.sql (sG4.trans hid_same) hS
            obtain ⟨wf, hwf⟩ : ∃ wf, ws[f]? = some wf := ⟨_, List.getElem?_eq_getElem (by omega)⟩
            decreasing_trivial_pre_omega
            by_cases ez : s = 0
            · subst ez
              refine if_t (by rfl) ?_
              decreasing_trivial_pre_omega
              refine ⟨by omega, by omega, fun D2 nD2 => ?_⟩
              have sd := hid_new (l := []) (o := .lst []) nD2
              rw [hid_nil] at sd
              refine lc_range (lo := 0) (n := ((2 : Int) + (i : Int) - 1).toNat) (fun j G5 => Same G4 (hid [D2] G5) ∧ G5 D2 = some (.lst (((List.range j).map fun k => cs.getD (f + k) 0 * (((i + 1 : Nat) : Int) - (k : Int))).map V.int))) ⟨sd, upd_same⟩ ?_ ?_
              · rintro j G5 hj ⟨s5, h5⟩
                refine ⟨rfl, ?_⟩
                decreasing_trivial_pre_omega
                have lj : f + j < cs.length := by omega
                have gj : cs[f + j]? = some (cs.getD (f + j) 0) := by
                  rw [List.getD_eq_getElem?_getD, List.getElem?_eq_getElem lj]
                  rfl
                obtain ⟨c1', c2'⟩ := hC.each _ (List.mem_of_getElem? gj)
                refine ix_l (Same.sql (s5.trans hid_same) hS4) (v := .int (cs.getD (f + j) 0)) (atI_ok (by omega) ?_) ?_
                · have e : ((0 + (f : Int)) + (0 + (j : Int))).toNat = f + j := by omega
                  rw [e, List.getElem?_map, gj]
                  rfl
                decreasing_trivial_pre_omega
                refine ⟨.inl ⟨by omega, by omega⟩, ?_⟩
                refine ⟨_, h5, szl _ (by rw [List.length_map, List.length_map, List.length_range]; omega), by rw [hid_upd (by simp)]; exact s5, ?_⟩
                rw [upd_same, List.range_succ, List.map_append, List.map_append]
                have e2 : ((2 : Int) + (i : Int) - 1 - (0 + (j : Int))) = (((i + 1 : Nat) : Int) - (j : Int)) := by omega
                show some (HO.lst (_ ++ [V.int (cs.getD (f + j) 0 * ((2 : Int) + (i : Int) - 1 - (0 + (j : Int))))])) = _
                rw [e2]
                rfl
              · rintro G5 ⟨s5, h5⟩
                have s6 := s5.trans hid_same
                have en : ((2 : Int) + (i : Int) - 1).toNat = i + 1 := by omega
                rw [en] at h5
                decreasing_trivial_pre_omega
                refine sum_l (.inl (.inl h5)) ?_
                decreasing_trivial_pre_omega
                refine ix_l (.inl (.inl (s6 _ _ hD4))) (v := .ref wf) (atI_ok (by omega) (by rw [e0f, List.getElem?_map, hwf]; rfl)) ?_
                decreasing_trivial_pre_omega
                refine set_l (j := i + 1) (s6 _ _ (hw4 f wf hwf)) (by omega) (by rw [List.length_map, MT.rowAt_length]; omega) ?_
                have lw : wf ∈ ws := List.mem_of_getElem? hwf
                have hin : wf ∈ ws ++ [D, pf] := List.mem_append_left _ lw
                refine ⟨_, _, _, _, rfl, by rw [hid_upd hin]; exact sG4.trans (hid_mono s6), by rw [upd_ne (Ne.symm (wo wf lw).2)]; exact s6 _ _ hf4, by rw [hid_upd hin]; exact hI4.mono (hid_mono s6), by rw [upd_ne (Ne.symm (wo wf lw).1)]; exact s6 _ _ hD4, ?_⟩
                intro f' w hw
                by_cases ef : f' = f
                · subst ef
                  have ew : w = wf := Option.some.inj (hw.symm.trans hwf)
                  subst ew
                  rw [upd_same, if_neg (Nat.lt_irrefl _), if_pos (Nat.lt_succ_self _), ← List.map_set]
                  have es := MT.rowAt_set (cs := cs) (s := 0) (f := f') (t := i + 1)
                  exact congrArg (fun l : List Int => some (HO.lst (l.map V.int))) (by rw [← es]; exact congrArg _ (MT.S_T0 (by omega)))
                · rw [upd_ne (nodup_ne wn hw hwf ef)]
                  have z := s6 _ _ (hw4 f' w hw)
                  by_cases l1 : f' < f
                  · rw [if_pos l1] at z
                    rw [if_pos (by omega)]
                    exact z
                  · rw [if_neg l1] at z
                    rw [if_neg (by omega)]
                    exact z
            · refine if_f (by apply decide_eq_false; intro z; have := V.int.inj z; omega) ?_
              obtain ⟨s', rfl⟩ : ∃ s', s = s' + 1 := ⟨s - 1, by omega⟩
              have il : items.length = s' + 1 := by rw [hI4.len, List.length_map, List.length_map, List.length_range]
              obtain ⟨v3, e3, r3⟩ := repl_get (r := (List.range (s' + 1)).map fun s => MT.tabRows cs s) (f := pdII) hI4 (i := s') (x := MT.tabRows cs s') (by rw [List.getElem?_map, List.getElem?_range (by omega)]; rfl)
              obtain ⟨a4, x4', rfl, h4', hr4, l4, _⟩ := rep_rows_inv r3
              decreasing_trivial_pre_omega
              refine ⟨1, _, rfl, ⟨by omega, by omega, by omega, by omega⟩, fun D2 nD2 => ?_⟩
              have sd := hid_new (l := []) (o := .lst []) nD2
              rw [hid_nil] at sd
              refine lc_range (lo := 1) (n := ((2 : Int) + (i : Int) - 1).toNat) (fun j G5 => Same G4 (hid [D2] G5) ∧ G5 D2 = some (.lst (((List.range j).map fun k => MT.pre cs f (k + 1) + MT.T cs s' (f + k + 1) (i + 1 - k) + MT.T cs (s' + 1) f (k + 1)).map V.int))) ⟨sd, upd_same⟩ ?_ ?_
              · rintro j G5 hj ⟨s5, h5⟩
                have ji : j < i + 1 := by omega
                have s5' := s5.trans hid_same
                refine ⟨rfl, ?_⟩
                decreasing_trivial_pre_omega
                refine sl_l (Same.sql s5' hS4) fun q nq => ?_
                have sq := same_new (o := .lst (((cs.drop f).take (j + 1)).map V.int)) nq
                have ecut : cutV (cs.map V.int) (some (0 + (f : Int))) (some (0 + (f : Int) + (1 + (j : Int)))) = ((cs.drop f).take (j + 1)).map V.int := by
                  have e1 : (0 + (f : Int)) = ((f : Nat) : Int) := by omega
                  have e2 : (0 + (f : Int) + (1 + (j : Int))) = ((f + (j + 1) : Nat) : Int) := by omega
                  unfold cutV
                  rw [e2, e1, HT.sIx_nat, HT.sIx_nat, List.length_map, Nat.min_eq_left (by omega), Nat.min_eq_left (by omega), Nat.add_sub_cancel_left, ← List.map_drop, ← List.map_take]
                rw [ecut]
                decreasing_trivial_pre_omega
                refine sum_l (.inl (.inl upd_same)) ?_
                have s7 := s5'.trans sq
                decreasing_trivial_pre_omega
                refine ix_l (.inl (.inl (s7 _ _ hf4))) (v := .ref a4) (atI_ok (by omega) ?_) ?_
                · have e : ((0 : Int) + ((s' + 1 : Nat) : Int) - 1).toNat = s' := by omega
                  rw [e]
                  exact e3
                obtain ⟨v5, e5, r5⟩ := repl_get (r := MT.tabRows cs s') (f := pdI) hr4 (i := f + j + 1) (x := MT.tabRow cs s' (f + j + 1)) (by show ((List.range cs.length).map _)[f + j + 1]? = _; rw [List.getElem?_map, List.getElem?_range (by omega)]; rfl)
                obtain ⟨a6, rfl, h6, _⟩ := rep_ints_inv r5
                decreasing_trivial_pre_omega
                refine ix_l (Same.sql (hid_same.trans s7) h4') (v := .ref a6) (atI_ok (by omega) ?_) ?_
                · have e : ((0 + (f : Int)) + (1 + (j : Int))).toNat = f + j + 1 := by omega
                  rw [e]
                  exact e5
                decreasing_trivial_pre_omega
                refine ix_l (Same.sql (hid_same.trans s7) h6) (v := .int (MT.T cs s' (f + j + 1) (i + 1 - j))) (atI_ok (by omega) ?_) ?_
                · have e : ((2 : Int) + (i : Int) - (1 + (j : Int)) - 1).toNat = i - j := by omega
                  rw [e, List.getElem?_map]
                  show (((List.range (cs.length - (f + j + 1))).map _)[i - j]?).map _ = _
                  rw [List.getElem?_map, List.getElem?_range (by omega)]
                  have e2 : i - j + 1 = i + 1 - j := by omega
                  show some (V.int (MT.T cs s' (f + j + 1) (i - j + 1))) = _
                  rw [e2]
                decreasing_trivial_pre_omega
                refine ix_l (.inl (.inl (s7 _ _ hD4))) (v := .ref wf) (atI_ok (by omega) (by rw [e0f, List.getElem?_map, hwf]; rfl)) ?_
                decreasing_trivial_pre_omega
                refine ix_l (.inl (.inl (s7 _ _ (hw4 f wf hwf)))) (v := .int (MT.T cs (s' + 1) f (j + 1))) (atI_ok (by omega) ?_) ?_
                · have e : ((1 + (j : Int)) - 1).toNat = j := by omega
                  rw [e, if_neg (Nat.lt_irrefl _), List.getElem?_map, MT.rowAt_get ji (by omega)]
                  rfl
                decreasing_trivial_pre_omega
                refine ⟨_, sq _ _ h5, szl _ (by rw [List.length_map, List.length_map, List.length_range]; omega), by rw [hid_upd (by simp)]; exact s5.trans (hid_mono sq), ?_⟩
                rw [upd_same, List.range_succ, List.map_append, List.map_append]
                rfl
              · rintro G5 ⟨s5, h5⟩
                have s6 := s5.trans hid_same
                have en : ((2 : Int) + (i : Int) - 1).toNat = i + 1 := by omega
                rw [en] at h5
                decreasing_trivial_pre_omega
                refine min_l (ns := MT.parts cs (MT.T cs s') (fun k => MT.T cs (s' + 1) f (k + 1)) f (i + 1)) (.inl (.inl h5)) (by unfold MT.parts; rw [List.length_map, List.length_range]; omega) fun m hm1 hm2 => ?_
                have em : m = MT.T cs (s' + 1) f (i + 1 + 1) := by rw [MT.T_succ cs s' f (i + 1) (by omega)]; exact MT.minL_is hm1 hm2
                subst em
                decreasing_trivial_pre_omega
                refine ix_l (.inl (.inl (s6 _ _ hD4))) (v := .ref wf) (atI_ok (by omega) (by rw [e0f, List.getElem?_map, hwf]; rfl)) ?_
                decreasing_trivial_pre_omega
                refine set_l (j := i + 1) (s6 _ _ (hw4 f wf hwf)) (by omega) (by rw [List.length_map, MT.rowAt_length]; omega) ?_
                have lw : wf ∈ ws := List.mem_of_getElem? hwf
                have hin : wf ∈ ws ++ [D, pf] := List.mem_append_left _ lw
                refine ⟨_, _, _, _, rfl, by rw [hid_upd hin]; exact sG4.trans (hid_mono s6), by rw [upd_ne (Ne.symm (wo wf lw).2)]; exact s6 _ _ hf4, by rw [hid_upd hin]; exact hI4.mono (hid_mono s6), by rw [upd_ne (Ne.symm (wo wf lw).1)]; exact s6 _ _ hD4, ?_⟩
                intro f' w hw
                by_cases ef : f' = f
                · subst ef
                  have ew : w = wf := Option.some.inj (hw.symm.trans hwf)
                  subst ew
                  rw [upd_same, if_neg (Nat.lt_irrefl _), if_pos (Nat.lt_succ_self _), ← List.map_set]
                  have es := MT.rowAt_set (cs := cs) (s := s' + 1) (f := f') (t := i + 1)
                  exact congrArg (fun l : List Int => some (HO.lst (l.map V.int))) (by exact es)
                · rw [upd_ne (nodup_ne wn hw hwf ef)]
                  have z := s6 _ _ (hw4 f' w hw)
                  by_cases l1 : f' < f
                  · rw [if_pos l1] at z
                    rw [if_pos (by omega)]
                    exact z
                  · rw [if_neg l1] at z
                    rw [if_neg (by omega)]
                    exact z
          · rintro σ G4 ⟨x7, x8, x9, x10, rfl, sG4, hf4, hI4, hD4, hw4⟩
            refine ⟨_, _, _, _, _, rfl, sG4, hf4, hI4, hD4, fun f' w hw => ?_⟩
            have z := hw4 f' w hw
            by_cases l1 : f' < ((cs.length : Int) - (2 + (i : Int)) + 1).toNat
            · rw [if_pos l1] at z
              exact z
            · rw [if_neg l1] at z
              have lw : f' < ws.length := (List.getElem?_eq_some_iff.mp hw).1
              rw [MT.rowAt_full (by omega)] at z
              rw [MT.rowAt_full (by omega)]
              exact z
        · rintro σ G3 ⟨x6, x7, x8, x9, x10, rfl, sG3, hf3, hI3, hD3, hw3⟩
          decreasing_trivial_pre_omega
          refine ⟨.inl ⟨rfl, _, .inl (.inl hf3)⟩, ?_⟩
          decreasing_trivial_pre_omega
          refine ⟨pf, _, _, rfl, rfl, hf3, szl _ (by rw [hI3.len, List.length_map, List.length_map, List.length_range]; omega), ?_⟩
          have less : Same (hid (ws ++ [D, pf]) G3) (hid [pf] G3) := hid_less (by intro x hx; simp at hx ⊢; simp [hx])
          refine ⟨_, _, _, _, _, _, _, items ++ [.ref D], rfl, by rw [hid_upd (by simp)]; exact sG3.trans less, upd_same, ?_⟩
          rw [hid_upd (by simp)]
          have e : ((List.range (s + 1)).map fun s => MT.tabRows cs s).map pdII = (((List.range s).map fun s => MT.tabRows cs s) ++ [MT.tabRows cs s]).map pdII := by
            rw [List.range_succ (n := s), List.map_append]
            rfl
          rw [e]
          have hD3' : (hid [pf] G3) D = some (.lst (ws.map V.ref)) := by
            rw [hid_at (by simp [Ne.symm Df])]
            exact hD3
          refine repl_snoc (hI3.mono less) (.lst ?_ (.inl (.inl hD3')) ?_)
          · show (((List.range cs.length).map _).map pdI).length ≤ _
            rw [List.length_map, List.length_map, List.length_range]
            omega
          · have key : ∀ (n : Nat), n ≤ cs.length → RepL K (hid [pf] G3) ((ws.take n).map V.ref) (((List.range n).map fun f => MT.tabRow cs s f).map pdI) := by
              intro n
              induction n with
              | zero => intro _; exact .nil
              | succ n ih =>
                intro hn
                obtain ⟨w, hw⟩ : ∃ w, ws[n]? = some w := ⟨_, List.getElem?_eq_getElem (by omega)⟩
                rw [MT.take_more hw, List.map_append, List.range_succ, List.map_append]
                refine repl_snoc (ih (by omega)) (rep_ints (.inl (.inl ?_)) ?_)
                · have lw : w ∈ ws := List.mem_of_getElem? hw
                  have z := hw3 n w hw
                  rw [MT.rowAt_full (by omega)] at z
                  rw [hid_at (by simp [(wo w lw).2])]
                  exact z
                · show ((List.range (cs.length - n)).map _).length ≤ _
                  rw [List.length_map, List.length_range]
                  omega
            have z := key cs.length (Nat.le_refl _)
            rw [← wl, List.take_length, wl] at z
            exact z
    · rintro σ G ⟨x4, x5, x6, x7, x8, x9, x10, items, rfl, sG, hf, hI⟩
      decreasing_trivial_pre_omega
      refine k _ _ (sG.trans hid_same) (.lst ?_ (.inl (.inl hf)) (hI.mono hid_same))
      show (((List.range c).map fun s => MT.tabRows cs s).map pdII).length ≤ _
      rw [List.length_map, List.length_map, List.length_range]
      omega
end

end K30

/-! Few rounds of one cost: the table tells what the binomials tell. -/
namespace MF
open MT
def Rt : List (List Nat) := [[0, 1, 2, 3, 4, 5, 6, 7, 8, 9, 10, 11, 12, 13, 14, 15, 16, 17, 18, 19], [0, 1, 1, 2, 2, 2, 3, 3, 3, 3, 4, 4, 4, 4, 4, 5, 5, 5, 5, 5], [0, 1, 1, 1, 2, 2, 2, 2, 2, 2, 3, 3, 3, 3, 3, 3, 3, 3, 3, 3], [0, 1, 1, 1, 1, 2, 2, 2, 2, 2, 2, 2, 2, 2, 2, 3, 3, 3, 3, 3], [0, 1, 1, 1, 1, 1, 2, 2, 2, 2, 2, 2, 2, 2, 2, 2, 2, 2, 2, 2]]
def Vt : List (List Int) := [[0, 1, 3, 6, 10, 15, 21, 28, 36, 45, 55, 66, 78, 91, 105, 120, 136, 153, 171, 190], [0, 1, 2, 4, 6, 8, 11, 14, 17, 20, 24, 28, 32, 36, 40, 45, 50, 55, 60, 65], [0, 1, 2, 3, 5, 7, 9, 11, 13, 15, 18, 21, 24, 27, 30, 33, 36, 39, 42, 45], [0, 1, 2, 3, 4, 6, 8, 10, 12, 14, 16, 18, 20, 22, 24, 27, 30, 33, 36, 39], [0, 1, 2, 3, 4, 5, 7, 9, 11, 13, 15, 17, 19, 21, 23, 25, 27, 29, 31, 33]]
def r (c n : Nat) : Nat := (Rt.getD c []).getD n 0
def v (c n : Nat) : Int := (Vt.getD c []).getD n 0
theorem least_r : ∀ c, c < 5 → ∀ n, n < 20 → n + 1 ≤ MB.C (c + 1 + r c n) (c + 1) ∧ (∀ s, s < r c n → MB.C (c + 1 + s) (c + 1) < n + 1) ∧ v c n = (r c n : Int) * ((n : Int) + 1) - (MB.C (c + 1 + r c n) (c + 1 + 1) : Nat) := by decide +kernel
theorem v_zero : ∀ n, n < 20 → v 0 n = S (List.replicate 20 1) 0 n := by decide +kernel
theorem v_one : ∀ c, c < 5 → v c 0 = 0 := by decide +kernel
theorem v_step : ∀ c, c < 4 → ∀ n, n < 20 → 0 < n → v (c + 1) n = minL ((List.range n).map fun i : Nat => (((i + 1 : Nat) : Int)) + v c (n - i - 1) + v (c + 1) i) := by decide +kernel
theorem pre_ones {N f n : Nat} (h : f + n ≤ N) : pre (List.replicate N 1) f n = (n : Int) := by
  unfold pre
  rw [List.drop_replicate, List.take_replicate, Nat.min_eq_left (by omega)]
  induction n with
  | zero => rfl
  | succ n ih =>
    rw [List.replicate_succ, List.sum_cons, ih (by omega)]
    omega
theorem T0_ones {N f : Nat} : ∀ {n : Nat}, f + n + 1 ≤ N → n < 20 → T0 (List.replicate N 1) f (n + 1) = v 0 n
  | 0, _, _ => (v_one 0 (by decide)).symm
  | n + 1, h, hn => by
    show T0 (List.replicate N 1) f (n + 1) + pre (List.replicate N 1) f (n + 1) = _
    rw [T0_ones (by omega) (by omega), pre_ones (by omega)]
    exact (v_add n (by omega)).symm
where v_add : ∀ n, n < 19 → v 0 (n + 1) = v 0 n + ((n + 1 : Nat) : Int) := by decide +kernel
theorem T_ones {N : Nat} (hN : N ≤ 20) : ∀ (s : Nat), s < 5 → ∀ (n f : Nat), f + n + 1 ≤ N → T (List.replicate N 1) s f (n + 1) = v s n
  | 0, _, n, f, h => T0_ones h (by omega)
  | s + 1, hs, n, f, h => by
    rcases Nat.eq_zero_or_pos n with rfl | np
    · rw [T_one, v_one _ hs]
    · rw [T_succ _ _ _ _ np, v_step s (by omega) n (by omega) np]
      congr 1
      unfold parts
      apply List.map_congr_left
      intro i hi
      have li : i < n := List.mem_range.mp hi
      rw [pre_ones (by omega)]
      have e1 : n - i = (n - i - 1) + 1 := by omega
      have a1 : T (List.replicate N 1) s (f + i + 1) (n - i) = v s (n - i - 1) := by
        rw [e1]
        exact T_ones hN s (by omega) (n - i - 1) (f + i + 1) (by omega)
      have a2 : T (List.replicate N 1) (s + 1) f (i + 1) = v (s + 1) i := T_ones hN (s + 1) hs i f (by omega)
      rw [a1]
      exact congrArg (fun z : Int => (((i + 1 : Nat) : Int)) + v s (n - i - 1) + z) a2
termination_by s _ n => (s, n)
/-- the least cost of few rounds of cost one -/
theorem few {c l q : Nat} (c1 : 1 ≤ c) (c2 : c ≤ 5) (l1 : 1 ≤ l) (l2 : l ≤ 20) (h : MB.Least c l q) : T (List.replicate l 1) (c - 1) 0 l = (q : Int) * (l : Int) - (MB.C (c + q) (c + 1) : Nat) := by
  obtain ⟨c, rfl⟩ : ∃ k, c = k + 1 := ⟨c - 1, by omega⟩
  obtain ⟨l, rfl⟩ : ∃ k, l = k + 1 := ⟨l - 1, by omega⟩
  obtain ⟨z1, z2, z3⟩ := least_r c (by omega) l (by omega)
  have e := h.one (s := r c l) ⟨z1, z2⟩
  subst e
  show T _ c 0 (l + 1) = _
  rw [T_ones l2 c (by omega) l 0 (by omega), z3]
  rfl
end MF

namespace K30
open PySem PySem.Spec PyProof.Rows L2 GB
local macro_rules | `(tactic| array_mem_dec) => `(tactic| first
  | assumption | exact .non | exact .bl _ | exact .int _ | exact .str _ (by assumption) | exact .str _ (by decide))
local macro_rules | `(tactic| sizeOf_list_dec) => `(tactic| (show Hold _; first
  | (with_reducible refine len_l (xs := ?_) ?_ ?_; rotate_left; focus (assumption))
  | (with_reducible refine len_t (xs := ?_) ?_ ?_; rotate_left; focus (assumption))
  | (with_reducible refine len_s ?_ ?_; focus (first | assumption | exact sz _ (by assumption)))
  | (with_reducible refine len_d (kvs := ?_) ?_ ?_; rotate_left; focus (assumption))
  | (with_reducible refine isi_int (d := ?_) ?_ ?_; rotate_left; focus (array_mem_dec))
  | (with_reducible refine isi_bool (d := ?_) ?_ ?_; rotate_left; focus (array_mem_dec))
  | (with_reducible refine isi_str (d := ?_) ?_ ?_; rotate_left; focus (array_mem_dec))
  | (with_reducible refine isi_lst (d := ?_) ?_ ?_; rotate_left; focus (array_mem_dec))
  | (with_reducible refine isi_tup (d := ?_) ?_ ?_; rotate_left; focus (array_mem_dec))
  | (with_reducible refine isi_dct (d := ?_) ?_ ?_; rotate_left; focus (array_mem_dec))))
local macro_rules | `(tactic| array_get_dec) => `(tactic| first
  | (refine ⟨_, rfl, ?_⟩)
  | (refine ⟨rfl, ?_⟩)
  | (refine ⟨_, _, rfl, rfl, ?_⟩)
  | sizeOf_list_dec
  | (refine Or.inl ⟨_, rfl, ?_⟩)
  | (refine ⟨?_, ?_⟩; focus ((with_reducible refine sz _ ?_); first | assumption | exact Nat.le_of_ble_eq_true rfl))
  | (refine ⟨?_, ?_⟩; focus ((with_reducible show (_ : Int) ≠ 0); first | decide | omega))
  | (refine ⟨Or.inl ⟨?_, ?_⟩, ?_⟩; (focus decide); (focus decide)))
local macro_rules | `(tactic| decreasing_trivial_pre_omega) => `(tactic| repeat array_get_dec)

/-! ### few rounds -/
theorem rep_ones (n : Nat) : (List.replicate n [V.int 1]).flatten = (List.replicate n (1 : Int)).map V.int := by
  induction n with
  | zero => rfl
  | succ n ih =>
    rw [List.replicate_succ, List.flatten_cons, ih, List.replicate_succ, List.map_cons]
    rfl
theorem chain_ones {l : Nat} (l1 : 1 ≤ l) (l2 : l ≤ 20) : Chain (List.replicate l 1) :=
  ⟨by rw [List.length_replicate]; exact l1, by rw [List.length_replicate]; omega, fun x hx => by rw [List.eq_of_mem_replicate hx]; exact ⟨by decide, by decide⟩⟩
theorem rep_t1 {K : PySem.W.Frag} {H : Hp} {p : Addr} {v1 : V} {d1 : PD} (h : H p = some (.tup [v1])) (r1 : Rep K H v1 d1) : Rep K H (.ref p) (.tup [d1]) :=
  .tup (Nat.le_of_ble_eq_true rfl) (.inl (.inl h)) (.cons r1 .nil)
section
variable {P : Program} {w : World} {K : PySem.W.Frag} {mg : Str → Option Value} {base : Heap}
theorem ok_few {CC CS : Addr} (F : At K mg "_law_few_right" s__law_few_right) (B : Bi mg) (d__law_take : Dn P w K mg base 1 "_law_take" s__law_take ["box", "many"] spTake)
    (d__law_table : Dn P w K mg base 1 "_law_table" s__law_table ["costs", "c"] (spLTab K)) (d__law_alike : Dn P w K mg base 2 "_law_alike" s__law_alike ["many", "c"] spAl)
    (d__law_met : Dn P w K mg base 5 "_law_met" s__law_met ["kind", "args", "by_name"] (spMet K)) (d_least_cost : Dn P w K mg base 5 "least_cost" s_least_cost ["costs", "c"] (spLeast K CC CS))
    (d__law_same : Dn P w K mg base 8 "_law_same" s__law_same ["told", "due"] (spSame K 8)) :
    Dn P w K mg base 10 "_law_few_right" s__law_few_right ["box", "by_name"] spNR := by
  obtain ⟨f, fd, F, gm⟩ := F
  refine ⟨f, fd, F.okX sc__law_few_right (fun vs H Q E h => ?_) (fun cdv A outer s H vs Q E hr h => ?_), gm, F⟩
  · obtain ⟨p, b, c, H0, rfl, _⟩ := h
    rfl
  · obtain ⟨p, b, c, H0, rfl, hB, c0, c1, k⟩ := h
    refine ⟨_, PSs.nox ((pss_cons (ps_par (i := 2) (j := 3) (by rfl) sc__law_few_right.nd rfl rfl (by decide) rfl rfl (pa_cons (pe_op op_add pe_int (pe_cl d__law_take bd__law_take (hr.mono (by omega)) passL (pa_cons (pv 0) (pa_cons pe_int pa_nil)))) (pa_cons (pe_op op_add pe_int (pe_cl d__law_take bd__law_take (hr.mono (by omega)) passL (pa_cons (pv 0) (pa_cons pe_int pa_nil)))) pa_nil)) (by rfl))
      (pss_cons (ps_set (i := 4) sc__law_few_right.nd rfl (Or.inl rfl) (pe_ix (ixL K) (pe_ix (ixL K) (pe_ix (ixL K) (pe_cl d__law_table bd__law_table (hr.mono (by omega)) passL (pa_cons (pe_op op_rep (pe_lst (pa_cons pe_int pa_nil)) (pv 3)) (pa_cons (pv 2) pa_nil))) (pe_un un_neg pe_int) (fun _ _ => rfl)) pe_int (fun _ _ => rfl)) (pe_un un_neg pe_int) (fun _ _ => rfl)))
      (pss_cons (ps_if (pt_cmpR op_ne (pe_ix (ixT K) (pe_cl d__law_alike bd__law_alike (hr.mono (by omega)) passL (pa_cons (pv 3) (pa_cons (pv 2) pa_nil))) pe_int (fun _ _ => rfl)) (pv 4) (nomark _))
      (pss_one (ps_ret pe_bl))
      pss_nil)
      (pss_one (ps_ret (pe_cl d__law_same bd__law_same (hr.mono (by omega)) passL (pa_cons (pe_lst (pa_cons (pe_slice (slT K) (pe_ix (ixL K) (pe_cl d__law_met bd__law_met (hr.mono (by omega)) passL (pa_cons pe_int (pa_cons (pe_lst (pa_cons (pv 3) (pa_cons (pv 2) pa_nil))) (pa_cons (pv 1) pa_nil)))) pe_int (fun _ _ => rfl)) (po_some pe_int) po_none) (pa_cons (pe_cl d_least_cost bd_least_cost (hr.mono (by omega)) passL (pa_cons (pe_op op_rep (pe_lst (pa_cons pe_int pa_nil)) (pv 3)) (pa_cons (pv 2) pa_nil))) pa_nil))) (pa_cons (pe_lst (pa_cons (pe_tup (pa_cons (pv 4) pa_nil)) (pa_cons (pv 4) pa_nil))) pa_nil))))))))), ?_⟩
    decreasing_trivial_pre_omega
    refine take_rd hB (by omega) (by omega) (by decide) (by decide) fun r1 H1 r1a r1b hB1 bt1 => ?_
    decreasing_trivial_pre_omega
    refine take_rd hB1 (by omega) (by omega) (by decide) (by decide) fun r2 H2 r2a r2b hB2 bt2 => ?_
    have hcc : ∃ cc : Nat, 1 + r1 = (cc : Int) := ⟨(1 + r1).toNat, by omega⟩
    have hll : ∃ ll : Nat, 1 + r2 = (ll : Int) := ⟨(1 + r2).toNat, by omega⟩
    obtain ⟨cc, hcc⟩ := hcc
    obtain ⟨ll, hll⟩ := hll
    decreasing_trivial_pre_omega
    refine ⟨.int cc, .int ll, by rw [← hcc, ← hll], ?_⟩
    decreasing_trivial_pre_omega
    refine fun x nx => ?_
    decreasing_trivial_pre_omega
    have hC : Chain (List.replicate ll 1) := chain_ones (by omega) (by omega)
    have hN : (List.replicate ll (1 : Int)).length = ll := List.length_replicate
    refine ⟨x, ll, [.int 1], rfl, rfl, upd_same, by omega, by omega, sz _ (by show 1 * _ ≤ _; omega), fun y ny => ?_⟩
    rw [rep_ones]
    have sx := same_new (o := .lst [.int 1]) nx
    have sy := same_new (o := .lst ((List.replicate ll (1 : Int)).map V.int)) ny
    decreasing_trivial_pre_omega
    refine .mk ⟨y, List.replicate ll 1, cc, rfl, .inl (.inl upd_same), hC, by omega, by omega, fun v H3 s3 rv => ?_⟩
    obtain ⟨at_, xt, rfl, ht, hr3, _⟩ := Rep.inv_lst rv
    have lt : xt.length = (cc - 1) + 1 := by
      rw [hr3.len, List.length_map]
      show ((List.range cc).map _).length = _
      rw [List.length_map, List.length_range]
      omega
    obtain ⟨v3, e3, r3⟩ := repl_get (r := MT.tab (List.replicate ll 1) cc) (f := pdII) hr3 (i := cc - 1) (x := MT.tabRows (List.replicate ll 1) (cc - 1)) (by show ((List.range cc).map _)[cc - 1]? = _; rw [List.getElem?_map, List.getElem?_range (by omega)]; rfl)
    decreasing_trivial_pre_omega
    refine ix_l ht (v := v3) (last_of lt e3) ?_
    obtain ⟨a4, x4, rfl, h4, hr4, l4, _⟩ := rep_rows_inv r3
    decreasing_trivial_pre_omega
    obtain ⟨v5, e5, r5⟩ := repl_get (r := MT.tabRows (List.replicate ll 1) (cc - 1)) (f := pdI) hr4 (i := 0) (x := MT.tabRow (List.replicate ll 1) (cc - 1) 0) (by show ((List.range (List.replicate ll (1 : Int)).length).map _)[0]? = _; rw [List.getElem?_map, List.getElem?_range (by omega)]; rfl)
    refine ix_l h4 (v := v5) (atI_ok (by decide) e5) ?_
    obtain ⟨a6, rfl, h6, _⟩ := rep_ints_inv r5
    decreasing_trivial_pre_omega
    have l6 : ((MT.tabRow (List.replicate ll 1) (cc - 1) 0).map V.int).length = (ll - 1) + 1 := by
      rw [List.length_map]
      show ((List.range ((List.replicate ll (1 : Int)).length - 0)).map _).length = _
      rw [List.length_map, List.length_range]
      omega
    refine ix_l h6 (v := .int (MT.T (List.replicate ll 1) (cc - 1) 0 ll)) (last_of l6 ?_) ?_
    · rw [List.getElem?_map]
      show (((List.range ((List.replicate ll (1 : Int)).length - 0)).map _)[ll - 1]?).map _ = _
      rw [List.getElem?_map, List.getElem?_range (by omega)]
      have e : ll - 1 + 1 = ll := by omega
      show some (V.int (MT.T (List.replicate ll 1) (cc - 1) 0 (ll - 1 + 1))) = _
      rw [e]
    generalize eT : MT.T (List.replicate ll 1) (cc - 1) 0 ll = due
    decreasing_trivial_pre_omega
    refine ⟨ll, cc, rfl, by omega, by omega, by omega, by omega, fun q hq hq2 t nt => ?_⟩
    have ed : due = (q : Int) * (ll : Int) - (MB.C (cc + q) (cc + 1) : Nat) := by rw [← eT]; exact MF.few (by omega) (by omega) (by omega) (by omega) hq
    decreasing_trivial_pre_omega
    refine ix_t (.inl (.inl upd_same)) (v := .int ((q : Int) * (ll : Int) - (MB.C (cc + q) (cc + 1) : Nat))) (atI_ok (by decide) rfl) ?_
    rw [← ed]
    decreasing_trivial_pre_omega
    refine if_f (by rw [decide_eq_true rfl]; rfl) ?_
    decreasing_trivial_pre_omega
    refine fun a1 n1 => ?_
    decreasing_trivial_pre_omega
    have nb : btw 1 40 (.int (cc : Int)) = true := by
      show (decide ((1 : Int) ≤ cc) && decide ((cc : Int) ≤ 40)) = true
      rw [decide_eq_true (by omega), decide_eq_true (by omega)] <;> rfl
    have nl : btw 1 (10 ^ 18) (.int (ll : Int)) = true := by
      show (decide ((1 : Int) ≤ ll) && decide ((ll : Int) ≤ 10 ^ 18)) = true
      rw [decide_eq_true (by omega), decide_eq_true (by omega)] <;> rfl
    refine ⟨0, a1, .int ll, .int cc, .int ll, .int cc, b, rfl, .inl (.inl upd_same), .int _, .int _, fun _ => ⟨fun z => (by rw [nl] at z; cases z), fun _ z => (by rw [nb] at z; cases z), fun l' c' r' e1 e2 _ _ _ _ hr' _ t' p3 H4 s4 _ ht' hp3 => ?_⟩, fun z => absurd rfl z⟩
    cases e1
    cases e2
    have er := hq.one hr'
    subst er
    have at' : altup cc ll q = [.int q, .int due] := by rw [ed]; rfl
    rw [at'] at ht'
    decreasing_trivial_pre_omega
    refine ix_l (.inl (.inl hp3)) (v := .ref t') (atI_ok (by decide) rfl) ?_
    decreasing_trivial_pre_omega
    refine .mk ⟨t', _, rfl, .inl (.inl ht'), fun z => absurd (show (1 : Nat) = 0 from z.1) (by decide), fun p4 n4 => ?_⟩
    have ec : cutV [V.int (q : Int), V.int due] (some 1) none = [V.int due] := rfl
    rw [ec]
    decreasing_trivial_pre_omega
    refine fun x2 nx2 => ?_
    decreasing_trivial_pre_omega
    refine ⟨x2, ll, [.int 1], rfl, rfl, upd_same, by omega, by omega, sz _ (by show 1 * _ ≤ _; omega), fun y2 ny2 => ?_⟩
    rw [rep_ones]
    decreasing_trivial_pre_omega
    refine .mk ⟨.ref y2, .int cc, pdI (List.replicate ll 1), .int cc, rfl, rep_ints (.inl (.inl upd_same)) (by rw [hN]; omega), .int _, fun z => (by rw [chainD_ints hC] at z; cases z), fun _ z => (by rw [nb] at z; cases z), fun _ _ => ⟨List.replicate ll 1, cc, rfl, rfl, hC, by omega, by omega, fun H5 s5 => ?_⟩⟩
    rw [hN, eT]
    decreasing_trivial_pre_omega
    refine fun p6 n6 => ?_
    decreasing_trivial_pre_omega
    refine fun p7 n7 => ?_
    decreasing_trivial_pre_omega
    refine fun p8 n8 => ?_
    decreasing_trivial_pre_omega
    have g4 := same_new (o := .tup [.int due]) n4
    have g5 := (same_new (o := .lst [.int 1]) nx2).trans ((same_new ny2).trans s5)
    have g6 := same_new (o := .lst [.ref p4, .int due]) n6
    have g7 := same_new (o := .tup [.int due]) n7
    have g8 := same_new (o := .lst [.ref p7, .int due]) n8
    refine ⟨.ref p6, .ref p8, .lst [.tup [.int due], .int due], rfl, rep_l2 ((g7.trans g8) _ _ upd_same) (rep_t1 ((g5.trans (g6.trans (g7.trans g8))) _ _ upd_same) (.int _)) (.int _),
      rep_l2 upd_same (rep_t1 (g8 _ _ upd_same) (.int _)) (.int _), Nat.le_of_ble_eq_true rfl, fun H6 s6 => ?_⟩
    have t6 := sx.trans (sy.trans (s3.trans ((same_new nt).trans ((same_new n1).trans (s4.trans (g4.trans (g5.trans (g6.trans (g7.trans (g8.trans s6))))))))))
    exact k _ ((hB2.same t6).mono (by omega)) (bt1.trans (bt2.trans (.of t6)))
end

end K30

namespace K30
open PySem PySem.Spec PyProof.Rows L2 GB
local macro_rules | `(tactic| array_mem_dec) => `(tactic| first
  | assumption | exact .non | exact .bl _ | exact .int _ | exact .str _ (by assumption) | exact .str _ (by decide))
local macro_rules | `(tactic| sizeOf_list_dec) => `(tactic| (show Hold _; first
  | (with_reducible refine len_l (xs := ?_) ?_ ?_; rotate_left; focus (assumption))
  | (with_reducible refine len_t (xs := ?_) ?_ ?_; rotate_left; focus (assumption))
  | (with_reducible refine len_s ?_ ?_; focus (first | assumption | exact sz _ (by assumption)))
  | (with_reducible refine len_d (kvs := ?_) ?_ ?_; rotate_left; focus (assumption))
  | (with_reducible refine isi_int (d := ?_) ?_ ?_; rotate_left; focus (array_mem_dec))
  | (with_reducible refine isi_bool (d := ?_) ?_ ?_; rotate_left; focus (array_mem_dec))
  | (with_reducible refine isi_str (d := ?_) ?_ ?_; rotate_left; focus (array_mem_dec))
  | (with_reducible refine isi_lst (d := ?_) ?_ ?_; rotate_left; focus (array_mem_dec))
  | (with_reducible refine isi_tup (d := ?_) ?_ ?_; rotate_left; focus (array_mem_dec))
  | (with_reducible refine isi_dct (d := ?_) ?_ ?_; rotate_left; focus (array_mem_dec))))
local macro_rules | `(tactic| array_get_dec) => `(tactic| first
  | (refine ⟨_, rfl, ?_⟩)
  | (refine ⟨rfl, ?_⟩)
  | (refine ⟨_, _, rfl, rfl, ?_⟩)
  | sizeOf_list_dec
  | (refine Or.inl ⟨_, rfl, ?_⟩)
  | (refine ⟨?_, ?_⟩; focus ((with_reducible refine sz _ ?_); first | assumption | exact Nat.le_of_ble_eq_true rfl))
  | (refine ⟨?_, ?_⟩; focus ((with_reducible show (_ : Int) ≠ 0); first | decide | omega))
  | (refine ⟨Or.inl ⟨?_, ?_⟩, ?_⟩; (focus decide); (focus decide)))
local macro_rules | `(tactic| decreasing_trivial_pre_omega) => `(tactic| repeat array_get_dec)

/-! ### the law -/
def spLaw (K : PySem.W.Frag) : Sp := fun vs H Q _ => ∃ (a : Addr) (ns : List Int), vs = [.ref a] ∧ SqL K H a (ns.map V.int) ∧ ns.length ≤ 63 ∧ ∀ H', Q (.bl true) H'
section
variable {P : Program} {w : World} {K : PySem.W.Frag} {mg : Str → Option Value} {base : Heap}
theorem ok_law {f : Addr} {fd : FuncData} (F : Fun K "law" "law" s_law f fd) (B : Bi mg) (d__law_take : Dn P w K mg base 1 "_law_take" s__law_take ["box", "many"] spTake)
    (d__law_box : Dn P w K mg base 1 "_law_box" s__law_box ["great"] spBox) (d__law_cell : Dn P w K mg base 1 "_law_cell" s__law_cell ["script", "k"] (spCell K))
    (d__law_numbers_right : Dn P w K mg base 10 "_law_numbers_right" s__law_numbers_right ["box", "by_name"] spNR) (d__law_few_right : Dn P w K mg base 10 "_law_few_right" s__law_few_right ["box", "by_name"] spNR)
    (d__law_refused_right : Dn P w K mg base 10 "_law_refused_right" s__law_refused_right ["box", "by_name"] spNR) :
    FnOk P w K mg base CX0 11 f fd ["script"] (spLaw K) := by
  refine F.ok sc_law (fun vs H Q E h => ?_) (fun cdv A outer s H vs Q E hr h => ?_)
  · obtain ⟨a, ns, rfl, _⟩ := h
    rfl
  · obtain ⟨a, ns, rfl, hS, hl, k⟩ := h
    refine ⟨_, PSs.nox ((pss_cons (ps_for PassesOwn.never rfl (pi_range1 (by rfl) B.range (pa_cons (pe_callB (call_max2 rfl) (by rfl) B.max (by decide +kernel) (pa_cons pe_int (pa_cons (pe_callB (call_min2 rfl) (by rfl) B.min (by decide +kernel) (pa_cons pe_int (pa_cons (pe_callB (clLen K) (by rfl) B.len (by decide +kernel) (pa_cons (pv 0) pa_nil)) pa_nil))) pa_nil))) pa_nil)) (pg_name (i := 1) sc_law.nd rfl (Or.inl rfl))
      (pss_cons (ps_set (i := 2) sc_law.nd rfl (Or.inl rfl) (pe_cl d__law_box bd__law_box (hr.mono (by omega)) passL (pa_cons (pe_cl d__law_cell bd__law_cell (hr.mono (by omega)) passL (pa_cons (pv 0) (pa_cons (pv 1) pa_nil))) pa_nil)))
      (pss_cons (ps_set (i := 3) sc_law.nd rfl (Or.inl rfl) (pe_cmpR op_eq (pe_cl d__law_take bd__law_take (hr.mono (by omega)) passL (pa_cons (pv 2) (pa_cons pe_int pa_nil))) pe_int (nomark _)))
      (pss_one (ps_for PassesOwn.never rfl (pi_range1 (by rfl) B.range (pa_cons pe_int pa_nil)) (pg_name (i := 4) sc_law.nd rfl (Or.inl rfl))
      (pss_cons (ps_if (PW.pt (pw_or (pt_not (pt_val (pe_cl d__law_numbers_right bd__law_numbers_right (hr.mono (by omega)) passL (pa_cons (pv 2) (pa_cons (pv 3) pa_nil))))) (pw_or (pt_not (pt_val (pe_cl d__law_few_right bd__law_few_right (hr.mono (by omega)) passL (pa_cons (pv 2) (pa_cons (pe_not (pv 3)) pa_nil))))) (pw_or1 (pt_not (pt_val (pe_cl d__law_refused_right bd__law_refused_right (hr.mono (by omega)) passL (pa_cons (pv 2) (pa_cons (pv 3) pa_nil)))))))))
      (pss_one (ps_ret pe_bl))
      pss_nil)
      (pss_one (ps_set (i := 3) sc_law.nd rfl (Or.inl rfl) (pe_not (pv 3))))))))))
      (pss_one (ps_ret pe_bl)))), ?_⟩
    decreasing_trivial_pre_omega
    refine ⟨_, _, rfl, ?_⟩
    decreasing_trivial_pre_omega
    refine ⟨_, _, rfl, ?_⟩
    decreasing_trivial_pre_omega
    have hM : ∀ m : Int, m ≤ 3 → (if m > 2 then m else 2) ≤ 3 ∧ 0 ≤ (if m > 2 then m else 2) := fun m h => by split <;> omega
    have hm : ∀ l : Int, (if l < 3 then l else 3) ≤ 3 := fun l => by split <;> omega
    obtain ⟨M1, M0⟩ := hM _ (hm ((ns.map V.int).length : Int))
    generalize (if (if ((ns.map V.int).length : Int) < 3 then ((ns.map V.int).length : Int) else 3) > 2 then (if ((ns.map V.int).length : Int) < 3 then ((ns.map V.int).length : Int) else 3) else 2) = M at M1 M0 ⊢
    refine ⟨by omega, by omega, for_range (lo := 0) (n := M.toNat) (fun i σ H' => ∃ x1 x2 x3 x4 : Option V, σ = [some (.ref a), x1, x2, x3, x4] ∧ Same H H') ⟨none, none, none, none, rfl, Same.refl H⟩ ?_ ?_⟩
    · rintro i σ Hi hi ⟨x1, x2, x3, x4, rfl, sH⟩
      decreasing_trivial_pre_omega
      refine ⟨a, ns, _, rfl, Same.sql sH hS, by omega, by omega, by omega, fun n H1 s1 => ?_⟩
      decreasing_trivial_pre_omega
      refine fun p o hp ho => ?_
      have hB : Box p 0 H1 (upd H1 p (.lst o)) := ⟨⟨o, upd_same, ho⟩, .box⟩
      decreasing_trivial_pre_omega
      refine take_rd hB (by omega) (by omega) (by decide) (by decide) fun r H2 ra rb hB2 bt2 => ?_
      decreasing_trivial_pre_omega
      refine ⟨by omega, by omega, for_range (lo := 0) (n := 2) (fun j σ H' => ∃ (b : Bool) (x4 : Option V), σ = [some (.ref a), some (.int (0 + (i : Int))), some (.ref p), some (.bl b), x4] ∧ Box p (1 + 60 * j) H1 H') ⟨_, x4, rfl, hB2.mono (by omega)⟩ ?_ ?_⟩
      · rintro j σ Hj hj ⟨b, x4', rfl, hBj⟩
        decreasing_trivial_pre_omega
        refine ⟨p, b, _, H1, rfl, hBj, by omega, by omega, fun H3 hB3 _ => ?_⟩
        decreasing_trivial_pre_omega
        refine ⟨p, !b, _, H1, rfl, hB3, by omega, by omega, fun H4 hB4 _ => ?_⟩
        decreasing_trivial_pre_omega
        refine ⟨p, b, _, H1, rfl, hB4, by omega, by omega, fun H5 hB5 _ => ?_⟩
        decreasing_trivial_pre_omega
        exact ⟨!b, _, rfl, hB5.mono (by omega)⟩
      · rintro σ Hj ⟨b, x4', rfl, hBj⟩
        exact ⟨_, _, _, _, rfl, sH.trans (s1.trans fun q u e => hBj.but q u (ne_of_none e hp) e)⟩
    · rintro σ H' ⟨x1, x2, x3, x4, rfl, _⟩
      decreasing_trivial_pre_omega
      exact k _
end

end K30

namespace K30
open PySem PySem.Spec PyProof.Rows L2 GB
local macro_rules | `(tactic| array_mem_dec) => `(tactic| first
  | assumption | exact .non | exact .bl _ | exact .int _ | exact .str _ (by assumption) | exact .str _ (by decide))
local macro_rules | `(tactic| sizeOf_list_dec) => `(tactic| (show Hold _; first
  | (with_reducible refine len_l (xs := ?_) ?_ ?_; rotate_left; focus (assumption))
  | (with_reducible refine len_t (xs := ?_) ?_ ?_; rotate_left; focus (assumption))
  | (with_reducible refine len_s ?_ ?_; focus (first | assumption | exact sz _ (by assumption)))
  | (with_reducible refine len_d (kvs := ?_) ?_ ?_; rotate_left; focus (assumption))
  | (with_reducible refine isi_int (d := ?_) ?_ ?_; rotate_left; focus (array_mem_dec))
  | (with_reducible refine isi_bool (d := ?_) ?_ ?_; rotate_left; focus (array_mem_dec))
  | (with_reducible refine isi_str (d := ?_) ?_ ?_; rotate_left; focus (array_mem_dec))
  | (with_reducible refine isi_lst (d := ?_) ?_ ?_; rotate_left; focus (array_mem_dec))
  | (with_reducible refine isi_tup (d := ?_) ?_ ?_; rotate_left; focus (array_mem_dec))
  | (with_reducible refine isi_dct (d := ?_) ?_ ?_; rotate_left; focus (array_mem_dec))))
local macro_rules | `(tactic| array_get_dec) => `(tactic| first
  | (refine ⟨_, rfl, ?_⟩)
  | (refine ⟨rfl, ?_⟩)
  | (refine ⟨_, _, rfl, rfl, ?_⟩)
  | sizeOf_list_dec
  | (refine Or.inl ⟨_, rfl, ?_⟩)
  | (refine ⟨?_, ?_⟩; focus ((with_reducible refine sz _ ?_); first | assumption | exact Nat.le_of_ble_eq_true rfl))
  | (refine ⟨?_, ?_⟩; focus ((with_reducible show (_ : Int) ≠ 0); first | decide | omega))
  | (refine ⟨Or.inl ⟨?_, ?_⟩, ?_⟩; (focus decide); (focus decide)))
local macro_rules | `(tactic| decreasing_trivial_pre_omega) => `(tactic| repeat array_get_dec)

/-! ### an error's own __init__ -/
section
variable {P : Program} {w : World} {K : PySem.W.Frag} {mg : Str → Option Value} {base : Heap}
theorem ok_ini_InvalidCosts {C fI : Addr} {fd : FuncData} (F : Fun K "__init__" "InvalidCosts.__init__" s_InvalidCosts_init fI fd) (O : OexC K C) (no : PySem.W.findIn K (.ref C) "given" = some none) : FnOk P w K mg base (L2.CX P w) 1 fI fd ["self", "given"] (spInit C ["given"]) := by
  refine F.okX sc_InvalidCosts_init (fun vs H Q E h => ?_) (fun cdv A outer s H vs Q E hr h => ?_)
  · obtain ⟨a, ws, rfl, hl, _⟩ := h
    match ws, hl with
    | [_], _ => rfl
  · obtain ⟨a, ws, rfl, hl, ha, k⟩ := h
    match ws, hl, k with
    | [v], _, k =>
      refine ⟨_, PSs.nox (pss_one (ps_ost (pv 0) (pv 1))), ?_⟩
      refine ⟨_, rfl, _, rfl, a, C, rfl, O, no, .inl ⟨ha, fun d nd nda => ?_⟩⟩
      refine k _ d (fun b h1 h2 => ?_) nd nda upd_same ?_
      · rw [upd_ne h1, upd_ne h2]
      · rw [upd_ne nda, upd_same]
        rfl
theorem bd_ini_InvalidCosts {fI : Addr} {fd : FuncData} (F : Fun K "__init__" "InvalidCosts.__init__" s_InvalidCosts_init fI fd) : Binds K fd ["self", "given"] [] :=
  F.binds (ps := ["self", "given"]) fun _ _ _ _ _ _ us hl => match us, hl with | [_, _], _ => rfl
theorem er_InvalidCosts {C fI : Addr} {fd : FuncData} (F : Fun K "__init__" "InvalidCosts.__init__" s_InvalidCosts_init fI fd) (O : OexC K C) (no : PySem.W.findIn K (.ref C) "given" = some none) (ini : PySem.W.findIn K (.ref C) "__init__" = some (some (.ref fI)))
    (ty : PySem.W.typeIn K (.ref fI) = some (.type "function")) (gm : mg "InvalidCosts" = some (.ref C)) (xf : XfC K C) : Er P w K mg base "InvalidCosts" C ["given"] :=
  ⟨O, ⟨fI, fd, ini, ty, ok_ini_InvalidCosts F O no, bd_ini_InvalidCosts F⟩, gm, xf, fun f hf => by rw [List.mem_singleton.mp hf]; exact no, by decide⟩
end
/-! ### an error's own __init__ -/
section
variable {P : Program} {w : World} {K : PySem.W.Frag} {mg : Str → Option Value} {base : Heap}
theorem ok_ini_InvalidNumber {C fI : Addr} {fd : FuncData} (F : Fun K "__init__" "InvalidNumber.__init__" s_InvalidNumber_init fI fd) (O : OexC K C) (no : PySem.W.findIn K (.ref C) "given" = some none) : FnOk P w K mg base (L2.CX P w) 1 fI fd ["self", "given"] (spInit C ["given"]) := by
  refine F.okX sc_InvalidNumber_init (fun vs H Q E h => ?_) (fun cdv A outer s H vs Q E hr h => ?_)
  · obtain ⟨a, ws, rfl, hl, _⟩ := h
    match ws, hl with
    | [_], _ => rfl
  · obtain ⟨a, ws, rfl, hl, ha, k⟩ := h
    match ws, hl, k with
    | [v], _, k =>
      refine ⟨_, PSs.nox (pss_one (ps_ost (pv 0) (pv 1))), ?_⟩
      refine ⟨_, rfl, _, rfl, a, C, rfl, O, no, .inl ⟨ha, fun d nd nda => ?_⟩⟩
      refine k _ d (fun b h1 h2 => ?_) nd nda upd_same ?_
      · rw [upd_ne h1, upd_ne h2]
      · rw [upd_ne nda, upd_same]
        rfl
theorem bd_ini_InvalidNumber {fI : Addr} {fd : FuncData} (F : Fun K "__init__" "InvalidNumber.__init__" s_InvalidNumber_init fI fd) : Binds K fd ["self", "given"] [] :=
  F.binds (ps := ["self", "given"]) fun _ _ _ _ _ _ us hl => match us, hl with | [_, _], _ => rfl
theorem er_InvalidNumber {C fI : Addr} {fd : FuncData} (F : Fun K "__init__" "InvalidNumber.__init__" s_InvalidNumber_init fI fd) (O : OexC K C) (no : PySem.W.findIn K (.ref C) "given" = some none) (ini : PySem.W.findIn K (.ref C) "__init__" = some (some (.ref fI)))
    (ty : PySem.W.typeIn K (.ref fI) = some (.type "function")) (gm : mg "InvalidNumber" = some (.ref C)) (xf : XfC K C) : Er P w K mg base "InvalidNumber" C ["given"] :=
  ⟨O, ⟨fI, fd, ini, ty, ok_ini_InvalidNumber F O no, bd_ini_InvalidNumber F⟩, gm, xf, fun f hf => by rw [List.mem_singleton.mp hf]; exact no, by decide⟩
end
/-! ### an error's own __init__ -/
section
variable {P : Program} {w : World} {K : PySem.W.Frag} {mg : Str → Option Value} {base : Heap}
theorem ok_ini_InvalidSlots {C fI : Addr} {fd : FuncData} (F : Fun K "__init__" "InvalidSlots.__init__" s_InvalidSlots_init fI fd) (O : OexC K C) (no : PySem.W.findIn K (.ref C) "given" = some none) : FnOk P w K mg base (L2.CX P w) 1 fI fd ["self", "given"] (spInit C ["given"]) := by
  refine F.okX sc_InvalidSlots_init (fun vs H Q E h => ?_) (fun cdv A outer s H vs Q E hr h => ?_)
  · obtain ⟨a, ws, rfl, hl, _⟩ := h
    match ws, hl with
    | [_], _ => rfl
  · obtain ⟨a, ws, rfl, hl, ha, k⟩ := h
    match ws, hl, k with
    | [v], _, k =>
      refine ⟨_, PSs.nox (pss_one (ps_ost (pv 0) (pv 1))), ?_⟩
      refine ⟨_, rfl, _, rfl, a, C, rfl, O, no, .inl ⟨ha, fun d nd nda => ?_⟩⟩
      refine k _ d (fun b h1 h2 => ?_) nd nda upd_same ?_
      · rw [upd_ne h1, upd_ne h2]
      · rw [upd_ne nda, upd_same]
        rfl
theorem bd_ini_InvalidSlots {fI : Addr} {fd : FuncData} (F : Fun K "__init__" "InvalidSlots.__init__" s_InvalidSlots_init fI fd) : Binds K fd ["self", "given"] [] :=
  F.binds (ps := ["self", "given"]) fun _ _ _ _ _ _ us hl => match us, hl with | [_, _], _ => rfl
theorem er_InvalidSlots {C fI : Addr} {fd : FuncData} (F : Fun K "__init__" "InvalidSlots.__init__" s_InvalidSlots_init fI fd) (O : OexC K C) (no : PySem.W.findIn K (.ref C) "given" = some none) (ini : PySem.W.findIn K (.ref C) "__init__" = some (some (.ref fI)))
    (ty : PySem.W.typeIn K (.ref fI) = some (.type "function")) (gm : mg "InvalidSlots" = some (.ref C)) (xf : XfC K C) : Er P w K mg base "InvalidSlots" C ["given"] :=
  ⟨O, ⟨fI, fd, ini, ty, ok_ini_InvalidSlots F O no, bd_ini_InvalidSlots F⟩, gm, xf, fun f hf => by rw [List.mem_singleton.mp hf]; exact no, by decide⟩
end
end K30

namespace K30
open PySem PySem.Spec PyProof.Rows L2 GB
section
variable {P : Program} {w : World} {K : PySem.W.Frag} {mg : Str → Option Value} {base : Heap}
theorem same0 (F : At K mg "_law_same" s__law_same) : Dn P w K mg base 0 "_law_same" s__law_same ["told", "due"] (spSame K 0) := by
  obtain ⟨f, fd, F, gm⟩ := F
  exact ⟨f, fd, ⟨fun vs H Q E h => by obtain ⟨a, b, d, _, _, _, dn, _⟩ := h; exact absurd dn (Nat.not_lt_zero _), fun A outer s H args us vs Q E _ _ _ _ h => by obtain ⟨a, b, d, _, _, _, dn, _⟩ := h; exact absurd dn (Nat.not_lt_zero _)⟩, gm, F⟩
theorem same8 (F : At K mg "_law_same" s__law_same) (B : Bi mg) : Dn P w K mg base 8 "_law_same" s__law_same ["told", "due"] (spSame K 8) :=
  same_step F B (same_step F B (same_step F B (same_step F B (same_step F B (same_step F B (same_step F B (same_step F B (same0 F))))))))
end

/-! ### what the top has written; the end -/
theorem all_mk {l : PySem.W.OpenLaw} {w : World} {K : PySem.W.Frag} {h : Heap} {mg : Str → Option Value} {fa : Addr} (X : K.In h) (G : h.Ns mainGlobals mg) (hfa : mg "law" = some (.ref fa))
    {C0 I0 N0 : Addr} {nm0 q0 : Str} {bs0 bm0 sub0 : List Value} {sn0 : List Str} {ab0 : Bool} {col0 : Option Bool} {dd0 odi0 ani0 : Option Addr} {w00 w10 w20 w30 w50 : Option Value} {sli0 : Array (Option Value)} {oci0 kVi0 dci0 pmi0 cdi0 cti0 : Value}
    {C1 I1 N1 : Addr} {nm1 q1 : Str} {bs1 bm1 sub1 : List Value} {sn1 : List Str} {ab1 : Bool} {col1 : Option Bool} {dd1 odi1 ani1 : Option Addr} {w01 w11 w21 w31 w51 : Option Value} {sli1 : Array (Option Value)} {oci1 kVi1 dci1 pmi1 cdi1 cti1 : Value}
    {C2 I2 N2 : Addr} {nm2 q2 : Str} {bs2 bm2 sub2 : List Value} {sn2 : List Str} {ab2 : Bool} {col2 : Option Bool} {dd2 odi2 ani2 : Option Addr} {w02 w12 w22 w32 w52 : Option Value} {sli2 : Array (Option Value)} {oci2 kVi2 dci2 pmi2 cdi2 cti2 : Value}
    {f0 : Addr} {od0 an0 : Option Addr} {sl0 : Array (Option Value)} {oc0 kV0 dc0 pm0 cd0 ct0 : Value}
    {f1 : Addr} {od1 an1 : Option Addr} {sl1 : Array (Option Value)} {oc1 kV1 dc1 pm1 cd1 ct1 : Value}
    {f2 : Addr} {od2 an2 : Option Addr} {sl2 : Array (Option Value)} {oc2 kV2 dc2 pm2 cd2 ct2 : Value}
    {f3 : Addr} {od3 an3 : Option Addr} {sl3 : Array (Option Value)} {oc3 kV3 dc3 pm3 cd3 ct3 : Value}
    {f4 : Addr} {od4 an4 : Option Addr} {sl4 : Array (Option Value)} {oc4 kV4 dc4 pm4 cd4 ct4 : Value}
    {f5 : Addr} {od5 an5 : Option Addr} {sl5 : Array (Option Value)} {oc5 kV5 dc5 pm5 cd5 ct5 : Value}
    {f6 : Addr} {od6 an6 : Option Addr} {sl6 : Array (Option Value)} {oc6 kV6 dc6 pm6 cd6 ct6 : Value}
    {f7 : Addr} {od7 an7 : Option Addr} {sl7 : Array (Option Value)} {oc7 kV7 dc7 pm7 cd7 ct7 : Value}
    {f8 : Addr} {od8 an8 : Option Addr} {sl8 : Array (Option Value)} {oc8 kV8 dc8 pm8 cd8 ct8 : Value}
    {f9 : Addr} {od9 an9 : Option Addr} {sl9 : Array (Option Value)} {oc9 kV9 dc9 pm9 cd9 ct9 : Value}
    {f10 : Addr} {od10 an10 : Option Addr} {sl10 : Array (Option Value)} {oc10 kV10 dc10 pm10 cd10 ct10 : Value}
    {f11 : Addr} {od11 an11 : Option Addr} {sl11 : Array (Option Value)} {oc11 kV11 dc11 pm11 cd11 ct11 : Value}
    {f12 : Addr} {od12 an12 : Option Addr} {sl12 : Array (Option Value)} {oc12 kV12 dc12 pm12 cd12 ct12 : Value}
    {f13 : Addr} {od13 an13 : Option Addr} {sl13 : Array (Option Value)} {oc13 kV13 dc13 pm13 cd13 ct13 : Value}
    {f14 : Addr} {od14 an14 : Option Addr} {sl14 : Array (Option Value)} {oc14 kV14 dc14 pm14 cd14 ct14 : Value}
    {f15 : Addr} {od15 an15 : Option Addr} {sl15 : Array (Option Value)} {oc15 kV15 dc15 pm15 cd15 ct15 : Value}
    {f16 : Addr} {od16 an16 : Option Addr} {sl16 : Array (Option Value)} {oc16 kV16 dc16 pm16 cd16 ct16 : Value}
    {f17 : Addr} {od17 an17 : Option Addr} {sl17 : Array (Option Value)} {oc17 kV17 dc17 pm17 cd17 ct17 : Value}
    {f18 : Addr} {od18 an18 : Option Addr} {sl18 : Array (Option Value)} {oc18 kV18 dc18 pm18 cd18 ct18 : Value}
    {f19 : Addr} {od19 an19 : Option Addr} {sl19 : Array (Option Value)} {oc19 kV19 dc19 pm19 cd19 ct19 : Value}
    {f20 : Addr} {od20 an20 : Option Addr} {sl20 : Array (Option Value)} {oc20 kV20 dc20 pm20 cd20 ct20 : Value}
    {f21 : Addr} {od21 an21 : Option Addr} {sl21 : Array (Option Value)} {oc21 kV21 dc21 pm21 cd21 ct21 : Value}
    {f22 : Addr} {od22 an22 : Option Addr} {sl22 : Array (Option Value)} {oc22 kV22 dc22 pm22 cd22 ct22 : Value}
    {f23 : Addr} {od23 an23 : Option Addr} {sl23 : Array (Option Value)} {oc23 kV23 dc23 pm23 cd23 ct23 : Value}
    {f24 : Addr} {od24 an24 : Option Addr} {sl24 : Array (Option Value)} {oc24 kV24 dc24 pm24 cd24 ct24 : Value}
    {f25 : Addr} {od25 an25 : Option Addr} {sl25 : Array (Option Value)} {oc25 kV25 dc25 pm25 cd25 ct25 : Value}
    {f26 : Addr} {od26 an26 : Option Addr} {sl26 : Array (Option Value)} {oc26 kV26 dc26 pm26 cd26 ct26 : Value}
    {f27 : Addr} {od27 an27 : Option Addr} {sl27 : Array (Option Value)} {oc27 kV27 dc27 pm27 cd27 ct27 : Value}
    {tg0 : _}
    {tg1 : _}
    {tg2 : _}
    {tg3 : _}
    {tg4 : _}
    (aC0 : PySem.W.nsIn K mainGlobals "InvalidCosts" = some (some (.ref C0)))
    (xL0 : K.lookup C0 = some (excClassObj nm0 q0 C0 N0 bs0 bm0 true sn0 sub0 ab0 col0 dd0 w00 w10 w20 w30 w50 "ValueError.__new__"))
    (rV0 : PySem.HandSPX.refsVE bm0 = true)
    (sa0 : PySem.W.findIn K (.ref C0) "__setattr__" = some (some (.builtin "object.__setattr__")))
    (ga0 : PySem.W.findIn K (.ref C0) "__getattribute__" = some (some (.builtin "BaseException.__getattribute__")))
    (gg0 : PySem.W.findIn K (.ref C0) "__getattr__" = some none)
    (eC0 : PySem.W.subIn K (.ref C0) (.type "BaseException") = some true)
    (tC0 : PySem.W.typeIn K (.ref C0) = some (.type "type"))
    (kC0 : PySem.W.keepIn K (.ref C0) = true)
    (hC0 : PySem.W.hasDictIn K C0 = true)
    (iC0 : PySem.W.isClsIn K C0 = true)
    (aI0 : PySem.W.findIn K (.ref C0) "__init__" = some (some (.ref I0)))
    (tI0 : PySem.W.typeIn K (.ref I0) = some (.type "function"))
    (lI0 : K.lookup I0 = some ⟨oci0, odi0, .func (PySem.W.fnOf "__init__" "InvalidCosts.__init__" (defArgs s_InvalidCosts_init) (defBody s_InvalidCosts_init) (defScope s_InvalidCosts_init) .none kVi0 dci0 pmi0 ani0 cdi0 cti0), sli0⟩)
    (cI0 : PySem.W.codeIn K cdi0 "InvalidCosts.__init__" = true)
    (kI0 : PySem.W.keepIn K (.ref I0) = true)
    (nF00 : PySem.W.findIn K (.ref C0) "given" = some none)
    (aC1 : PySem.W.nsIn K mainGlobals "InvalidNumber" = some (some (.ref C1)))
    (xL1 : K.lookup C1 = some (excClassObj nm1 q1 C1 N1 bs1 bm1 true sn1 sub1 ab1 col1 dd1 w01 w11 w21 w31 w51 "ValueError.__new__"))
    (rV1 : PySem.HandSPX.refsVE bm1 = true)
    (sa1 : PySem.W.findIn K (.ref C1) "__setattr__" = some (some (.builtin "object.__setattr__")))
    (ga1 : PySem.W.findIn K (.ref C1) "__getattribute__" = some (some (.builtin "BaseException.__getattribute__")))
    (gg1 : PySem.W.findIn K (.ref C1) "__getattr__" = some none)
    (eC1 : PySem.W.subIn K (.ref C1) (.type "BaseException") = some true)
    (tC1 : PySem.W.typeIn K (.ref C1) = some (.type "type"))
    (kC1 : PySem.W.keepIn K (.ref C1) = true)
    (hC1 : PySem.W.hasDictIn K C1 = true)
    (iC1 : PySem.W.isClsIn K C1 = true)
    (aI1 : PySem.W.findIn K (.ref C1) "__init__" = some (some (.ref I1)))
    (tI1 : PySem.W.typeIn K (.ref I1) = some (.type "function"))
    (lI1 : K.lookup I1 = some ⟨oci1, odi1, .func (PySem.W.fnOf "__init__" "InvalidNumber.__init__" (defArgs s_InvalidNumber_init) (defBody s_InvalidNumber_init) (defScope s_InvalidNumber_init) .none kVi1 dci1 pmi1 ani1 cdi1 cti1), sli1⟩)
    (cI1 : PySem.W.codeIn K cdi1 "InvalidNumber.__init__" = true)
    (kI1 : PySem.W.keepIn K (.ref I1) = true)
    (nF10 : PySem.W.findIn K (.ref C1) "given" = some none)
    (aC2 : PySem.W.nsIn K mainGlobals "InvalidSlots" = some (some (.ref C2)))
    (xL2 : K.lookup C2 = some (excClassObj nm2 q2 C2 N2 bs2 bm2 true sn2 sub2 ab2 col2 dd2 w02 w12 w22 w32 w52 "ValueError.__new__"))
    (rV2 : PySem.HandSPX.refsVE bm2 = true)
    (sa2 : PySem.W.findIn K (.ref C2) "__setattr__" = some (some (.builtin "object.__setattr__")))
    (ga2 : PySem.W.findIn K (.ref C2) "__getattribute__" = some (some (.builtin "BaseException.__getattribute__")))
    (gg2 : PySem.W.findIn K (.ref C2) "__getattr__" = some none)
    (eC2 : PySem.W.subIn K (.ref C2) (.type "BaseException") = some true)
    (tC2 : PySem.W.typeIn K (.ref C2) = some (.type "type"))
    (kC2 : PySem.W.keepIn K (.ref C2) = true)
    (hC2 : PySem.W.hasDictIn K C2 = true)
    (iC2 : PySem.W.isClsIn K C2 = true)
    (aI2 : PySem.W.findIn K (.ref C2) "__init__" = some (some (.ref I2)))
    (tI2 : PySem.W.typeIn K (.ref I2) = some (.type "function"))
    (lI2 : K.lookup I2 = some ⟨oci2, odi2, .func (PySem.W.fnOf "__init__" "InvalidSlots.__init__" (defArgs s_InvalidSlots_init) (defBody s_InvalidSlots_init) (defScope s_InvalidSlots_init) .none kVi2 dci2 pmi2 ani2 cdi2 cti2), sli2⟩)
    (cI2 : PySem.W.codeIn K cdi2 "InvalidSlots.__init__" = true)
    (kI2 : PySem.W.keepIn K (.ref I2) = true)
    (nF20 : PySem.W.findIn K (.ref C2) "given" = some none)
    (sNN : PySem.W.subIn K (.ref C1) (.ref C1) = some true)
    (sSN : PySem.W.subIn K (.ref C2) (.ref C1) = some false)
    (sSS : PySem.W.subIn K (.ref C2) (.ref C2) = some true)
    (a0 : PySem.W.nsIn K mainGlobals "is_integer" = some (some (.ref f0)))
    (l0 : K.lookup f0 = some ⟨oc0, od0, .func (PySem.W.fnOf "is_integer" "is_integer" (defArgs s_is_integer) (defBody s_is_integer) (defScope s_is_integer) .none kV0 dc0 pm0 an0 cd0 ct0), sl0⟩)
    (c0 : PySem.W.codeIn K cd0 "is_integer" = true)
    (k0 : PySem.W.keepIn K (.ref f0) = true)
    (a1 : PySem.W.nsIn K mainGlobals "is_between" = some (some (.ref f1)))
    (l1 : K.lookup f1 = some ⟨oc1, od1, .func (PySem.W.fnOf "is_between" "is_between" (defArgs s_is_between) (defBody s_is_between) (defScope s_is_between) .none kV1 dc1 pm1 an1 cd1 ct1), sl1⟩)
    (c1 : PySem.W.codeIn K cd1 "is_between" = true)
    (k1 : PySem.W.keepIn K (.ref f1) = true)
    (a2 : PySem.W.nsIn K mainGlobals "is_list" = some (some (.ref f2)))
    (l2 : K.lookup f2 = some ⟨oc2, od2, .func (PySem.W.fnOf "is_list" "is_list" (defArgs s_is_list) (defBody s_is_list) (defScope s_is_list) .none kV2 dc2 pm2 an2 cd2 ct2), sl2⟩)
    (c2 : PySem.W.codeIn K cd2 "is_list" = true)
    (k2 : PySem.W.keepIn K (.ref f2) = true)
    (a3 : PySem.W.nsIn K mainGlobals "are_costs" = some (some (.ref f3)))
    (l3 : K.lookup f3 = some ⟨oc3, od3, .func (PySem.W.fnOf "are_costs" "are_costs" (defArgs s_are_costs) (defBody s_are_costs) (defScope s_are_costs) .none kV3 dc3 pm3 an3 cd3 ct3), sl3⟩)
    (c3 : PySem.W.codeIn K cd3 "are_costs" = true)
    (k3 : PySem.W.keepIn K (.ref f3) = true)
    (a4 : PySem.W.nsIn K mainGlobals "check_costs" = some (some (.ref f4)))
    (l4 : K.lookup f4 = some ⟨oc4, od4, .func (PySem.W.fnOf "check_costs" "check_costs" (defArgs s_check_costs) (defBody s_check_costs) (defScope s_check_costs) .none kV4 dc4 pm4 an4 cd4 ct4), sl4⟩)
    (c4 : PySem.W.codeIn K cd4 "check_costs" = true)
    (k4 : PySem.W.keepIn K (.ref f4) = true)
    (a5 : PySem.W.nsIn K mainGlobals "check_slots" = some (some (.ref f5)))
    (l5 : K.lookup f5 = some ⟨oc5, od5, .func (PySem.W.fnOf "check_slots" "check_slots" (defArgs s_check_slots) (defBody s_check_slots) (defScope s_check_slots) .none kV5 dc5 pm5 an5 cd5 ct5), sl5⟩)
    (c5 : PySem.W.codeIn K cd5 "check_slots" = true)
    (k5 : PySem.W.keepIn K (.ref f5) = true)
    (a6 : PySem.W.nsIn K mainGlobals "lone_row" = some (some (.ref f6)))
    (l6 : K.lookup f6 = some ⟨oc6, od6, .func (PySem.W.fnOf "lone_row" "lone_row" (defArgs s_lone_row) (defBody s_lone_row) (defScope s_lone_row) .none kV6 dc6 pm6 an6 cd6 ct6), sl6⟩)
    (c6 : PySem.W.codeIn K cd6 "lone_row" = true)
    (k6 : PySem.W.keepIn K (.ref f6) = true)
    (a7 : PySem.W.nsIn K mainGlobals "split_costs" = some (some (.ref f7)))
    (l7 : K.lookup f7 = some ⟨oc7, od7, .func (PySem.W.fnOf "split_costs" "split_costs" (defArgs s_split_costs) (defBody s_split_costs) (defScope s_split_costs) .none kV7 dc7 pm7 an7 cd7 ct7), sl7⟩)
    (c7 : PySem.W.codeIn K cd7 "split_costs" = true)
    (k7 : PySem.W.keepIn K (.ref f7) = true)
    (a8 : PySem.W.nsIn K mainGlobals "table_of" = some (some (.ref f8)))
    (l8 : K.lookup f8 = some ⟨oc8, od8, .func (PySem.W.fnOf "table_of" "table_of" (defArgs s_table_of) (defBody s_table_of) (defScope s_table_of) .none kV8 dc8 pm8 an8 cd8 ct8), sl8⟩)
    (c8 : PySem.W.codeIn K cd8 "table_of" = true)
    (k8 : PySem.W.keepIn K (.ref f8) = true)
    (a9 : PySem.W.nsIn K mainGlobals "least_cost" = some (some (.ref f9)))
    (l9 : K.lookup f9 = some ⟨oc9, od9, .func (PySem.W.fnOf "least_cost" "least_cost" (defArgs s_least_cost) (defBody s_least_cost) (defScope s_least_cost) .none kV9 dc9 pm9 an9 cd9 ct9), sl9⟩)
    (c9 : PySem.W.codeIn K cd9 "least_cost" = true)
    (k9 : PySem.W.keepIn K (.ref f9) = true)
    (a10 : PySem.W.nsIn K mainGlobals "choices" = some (some (.ref f10)))
    (l10 : K.lookup f10 = some ⟨oc10, od10, .func (PySem.W.fnOf "choices" "choices" (defArgs s_choices) (defBody s_choices) (defScope s_choices) .none kV10 dc10 pm10 an10 cd10 ct10), sl10⟩)
    (c10 : PySem.W.codeIn K cd10 "choices" = true)
    (k10 : PySem.W.keepIn K (.ref f10) = true)
    (a11 : PySem.W.nsIn K mainGlobals "least_runs" = some (some (.ref f11)))
    (l11 : K.lookup f11 = some ⟨oc11, od11, .func (PySem.W.fnOf "least_runs" "least_runs" (defArgs s_least_runs) (defBody s_least_runs) (defScope s_least_runs) .none kV11 dc11 pm11 an11 cd11 ct11), sl11⟩)
    (c11 : PySem.W.codeIn K cd11 "least_runs" = true)
    (k11 : PySem.W.keepIn K (.ref f11) = true)
    (a12 : PySem.W.nsIn K mainGlobals "alike_in" = some (some (.ref f12)))
    (l12 : K.lookup f12 = some ⟨oc12, od12, .func (PySem.W.fnOf "alike_in" "alike_in" (defArgs s_alike_in) (defBody s_alike_in) (defScope s_alike_in) .none kV12 dc12 pm12 an12 cd12 ct12), sl12⟩)
    (c12 : PySem.W.codeIn K cd12 "alike_in" = true)
    (k12 : PySem.W.keepIn K (.ref f12) = true)
    (a13 : PySem.W.nsIn K mainGlobals "alike" = some (some (.ref f13)))
    (l13 : K.lookup f13 = some ⟨oc13, od13, .func (PySem.W.fnOf "alike" "alike" (defArgs s_alike) (defBody s_alike) (defScope s_alike) .none kV13 dc13 pm13 an13 cd13 ct13), sl13⟩)
    (c13 : PySem.W.codeIn K cd13 "alike" = true)
    (k13 : PySem.W.keepIn K (.ref f13) = true)
    (a14 : PySem.W.nsIn K mainGlobals "reach" = some (some (.ref f14)))
    (l14 : K.lookup f14 = some ⟨oc14, od14, .func (PySem.W.fnOf "reach" "reach" (defArgs s_reach) (defBody s_reach) (defScope s_reach) .none kV14 dc14 pm14 an14 cd14 ct14), sl14⟩)
    (c14 : PySem.W.codeIn K cd14 "reach" = true)
    (k14 : PySem.W.keepIn K (.ref f14) = true)
    (a15 : PySem.W.nsIn K mainGlobals "_law_cell" = some (some (.ref f15)))
    (l15 : K.lookup f15 = some ⟨oc15, od15, .func (PySem.W.fnOf "_law_cell" "_law_cell" (defArgs s__law_cell) (defBody s__law_cell) (defScope s__law_cell) .none kV15 dc15 pm15 an15 cd15 ct15), sl15⟩)
    (c15 : PySem.W.codeIn K cd15 "_law_cell" = true)
    (k15 : PySem.W.keepIn K (.ref f15) = true)
    (a16 : PySem.W.nsIn K mainGlobals "_law_box" = some (some (.ref f16)))
    (l16 : K.lookup f16 = some ⟨oc16, od16, .func (PySem.W.fnOf "_law_box" "_law_box" (defArgs s__law_box) (defBody s__law_box) (defScope s__law_box) .none kV16 dc16 pm16 an16 cd16 ct16), sl16⟩)
    (c16 : PySem.W.codeIn K cd16 "_law_box" = true)
    (k16 : PySem.W.keepIn K (.ref f16) = true)
    (a17 : PySem.W.nsIn K mainGlobals "_law_take" = some (some (.ref f17)))
    (l17 : K.lookup f17 = some ⟨oc17, od17, .func (PySem.W.fnOf "_law_take" "_law_take" (defArgs s__law_take) (defBody s__law_take) (defScope s__law_take) .none kV17 dc17 pm17 an17 cd17 ct17), sl17⟩)
    (c17 : PySem.W.codeIn K cd17 "_law_take" = true)
    (k17 : PySem.W.keepIn K (.ref f17) = true)
    (a18 : PySem.W.nsIn K mainGlobals "_law_same" = some (some (.ref f18)))
    (l18 : K.lookup f18 = some ⟨oc18, od18, .func (PySem.W.fnOf "_law_same" "_law_same" (defArgs s__law_same) (defBody s__law_same) (defScope s__law_same) .none kV18 dc18 pm18 an18 cd18 ct18), sl18⟩)
    (c18 : PySem.W.codeIn K cd18 "_law_same" = true)
    (k18 : PySem.W.keepIn K (.ref f18) = true)
    (a19 : PySem.W.nsIn K mainGlobals "_law_grown" = some (some (.ref f19)))
    (l19 : K.lookup f19 = some ⟨oc19, od19, .func (PySem.W.fnOf "_law_grown" "_law_grown" (defArgs s__law_grown) (defBody s__law_grown) (defScope s__law_grown) .none kV19 dc19 pm19 an19 cd19 ct19), sl19⟩)
    (c19 : PySem.W.codeIn K cd19 "_law_grown" = true)
    (k19 : PySem.W.keepIn K (.ref f19) = true)
    (a20 : PySem.W.nsIn K mainGlobals "_law_table" = some (some (.ref f20)))
    (l20 : K.lookup f20 = some ⟨oc20, od20, .func (PySem.W.fnOf "_law_table" "_law_table" (defArgs s__law_table) (defBody s__law_table) (defScope s__law_table) .none kV20 dc20 pm20 an20 cd20 ct20), sl20⟩)
    (c20 : PySem.W.codeIn K cd20 "_law_table" = true)
    (k20 : PySem.W.keepIn K (.ref f20) = true)
    (a21 : PySem.W.nsIn K mainGlobals "_law_ways" = some (some (.ref f21)))
    (l21 : K.lookup f21 = some ⟨oc21, od21, .func (PySem.W.fnOf "_law_ways" "_law_ways" (defArgs s__law_ways) (defBody s__law_ways) (defScope s__law_ways) .none kV21 dc21 pm21 an21 cd21 ct21), sl21⟩)
    (c21 : PySem.W.codeIn K cd21 "_law_ways" = true)
    (k21 : PySem.W.keepIn K (.ref f21) = true)
    (a22 : PySem.W.nsIn K mainGlobals "_law_alike" = some (some (.ref f22)))
    (l22 : K.lookup f22 = some ⟨oc22, od22, .func (PySem.W.fnOf "_law_alike" "_law_alike" (defArgs s__law_alike) (defBody s__law_alike) (defScope s__law_alike) .none kV22 dc22 pm22 an22 cd22 ct22), sl22⟩)
    (c22 : PySem.W.codeIn K cd22 "_law_alike" = true)
    (k22 : PySem.W.keepIn K (.ref f22) = true)
    (a23 : PySem.W.nsIn K mainGlobals "_law_met" = some (some (.ref f23)))
    (l23 : K.lookup f23 = some ⟨oc23, od23, .func (PySem.W.fnOf "_law_met" "_law_met" (defArgs s__law_met) (defBody s__law_met) (defScope s__law_met) .none kV23 dc23 pm23 an23 cd23 ct23), sl23⟩)
    (c23 : PySem.W.codeIn K cd23 "_law_met" = true)
    (k23 : PySem.W.keepIn K (.ref f23) = true)
    (a24 : PySem.W.nsIn K mainGlobals "_law_numbers_right" = some (some (.ref f24)))
    (l24 : K.lookup f24 = some ⟨oc24, od24, .func (PySem.W.fnOf "_law_numbers_right" "_law_numbers_right" (defArgs s__law_numbers_right) (defBody s__law_numbers_right) (defScope s__law_numbers_right) .none kV24 dc24 pm24 an24 cd24 ct24), sl24⟩)
    (c24 : PySem.W.codeIn K cd24 "_law_numbers_right" = true)
    (k24 : PySem.W.keepIn K (.ref f24) = true)
    (a25 : PySem.W.nsIn K mainGlobals "_law_few_right" = some (some (.ref f25)))
    (l25 : K.lookup f25 = some ⟨oc25, od25, .func (PySem.W.fnOf "_law_few_right" "_law_few_right" (defArgs s__law_few_right) (defBody s__law_few_right) (defScope s__law_few_right) .none kV25 dc25 pm25 an25 cd25 ct25), sl25⟩)
    (c25 : PySem.W.codeIn K cd25 "_law_few_right" = true)
    (k25 : PySem.W.keepIn K (.ref f25) = true)
    (a26 : PySem.W.nsIn K mainGlobals "_law_refused_right" = some (some (.ref f26)))
    (l26 : K.lookup f26 = some ⟨oc26, od26, .func (PySem.W.fnOf "_law_refused_right" "_law_refused_right" (defArgs s__law_refused_right) (defBody s__law_refused_right) (defScope s__law_refused_right) .none kV26 dc26 pm26 an26 cd26 ct26), sl26⟩)
    (c26 : PySem.W.codeIn K cd26 "_law_refused_right" = true)
    (k26 : PySem.W.keepIn K (.ref f26) = true)
    (a27 : PySem.W.nsIn K mainGlobals "law" = some (some (.ref f27)))
    (l27 : K.lookup f27 = some ⟨oc27, od27, .func (PySem.W.fnOf "law" "law" (defArgs s_law) (defBody s_law) (defScope s_law) .none kV27 dc27 pm27 an27 cd27 ct27), sl27⟩)
    (c27 : PySem.W.codeIn K cd27 "law" = true)
    (k27 : PySem.W.keepIn K (.ref f27) = true)
    (gl0 : PySem.W.nsIn K mainGlobals "MOST_SLOTS" = some (some (.int 40 tg0)))
    (gl1 : PySem.W.nsIn K mainGlobals "MOST_ALIKE" = some (some (.int (10 ^ 18) tg1)))
    (gl2 : PySem.W.nsIn K mainGlobals "MOST_RUNS" = some (some (.int 60 tg2)))
    (gl3 : PySem.W.nsIn K mainGlobals "MOST_ROUNDS" = some (some (.int 60 tg3)))
    (gl4 : PySem.W.nsIn K mainGlobals "MOST_COST" = some (some (.int 1000000 tg4)))
    (z_isinstance : PySem.W.nsIn K mainGlobals "isinstance" = some none)
    (z_bool : PySem.W.nsIn K mainGlobals "bool" = some none)
    (z_int : PySem.W.nsIn K mainGlobals "int" = some none)
    (z_str : PySem.W.nsIn K mainGlobals "str" = some none)
    (z_dict : PySem.W.nsIn K mainGlobals "dict" = some none)
    (z_list : PySem.W.nsIn K mainGlobals "list" = some none)
    (z_tuple : PySem.W.nsIn K mainGlobals "tuple" = some none)
    (z_len : PySem.W.nsIn K mainGlobals "len" = some none)
    (z_range : PySem.W.nsIn K mainGlobals "range" = some none)
    (z_sum : PySem.W.nsIn K mainGlobals "sum" = some none)
    (z_min : PySem.W.nsIn K mainGlobals "min" = some none)
    (z_max : PySem.W.nsIn K mainGlobals "max" = some none)
    (z_all : PySem.W.nsIn K mainGlobals "all" = some none)
    (z_abs : PySem.W.nsIn K mainGlobals "abs" = some none)
    (z_enumerate : PySem.W.nsIn K mainGlobals "enumerate" = some none)
    (z_zip : PySem.W.nsIn K mainGlobals "zip" = some none) :
    ∃ fd : FuncData, (∀ (s : Shared) (v : Value), BindsTo s fd ⟨[v], []⟩ [("script", v)]) ∧ ∀ base : Heap, K.In base → base.Ns mainGlobals mg → FnOk l.prog w K mg base CX0 11 fa fd ["script"] (spLaw K) := by
  have e := hfa.symm.trans (PySem.W.mg_of X G a27)
  cases e
  have B : Bi mg := ⟨PySem.W.mg_none_of X G z_isinstance, PySem.W.mg_none_of X G z_bool, PySem.W.mg_none_of X G z_int, PySem.W.mg_none_of X G z_str, PySem.W.mg_none_of X G z_dict, PySem.W.mg_none_of X G z_list, PySem.W.mg_none_of X G z_tuple, PySem.W.mg_none_of X G z_len, PySem.W.mg_none_of X G z_range, PySem.W.mg_none_of X G z_sum, PySem.W.mg_none_of X G z_min, PySem.W.mg_none_of X G z_max, PySem.W.mg_none_of X G z_all, PySem.W.mg_none_of X G z_abs, PySem.W.mg_none_of X G z_enumerate, PySem.W.mg_none_of X G z_zip⟩
  have A_is_integer : At K mg "is_integer" s_is_integer := ⟨_, _, fun_mk (st := s_is_integer) l0 c0 k0, PySem.W.mg_of X G a0⟩
  have A_is_between : At K mg "is_between" s_is_between := ⟨_, _, fun_mk (st := s_is_between) l1 c1 k1, PySem.W.mg_of X G a1⟩
  have A_is_list : At K mg "is_list" s_is_list := ⟨_, _, fun_mk (st := s_is_list) l2 c2 k2, PySem.W.mg_of X G a2⟩
  have A_are_costs : At K mg "are_costs" s_are_costs := ⟨_, _, fun_mk (st := s_are_costs) l3 c3 k3, PySem.W.mg_of X G a3⟩
  have A_check_costs : At K mg "check_costs" s_check_costs := ⟨_, _, fun_mk (st := s_check_costs) l4 c4 k4, PySem.W.mg_of X G a4⟩
  have A_check_slots : At K mg "check_slots" s_check_slots := ⟨_, _, fun_mk (st := s_check_slots) l5 c5 k5, PySem.W.mg_of X G a5⟩
  have A_lone_row : At K mg "lone_row" s_lone_row := ⟨_, _, fun_mk (st := s_lone_row) l6 c6 k6, PySem.W.mg_of X G a6⟩
  have A_split_costs : At K mg "split_costs" s_split_costs := ⟨_, _, fun_mk (st := s_split_costs) l7 c7 k7, PySem.W.mg_of X G a7⟩
  have A_table_of : At K mg "table_of" s_table_of := ⟨_, _, fun_mk (st := s_table_of) l8 c8 k8, PySem.W.mg_of X G a8⟩
  have A_least_cost : At K mg "least_cost" s_least_cost := ⟨_, _, fun_mk (st := s_least_cost) l9 c9 k9, PySem.W.mg_of X G a9⟩
  have A_choices : At K mg "choices" s_choices := ⟨_, _, fun_mk (st := s_choices) l10 c10 k10, PySem.W.mg_of X G a10⟩
  have A_least_runs : At K mg "least_runs" s_least_runs := ⟨_, _, fun_mk (st := s_least_runs) l11 c11 k11, PySem.W.mg_of X G a11⟩
  have A_alike_in : At K mg "alike_in" s_alike_in := ⟨_, _, fun_mk (st := s_alike_in) l12 c12 k12, PySem.W.mg_of X G a12⟩
  have A_alike : At K mg "alike" s_alike := ⟨_, _, fun_mk (st := s_alike) l13 c13 k13, PySem.W.mg_of X G a13⟩
  have A_reach : At K mg "reach" s_reach := ⟨_, _, fun_mk (st := s_reach) l14 c14 k14, PySem.W.mg_of X G a14⟩
  have A__law_cell : At K mg "_law_cell" s__law_cell := ⟨_, _, fun_mk (st := s__law_cell) l15 c15 k15, PySem.W.mg_of X G a15⟩
  have A__law_box : At K mg "_law_box" s__law_box := ⟨_, _, fun_mk (st := s__law_box) l16 c16 k16, PySem.W.mg_of X G a16⟩
  have A__law_take : At K mg "_law_take" s__law_take := ⟨_, _, fun_mk (st := s__law_take) l17 c17 k17, PySem.W.mg_of X G a17⟩
  have A__law_same : At K mg "_law_same" s__law_same := ⟨_, _, fun_mk (st := s__law_same) l18 c18 k18, PySem.W.mg_of X G a18⟩
  have A__law_grown : At K mg "_law_grown" s__law_grown := ⟨_, _, fun_mk (st := s__law_grown) l19 c19 k19, PySem.W.mg_of X G a19⟩
  have A__law_table : At K mg "_law_table" s__law_table := ⟨_, _, fun_mk (st := s__law_table) l20 c20 k20, PySem.W.mg_of X G a20⟩
  have A__law_ways : At K mg "_law_ways" s__law_ways := ⟨_, _, fun_mk (st := s__law_ways) l21 c21 k21, PySem.W.mg_of X G a21⟩
  have A__law_alike : At K mg "_law_alike" s__law_alike := ⟨_, _, fun_mk (st := s__law_alike) l22 c22 k22, PySem.W.mg_of X G a22⟩
  have A__law_met : At K mg "_law_met" s__law_met := ⟨_, _, fun_mk (st := s__law_met) l23 c23 k23, PySem.W.mg_of X G a23⟩
  have A__law_numbers_right : At K mg "_law_numbers_right" s__law_numbers_right := ⟨_, _, fun_mk (st := s__law_numbers_right) l24 c24 k24, PySem.W.mg_of X G a24⟩
  have A__law_few_right : At K mg "_law_few_right" s__law_few_right := ⟨_, _, fun_mk (st := s__law_few_right) l25 c25 k25, PySem.W.mg_of X G a25⟩
  have A__law_refused_right : At K mg "_law_refused_right" s__law_refused_right := ⟨_, _, fun_mk (st := s__law_refused_right) l26 c26 k26, PySem.W.mg_of X G a26⟩
  have g_MOST_SLOTS := PySem.W.mg_of X G gl0
  have g_MOST_ALIKE := PySem.W.mg_of X G gl1
  have g_MOST_RUNS := PySem.W.mg_of X G gl2
  have g_MOST_ROUNDS := PySem.W.mg_of X G gl3
  have g_MOST_COST := PySem.W.mg_of X G gl4
  have FI0 := fun_mk (st := s_InvalidCosts_init) lI0 cI0 kI0
  have O0 : OexC K C0 := ⟨⟨nm0, q0, N0, bs0, bm0, sn0, sub0, ab0, col0, dd0, w00, w10, w20, w30, w50, xL0, rV0⟩, sa0, eC0, tC0, kC0⟩
  have XF0 : XfC K C0 := ⟨ga0, gg0, eC0, hC0⟩
  have FI1 := fun_mk (st := s_InvalidNumber_init) lI1 cI1 kI1
  have O1 : OexC K C1 := ⟨⟨nm1, q1, N1, bs1, bm1, sn1, sub1, ab1, col1, dd1, w01, w11, w21, w31, w51, xL1, rV1⟩, sa1, eC1, tC1, kC1⟩
  have XF1 : XfC K C1 := ⟨ga1, gg1, eC1, hC1⟩
  have FI2 := fun_mk (st := s_InvalidSlots_init) lI2 cI2 kI2
  have O2 : OexC K C2 := ⟨⟨nm2, q2, N2, bs2, bm2, sn2, sub2, ab2, col2, dd2, w02, w12, w22, w32, w52, xL2, rV2⟩, sa2, eC2, tC2, kC2⟩
  have XF2 : XfC K C2 := ⟨ga2, gg2, eC2, hC2⟩
  have EsNN := exm_pair (b := true) eC1 iC1 tC1 sNN
  have EsSN := exm_pair (b := false) eC1 iC1 tC1 sSN
  have EsSS := exm_pair (b := true) eC2 iC2 tC2 sSS
  refine ⟨PySem.W.fnOf "law" "law" (defArgs s_law) (defBody s_law) (defScope s_law) .none kV27 dc27 pm27 an27 cd27 ct27, fun s v => .of_eq rfl, fun base _ _ => ?_⟩
  have e_InvalidCosts : Er l.prog w K mg base "InvalidCosts" C0 ["given"] := er_InvalidCosts FI0 O0 nF00 aI0 tI0 (PySem.W.mg_of X G aC0) XF0
  have e_InvalidNumber : Er l.prog w K mg base "InvalidNumber" C1 ["given"] := er_InvalidNumber FI1 O1 nF10 aI1 tI1 (PySem.W.mg_of X G aC1) XF1
  have e_InvalidSlots : Er l.prog w K mg base "InvalidSlots" C2 ["given"] := er_InvalidSlots FI2 O2 nF20 aI2 tI2 (PySem.W.mg_of X G aC2) XF2
  have d_isI := ok_isInt (P := l.prog) (w := w) (base := base) A_is_integer B
  have d_btw := ok_btw A_is_between B d_isI
  have d_isL := ok_isList (P := l.prog) (w := w) (base := base) A_is_list B
  have d_sl := ok_slots A_check_slots B ⟨_, g_MOST_SLOTS⟩ e_InvalidSlots d_btw
  have d_ch := ok_choices (P := l.prog) (w := w) (base := base) A_choices B
  have d_runs := ok_runs A_least_runs B d_ch
  have d_ain := ok_alikeIn A_alike_in B d_ch d_runs
  have d_alike := ok_alike A_alike B ⟨_, g_MOST_SLOTS⟩ ⟨_, g_MOST_ALIKE⟩ e_InvalidSlots e_InvalidNumber d_btw d_ain
  have d_reach := ok_reach A_reach B ⟨_, g_MOST_RUNS⟩ e_InvalidNumber d_sl d_btw d_ch
  have d_ways := ok_ways (P := l.prog) (w := w) (base := base) A__law_ways B
  have d_lal := ok_lawAlike A__law_alike B d_ways
  have d_met := ok_met A__law_met B e_InvalidSlots e_InvalidNumber EsNN EsSN EsSS d_alike d_reach
  have d_same := same8 (P := l.prog) (w := w) (base := base) A__law_same B
  have d_take := ok_take (P := l.prog) (w := w) (base := base) A__law_take B
  have d_box := ok_box (P := l.prog) (w := w) (base := base) A__law_box B
  have d_cell := ok_cell (P := l.prog) (w := w) (base := base) A__law_cell B
  have d_grown := ok_grown (P := l.prog) (w := w) (base := base) A__law_grown B
  have d_num := ok_numbers A__law_numbers_right B d_take d_ways d_lal d_met d_same
  have d_ref := ok_refused A__law_refused_right B d_take d_grown d_met d_same
  have d_lone := ok_lone (P := l.prog) (w := w) (base := base) A_lone_row B
  have d_split := ok_split (P := l.prog) (w := w) (base := base) A_split_costs B
  have d_tab := ok_table A_table_of B d_lone d_split
  have d_are := ok_are A_are_costs B ⟨_, g_MOST_ROUNDS⟩ ⟨_, g_MOST_COST⟩ d_isL d_btw
  have d_costs := ok_costs A_check_costs B e_InvalidCosts d_are
  have d_least := ok_least A_least_cost B d_costs d_sl d_tab
  have d_ltab := ok_lawTable (P := l.prog) (w := w) (base := base) A__law_table B
  have d_few := ok_few A__law_few_right B d_take d_ltab d_lal d_met d_least d_same
  exact ok_law (fun_mk (st := s_law) l27 c27 k27) B d_take d_box d_cell d_num d_few d_ref
theorem walk {l : PySem.W.OpenLaw} {q : Program} {loose : List Str} {XP : (Str → Option Value) → Heap → Prop} {YP : World → Heap → Prop} {d : DefRec} {K : Params → PySem.W.Frag} (hn : l.most = some 63) (hdf : d.params.defaults = [])
    (hY : ∀ (w : World) (h : Heap), YP w h → (K w.params).In h)
    (F : ∀ (w : World) (mg : Str → Option Value) (fa : Addr) (h : Heap), (K w.params).In h → h.Ns mainGlobals mg → mg d.name = some (.ref fa) →
      ∃ fd : FuncData, (∀ (s : Shared) (u : Value), BindsTo s fd ⟨[u], []⟩ [("script", u)]) ∧ ∀ base : Heap, (K w.params).In base → base.Ns mainGlobals mg → FnOk l.prog w (K w.params) mg base CX0 11 fa fd ["script"] (spLaw (K w.params))) :
    PySem.W.WalkO q loose XP YP l.row.toRowW d [] (fun f vs => PySem.call f vs) :=
  L2.walk_of (n := 63) (k := 11) (x := "script") (CX := fun _ => CX0) (sp := fun w => spLaw (K w.params)) hn (by decide) hdf ⟨rfl, by decide, by decide⟩ hY F (fun _ _ a ns hl _ hS => ⟨a, ns, rfl, hS, hl, fun _ => rfl⟩) fun _ _ _ _ _ z => z
end K30
open PySem PySem.W PyProof.Rows in
set_option maxRecDepth 100000 in
set_option maxHeartbeats 0 in
theorem PySem.Challenge.cw_diffcompiler_k30_rounds_alike_holds : PySem.Challenge.rw_diffcompiler_k30_rounds_alike.Holds := by
  w_on; o_law; k_head; (case hw => w_witness2)
  k_fill
  refine K30.walk (l := PySem.Challenge.rw_diffcompiler_k30_rounds_alike) rfl rfl (fun w h Y => PySem.W.kIn_of Y) ?F
  case F =>
    intro w mg fa h KX G hmg
    refine' K30.all_mk KX G hmg ?aC0 ?xL0 ?rV0 ?sa0 ?ga0 ?gg0 ?eC0 ?tC0 ?kC0 ?hC0 ?iC0 ?aI0 ?tI0 ?lI0 ?cI0 ?kI0 ?nF00 ?aC1 ?xL1 ?rV1 ?sa1 ?ga1 ?gg1 ?eC1 ?tC1 ?kC1 ?hC1 ?iC1 ?aI1 ?tI1 ?lI1 ?cI1 ?kI1 ?nF10 ?aC2 ?xL2 ?rV2 ?sa2 ?ga2 ?gg2 ?eC2 ?tC2 ?kC2 ?hC2 ?iC2 ?aI2 ?tI2 ?lI2 ?cI2 ?kI2 ?nF20 ?sNN ?sSN ?sSS ?a0 ?l0 ?c0 ?k0 ?a1 ?l1 ?c1 ?k1 ?a2 ?l2 ?c2 ?k2 ?a3 ?l3 ?c3 ?k3 ?a4 ?l4 ?c4 ?k4 ?a5 ?l5 ?c5 ?k5 ?a6 ?l6 ?c6 ?k6 ?a7 ?l7 ?c7 ?k7 ?a8 ?l8 ?c8 ?k8 ?a9 ?l9 ?c9 ?k9 ?a10 ?l10 ?c10 ?k10 ?a11 ?l11 ?c11 ?k11 ?a12 ?l12 ?c12 ?k12 ?a13 ?l13 ?c13 ?k13 ?a14 ?l14 ?c14 ?k14 ?a15 ?l15 ?c15 ?k15 ?a16 ?l16 ?c16 ?k16 ?a17 ?l17 ?c17 ?k17 ?a18 ?l18 ?c18 ?k18 ?a19 ?l19 ?c19 ?k19 ?a20 ?l20 ?c20 ?k20 ?a21 ?l21 ?c21 ?k21 ?a22 ?l22 ?c22 ?k22 ?a23 ?l23 ?c23 ?k23 ?a24 ?l24 ?c24 ?k24 ?a25 ?l25 ?c25 ?k25 ?a26 ?l26 ?c26 ?k26 ?a27 ?l27 ?c27 ?k27 ?gl0 ?gl1 ?gl2 ?gl3 ?gl4 ?z_isinstance ?z_bool ?z_int ?z_str ?z_dict ?z_list ?z_tuple ?z_len ?z_range ?z_sum ?z_min ?z_max ?z_all ?z_abs ?z_enumerate ?z_zip
    (case aC0 => k_is)
    (case xL0 => k_is)
    (case rV0 => first | rfl | decide +kernel | k_is)
    (case sa0 => k_is)
    (case ga0 => k_is)
    (case gg0 => k_is)
    (case eC0 => k_is)
    (case tC0 => k_is)
    (case kC0 => k_is)
    (case hC0 => k_is)
    (case iC0 => k_is)
    (case aI0 => k_is)
    (case tI0 => k_is)
    (case lI0 => k_is)
    (case cI0 => k_is)
    (case kI0 => k_is)
    (case nF00 => k_is)
    (case aC1 => k_is)
    (case xL1 => k_is)
    (case rV1 => first | rfl | decide +kernel | k_is)
    (case sa1 => k_is)
    (case ga1 => k_is)
    (case gg1 => k_is)
    (case eC1 => k_is)
    (case tC1 => k_is)
    (case kC1 => k_is)
    (case hC1 => k_is)
    (case iC1 => k_is)
    (case aI1 => k_is)
    (case tI1 => k_is)
    (case lI1 => k_is)
    (case cI1 => k_is)
    (case kI1 => k_is)
    (case nF10 => k_is)
    (case aC2 => k_is)
    (case xL2 => k_is)
    (case rV2 => first | rfl | decide +kernel | k_is)
    (case sa2 => k_is)
    (case ga2 => k_is)
    (case gg2 => k_is)
    (case eC2 => k_is)
    (case tC2 => k_is)
    (case kC2 => k_is)
    (case hC2 => k_is)
    (case iC2 => k_is)
    (case aI2 => k_is)
    (case tI2 => k_is)
    (case lI2 => k_is)
    (case cI2 => k_is)
    (case kI2 => k_is)
    (case nF20 => k_is)
    (case sNN => k_is)
    (case sSN => k_is)
    (case sSS => k_is)
    (case a0 => k_is)
    (case l0 => k_is)
    (case c0 => k_is)
    (case k0 => k_is)
    (case a1 => k_is)
    (case l1 => k_is)
    (case c1 => k_is)
    (case k1 => k_is)
    (case a2 => k_is)
    (case l2 => k_is)
    (case c2 => k_is)
    (case k2 => k_is)
    (case a3 => k_is)
    (case l3 => k_is)
    (case c3 => k_is)
    (case k3 => k_is)
    (case a4 => k_is)
    (case l4 => k_is)
    (case c4 => k_is)
    (case k4 => k_is)
    (case a5 => k_is)
    (case l5 => k_is)
    (case c5 => k_is)
    (case k5 => k_is)
    (case a6 => k_is)
    (case l6 => k_is)
    (case c6 => k_is)
    (case k6 => k_is)
    (case a7 => k_is)
    (case l7 => k_is)
    (case c7 => k_is)
    (case k7 => k_is)
    (case a8 => k_is)
    (case l8 => k_is)
    (case c8 => k_is)
    (case k8 => k_is)
    (case a9 => k_is)
    (case l9 => k_is)
    (case c9 => k_is)
    (case k9 => k_is)
    (case a10 => k_is)
    (case l10 => k_is)
    (case c10 => k_is)
    (case k10 => k_is)
    (case a11 => k_is)
    (case l11 => k_is)
    (case c11 => k_is)
    (case k11 => k_is)
    (case a12 => k_is)
    (case l12 => k_is)
    (case c12 => k_is)
    (case k12 => k_is)
    (case a13 => k_is)
    (case l13 => k_is)
    (case c13 => k_is)
    (case k13 => k_is)
    (case a14 => k_is)
    (case l14 => k_is)
    (case c14 => k_is)
    (case k14 => k_is)
    (case a15 => k_is)
    (case l15 => k_is)
    (case c15 => k_is)
    (case k15 => k_is)
    (case a16 => k_is)
    (case l16 => k_is)
    (case c16 => k_is)
    (case k16 => k_is)
    (case a17 => k_is)
    (case l17 => k_is)
    (case c17 => k_is)
    (case k17 => k_is)
    (case a18 => k_is)
    (case l18 => k_is)
    (case c18 => k_is)
    (case k18 => k_is)
    (case a19 => k_is)
    (case l19 => k_is)
    (case c19 => k_is)
    (case k19 => k_is)
    (case a20 => k_is)
    (case l20 => k_is)
    (case c20 => k_is)
    (case k20 => k_is)
    (case a21 => k_is)
    (case l21 => k_is)
    (case c21 => k_is)
    (case k21 => k_is)
    (case a22 => k_is)
    (case l22 => k_is)
    (case c22 => k_is)
    (case k22 => k_is)
    (case a23 => k_is)
    (case l23 => k_is)
    (case c23 => k_is)
    (case k23 => k_is)
    (case a24 => k_is)
    (case l24 => k_is)
    (case c24 => k_is)
    (case k24 => k_is)
    (case a25 => k_is)
    (case l25 => k_is)
    (case c25 => k_is)
    (case k25 => k_is)
    (case a26 => k_is)
    (case l26 => k_is)
    (case c26 => k_is)
    (case k26 => k_is)
    (case a27 => k_is)
    (case l27 => k_is)
    (case c27 => k_is)
    (case k27 => k_is)
    (case gl0 => k_is)
    (case gl1 => k_is)
    (case gl2 => k_is)
    (case gl3 => k_is)
    (case gl4 => k_is)
    (case z_isinstance => k_is)
    (case z_bool => k_is)
    (case z_int => k_is)
    (case z_str => k_is)
    (case z_dict => k_is)
    (case z_list => k_is)
    (case z_tuple => k_is)
    (case z_len => k_is)
    (case z_range => k_is)
    (case z_sum => k_is)
    (case z_min => k_is)
    (case z_max => k_is)
    (case z_all => k_is)
    (case z_abs => k_is)
    (case z_enumerate => k_is)
    (case z_zip => k_is)


