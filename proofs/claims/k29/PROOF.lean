import PyProof.Rows.All
import Wide.All
import OpenK.AllK
import Wide.FinOn
import HandS.ForMost
import HandS.Exc
import HandS.ExcOwn
import HandS.WordsExc
import HandS.Defaults
import HandS.TryMany
import HandS.ExcField
import HandS.IsInst
import HandS.Style
import HandS.TupLe
import HandS.TupAny
import HandS.Wide
import HandS.Conv
import HandS.Walk
import HandS.Zip
import HandS.ExcInit
import HandS.Deep
import HandS.Comp
import HandS.More
import HandS.Ends
import PySem.Challenge.RW_diffcompiler_k29_cost_tables
set_option Elab.async false
set_option linter.all false
set_option maxRecDepth 100000
set_option maxHeartbeats 4000000
/-! The base of our proofs: rules that the layer does not have, and the words that our texts share. -/
namespace GB
open PySem PySem.Spec PyProof.Rows L2

/-- a def of the text that keeps a promise, as its callers see it -/
structure Dn (P : Program) (w : World) (K : PySem.W.Frag) (mg : Str → Option Value) (base : Heap) (k : Nat) (x : Str) (st : Stmt) (ps : List Str) (sp : Sp) : Prop where
  ex : ∃ (f : Addr) (fd : FuncData), FnOk P w K mg base (L2.CX P w) k f fd ps sp ∧ mg x = some (.ref f) ∧ Fun K x x st f fd
/-- how positional arguments come to the parameters -/
def Bd (x : Str) (st : Stmt) (ps : List Str) : Prop := ∀ (kV doc pm : Value) (an : Option Addr) (cdv ct : Value) (us : List Value), us.length = ps.length →
  bindArgs (PySem.W.fnOf x x (defArgs st) (defBody st) (defScope st) .none kV doc pm an cdv ct) ⟨us, []⟩ = pure (ps.zip us)
/-- how arguments that are all passed by name come to the parameters -/
def Bk (x : Str) (st : Stmt) (ps ks : List Str) (g : {α : Type} → List α → List α) : Prop := ∀ (kV doc pm : Value) (an : Option Addr) (cdv ct : Value) (us : List Value), us.length = ks.length →
  bindArgs (PySem.W.fnOf x x (defArgs st) (defBody st) (defScope st) .none kV doc pm an cdv ct) ⟨[], ks.zip us⟩ = pure (ps.zip (g us))
theorem Dn.mono {P : Program} {w : World} {K : PySem.W.Frag} {mg : Str → Option Value} {base : Heap} {j k : Nat} {x : Str} {st : Stmt} {ps : List Str} {sp : Sp} (D : Dn P w K mg base j x st ps sp) (h : j ≤ k) : Dn P w K mg base k x st ps sp := by
  obtain ⟨f, fd, F, m, G⟩ := D.ex
  exact ⟨f, fd, F.mono h, m, G⟩
theorem Dn.imp {P : Program} {w : World} {K : PySem.W.Frag} {mg : Str → Option Value} {base : Heap} {k : Nat} {x : Str} {st : Stmt} {ps : List Str} {sp sp' : Sp} (D : Dn P w K mg base k x st ps sp) (h : ∀ vs H Q E, sp' vs H Q E → sp vs H Q E) :
    Dn P w K mg base k x st ps sp' := by
  obtain ⟨f, fd, F, m, G⟩ := D.ex
  exact ⟨f, fd, F.imp h, m, G⟩
section
variable {X : Cx} {k : Nat} {ps ks : List Str} {sp : Sp} {E : XK} {x : Str} {st : Stmt} {p pos : Pos} {e : Expr} {es : List Expr} {t tk : TA} {kws : List Keyword}
theorem bd_of {f : Addr} {fd : FuncData} (G : Fun X.K x x st f fd) (b : Bd x st ps) : Binds X.K fd ps [] := G.binds b
/-- f(e, ..): what f may raise is E's -/
theorem pe_cl (D : Dn X.prog X.w X.K X.mg X.base k x st ps sp) (b : Bd x st ps) (hr : Room k X.A) (hx : Passes (L2.CX X.prog X.w) X E) (ha : PA X (e :: es) t) (hg : Gl X x := by rfl) (hdb : (x == ("__debug__" : Str)) = false := by decide)
    (he : starEach (e :: es) X.env = (false, eval e X.env) :: starEach es X.env := by rfl) (hpl : (backTo pos (starEach es X.env)).any (·.1) = false := by rfl) :
    PE X (.Call (.Name x p) (e :: es) [] pos) (tCall sp [] E t) := by
  obtain ⟨f, fd, F, m, G⟩ := D.ex
  exact pe_call F hr hg m G.kp (G.binds b) .nil hx ha hdb he hpl
theorem pe_cl0 (D : Dn X.prog X.w X.K X.mg X.base k x st [] sp) (b : Bd x st []) (hr : Room k X.A) (hx : Passes (L2.CX X.prog X.w) X E) (hg : Gl X x := by rfl) (hdb : (x == ("__debug__" : Str)) = false := by decide) :
    PE X (.Call (.Name x p) [] [] pos) (tCall sp [] E tNil) := by
  obtain ⟨f, fd, F, m, G⟩ := D.ex
  exact pe_call0 F hr hg m G.kp (G.binds b) .nil hx hdb
/-- f(e, ..) within a try's body -/
theorem pe_clS {W : WX} (D : Dn X.prog X.w X.K X.mg X.base k x st ps sp) (b : Bd x st ps) (hr : Room k X.A) (tk : Takes X W) (ha : PA X (e :: es) t) (hg : Gl X x := by rfl) (hdb : (x == ("__debug__" : Str)) = false := by decide)
    (he : starEach (e :: es) X.env = (false, eval e X.env) :: starEach es X.env := by rfl) (hpl : (backTo pos (starEach es X.env)).any (·.1) = false := by rfl) :
    PE X (.Call (.Name x p) (e :: es) [] pos) (tCallS sp (WE W) t) := by
  obtain ⟨f, fd, F, m, G⟩ := D.ex
  exact pe_callS F hr hg m G.kp (G.binds b) (fun σ => passAt tk σ) ha hdb he hpl
/-- f(k = v, ..), all by name, within a try's body -/
def tCallKS (sp : Sp) (gV : List V → List V) (n : Nat) (E : L2.St → XK) (tk : TA) : TE := fun σ H Q => tk σ H fun zs H1 => zs.length = n ∧ sp (gV zs) H1 Q (E σ)
theorem paired_len {α β : Type} {r : α → β → Prop} {xs : List α} {ys : List β} (h : Paired r xs ys) : xs.length = ys.length := Paired.length h
theorem pe_clKS {W : WX} {g : {α : Type} → List α → List α} (D : Dn X.prog X.w X.K X.mg X.base k x st ps sp) (b : Bk x st ps ks g) (hgr : ∀ {vs : List V} {us : List Value}, Vals vs us → vs.length = ks.length → Vals (g vs) (g us)) (hr : Room k X.A) (tk : Takes X W) (hkw : PK X kws t) (hg : Gl X x := by rfl)
    (hall : (backToKw pos (keywordEach kws X.env)).all (·.1.isSome) = true := by rfl) (hks : (backToKw pos (keywordEach kws X.env)).filterMap (·.1) = ks := by rfl) (hdb : (x == ("__debug__" : Str)) = false := by decide)
    (hpl : ((backTo pos (starEach [] X.env)).any (·.1) || (backToKw pos (keywordEach kws X.env)).any (·.1.isNone)) = false := by rfl) :
    PE X (.Call (.Name x p) [] kws pos) (tCallKS sp (fun l => g l) ks.length (WE W) t) := by
  obtain ⟨f, fd, F, m, G⟩ := D.ex
  refine ⟨fun pins s σ H Q I h => ?_⟩
  refine wpAny_Call_Name_kw (ld_glob I hg m ?_ hdb)
  refine PySem.W.callWith_KW0 (h₀ := X.base) I.ok.mod.kin G.kp hall (thn (hkw.run pos pins s σ H _ I h) ?_) hpl
  rintro ws s2 ⟨zs, H2, I2, rz, ln, q2⟩
  refine ⟨I2.kIn, ?_⟩
  rw [hks]
  have r2 := hgr rz ln
  obtain ⟨oc, od, kV, doc, pm, an, cdv, ct, osl, rfl, lk, hcd⟩ := G.ex
  have l2 : ws.length = ks.length := by rw [← rz.length]; exact ln
  have bt : BindsTo s2 _ ⟨[], ks.zip ws⟩ (ps.zip (g ws)) := BindsTo.of_eq (b kV doc pm an cdv ct ws l2)
  show wpAny _ _ (call (.ref f) ([] ++ []) (ks.zip ws)) _ _ _
  refine wpAny_call (codeAny_mono (F.run X.A X.stack s2 H2 ⟨[], ks.zip ws⟩ (g ws) (g zs) Q (WE W σ) hr I2.env0 bt r2 q2) ?_)
  intro r s' hq
  cases r with
  | error e => exact passAt tk σ pins H2 s2 e s' I2 hq
  | ok fl =>
    cases fl with
    | ret u => exact I2.after hq
    | next | brk | cont => exact False.elim hq
end
end GB

namespace GB
open PySem PySem.Spec PyProof.Rows L2
/-- one except clause: the class that it names, the slot of its name (if it has one), its suite -/
structure Cl where
  cls : Value
  as? : Option Nat
  suite : Addr → Value → Option Addr → TS
/-- the ends of a suite behind which its name goes -/
def Ends.away (D : Ends) (i : Nat) : Ends := { nx := fun σ H => D.nx (σ.set i none) H, rt := D.rt, bk := fun σ H => D.bk (σ.set i none) H, ct := fun σ H => D.ct (σ.set i none) H }
/-- what a suite wishes, entered with the error at a -/
def Cl.enter (c : Cl) (D : Ends) (a : Addr) (cls : Value) (d : Option Addr) (σ : L2.St) (H : Hp) : Prop :=
  match c.as? with
  | none => c.suite a cls d D σ H
  | some i => c.suite a cls d (Ends.away D i) (σ.set i (some (.ref a))) H
/-- what the clauses wish of an exception of the body, one clause behind the other -/
def wCls (K : PySem.W.Frag) (Wo : WX) (D : Ends) : List Cl → WX
  | [] => Wo
  | c :: r => fun cls d σ H => ∃ b, PySem.W.exmOne K cls c.cls = some b ∧ (b = true → ∀ a, H a = none → c.enter D a cls d σ H) ∧ (b = false → wCls K Wo D r cls d σ H)
inductive ClsOk (X : Cx) : List ExceptHandler → List Cl → Prop
  | nil : ClsOk X [] []
  | plain {x : Str} {c : Value} {ts : Addr → Value → Option Addr → TS} {b1 : Stmt} {bs : List Stmt} {p1 p2 : Pos} {hds : List ExceptHandler} {l : List Cl} (nm : Names X x c)
      (su : ∀ (a : Addr) (oe : Obj) (cls : Value) (d : Option Addr) (pn : List (Addr × Obj)), Zc cls d oe → (∃ vs, oe.data = .fields vs) → PSs (X.suite a ((a, oe) :: pn)) (b1 :: bs) (ts a cls d)) (r : ClsOk X hds l) :
      ClsOk X (.ExceptHandler (some (.Name x p1)) none (b1 :: bs) p2 :: hds) (⟨c, none, ts⟩ :: l)
  | named {x n : Str} {i : Nat} {c : Value} {ts : Addr → Value → Option Addr → TS} {b1 : Stmt} {bs : List Stmt} {p1 p2 : Pos} {hds : List ExceptHandler} {l : List Cl} (nm : Names X x c) (at_ : X.N[i]? = some n) (lc : X.env.kindOf n = some .local)
      (su : ∀ (a : Addr) (oe : Obj) (cls : Value) (d : Option Addr) (pn : List (Addr × Obj)), Zc cls d oe → (∃ vs, oe.data = .fields vs) → PSs (X.suite a ((a, oe) :: pn)) (b1 :: bs) (ts a cls d)) (r : ClsOk X hds l) :
      ClsOk X (.ExceptHandler (some (.Name x p1)) (some n) (b1 :: bs) p2 :: hds) (⟨c, some i, ts⟩ :: l)
section
variable {X : Cx} {body : List Stmt} {h1 : ExceptHandler} {hds : List ExceptHandler} {l : List Cl} {pos : Pos} {tb : WX → TS} {Wo : WX}
/-- try: body / except X as n: .. / except Y as n: .. / except Z: .. -/
theorem ps_try_cls (stk : X.stack = X.env :: X.outer) (frm : X.env.frame = some X.env.locals) (nd : X.N.Nodup) (tk : Takes X Wo)
    (hb : ∀ (W : WX) (pn : List (Addr × Obj)) (xe : Value → Shared → Prop), Takes (X.tr pn xe) W → PassesOwn (model X.prog X.w) X.A X.env xe → PSs (X.tr pn xe) body (tb W))
    (cl : ClsOk X (h1 :: hds) l) : PS X (.Try body (h1 :: hds) [] [] pos) (fun D σ H => tb (wCls X.K Wo D l) D σ H) := by
  refine ⟨?_⟩
  intro pins s σ H D I h
  have ok := I.ok
  have frs1 : X.A.frames = some (X.env :: X.outer) := by rw [ok.frames, stk]
  refine wpAny_Try_except ?_
  have run := (hb (wCls X.K Wo D l) (X.pn ++ pins) (fun e s1 => wpAny (model X.prog X.w) X.A (noteFrame e X.env) (fun _ s2 => wpAny (model X.prog X.w) X.A (setFlight e none) (fun _ s3 =>
    wpAny (model X.prog X.w) X.A (handleBy e X.env (h1 :: hds)) (SP X pins D) X.xe s3) X.xe s2) X.xe s1) ?caught PassesOwn.looking).run [] s σ H D (I.toTry _) h
  case caught =>
    rintro u s1 ⟨a, B, sI, pins1, σ1, H1, cls, d, rfl, J1, nb, up, sky, na, os, ag, wish⟩
    have J : Inv X pins σ1 H1 sI := J1.ofTry ok
    have sky1 : Sky B (X.env :: X.outer) a (Zc cls d) X.env.locals s1.heap := by
      rw [← stk]
      exact sky
    show wpAny (model X.prog X.w) X.A (noteFrame (.ref a) X.env) _ _ _
    refine Sky.land Zc.steady frs1 frm sky1 ?_
    intro h3 fl3 up3
    have J3 : Inv X pins σ1 H1 { s1 with heap := h3 } := J.landed nb fl3.1 (up.trans up3) os ag
    obtain ⟨oe3, vs3, he3, hz3, hd3⟩ := fl3.there
    have off : a ∉ frs (X.env :: X.outer) := by
      intro hm
      obtain ⟨_, o1, e1, hnf⟩ := fl3.2.2.1.mem hm
      rw [he3] at e1
      cases e1
      exact hnf _ hd3
    have nL : a ≠ X.env.locals := by
      intro z
      exact off (List.mem_filterMap.mpr ⟨X.env, List.mem_cons_self, by rw [frm, z]⟩)
    have nF : a ∉ X.fs := by
      intro hm
      obtain ⟨e, he, q⟩ := List.mem_filterMap.mp hm
      exact off (List.mem_filterMap.mpr ⟨e, List.mem_cons_of_mem _ he, q⟩)
    have S3 := J3.suite he3 hd3 na nL nF
    -- a clause's suite, entered
    have go : ∀ {hs : List ExceptHandler} {ls : List Cl}, ClsOk X hs ls → wCls X.K Wo D ls cls d σ1 H1 → wpAny (model X.prog X.w) X.A (handleBy (.ref a) X.env hs) (SP X pins D) X.xe { s1 with heap := h3 } := by
      intro hs ls ck
      have ty : PySem.W.Looks (model X.prog X.w) h3 (typeOf (.ref a)) cls := by
        intro A Q E s2 k q
        exact wpAny_typeOf_ref (k _ _ he3) (by rw [hz3.1]; exact q)
      have named : ∀ {x : Str} {c : Value} {np : Pos} {Q : Value → Shared → Prop} {E : Value → Shared → Prop}, Names X x c → Q c { s1 with heap := h3 } →
          wpAny (model X.prog X.w) (X.A.mark (some (.ref a))) (eval (.Name x np) X.env) Q E { s1 with heap := h3 } := by
        rintro x c np Q E ⟨hg, hdbg, hm | ⟨hm, hv, hnn⟩⟩ q
        · exact ld_glob (X := X.suite a ((a, oe3) :: (X.pn ++ pins))) S3 hg hm q hdbg
        · exact ld_blt (X := X.suite a ((a, oe3) :: (X.pn ++ pins))) S3 hg hm hv q hnn hdbg
      have behind : ∀ {σ2 : L2.St} {H2 : Hp} {sv : Shared} {vs2 : List (Addr × Obj)} {a2 : Addr × Obj}, Inv (X.suite a (a2 :: (X.pn ++ pins))) vs2 σ2 H2 sv → Inv X pins σ2 H2 sv := fun S => S.unsuite ok
      induction ck with
      | nil =>
        intro w
        refine wpAny_handleBy_nil ?_
        obtain ⟨k1, k2, k3, oe, vs, T, oT, ts2, he, hz, hd, hone, hr⟩ := id fl3
        unfold PySem.passOn
        refine wpAny_bind (wpAny_field he hd hone ?_)
        rw [if_neg (show ¬ ((Value.ref T == Value.none) = true) from by simp)]
        have out : wpAny (model X.prog X.w) X.A (setFlight (.ref a) X.env.frame) (fun _ s4 => wpAny (model X.prog X.w) X.A (throw (.ref a) : Sem Flow) (SP X pins D) X.xe s4) X.xe { s1 with heap := h3 } := by
          rw [frm]
          refine HandSPX.setFlight_upZ fl3 ?_
          intro h4 hh4 up4
          refine wpAny_throw (tk _ _ ⟨a, B, sI, pins, σ1, H1, cls, d, rfl, J, nb, (up.trans up3).trans up4, .inr (.inr ?_), na, os, ag, w⟩)
          rw [stk]
          exact hh4
        first
          | exact wpAny_bind (wpAny_pure (wpAny_bind out))
          | exact wpAny_bind out
      | @plain x c ts b1 bs p1 p2 hs2 l2 nm su r ih =>
        rintro ⟨b, hb1, yes, no⟩
        refine wpAny_handleBy_cons (codeAny_handlers_test ?_) (by intro q; cases q)
        refine named nm ((PySem.W.exm_one (M := model X.prog X.w) J3.kIn ty hb1).here ?_)
        cases b with
        | false => exact ih (no rfl)
        | true =>
          refine codeAny_handlers_suite (HandSPX.lands_againZ fl3 ?_)
          intro h4 fl4 up4
          have J4 : Inv X pins σ1 H1 { s1 with heap := h4 } := J.landed nb fl4.1 ((up.trans up3).trans up4) os ag
          obtain ⟨oe4, vs4, he4, hz4, hd4⟩ := fl4.there
          have S4 := J4.suite he4 hd4 na nL nF
          refine wpAny_mono ((su a oe4 cls d (X.pn ++ pins) hz4 ⟨_, hd4⟩).run [] _ _ H1 _ S4 (yes rfl a na)) ?_ (fun _ _ z => False.elim z)
          intro f s6 hsp
          cases f with
          | next | brk | cont =>
            obtain ⟨σ6, H6, S6, q6⟩ := hsp
            exact ⟨_, _, behind S6, q6⟩
          | ret u =>
            obtain ⟨v6, σ6, H6, S6, r6, q6⟩ := hsp
            exact ⟨_, _, _, behind S6, r6, q6⟩
      | @named x n i c ts b1 bs p1 p2 hs2 l2 nm at_ lc su r ih =>
        rintro ⟨b, hb1, yes, no⟩
        refine wpAny_handleBy_cons (codeAny_handlers_test ?_) (by intro q; cases q)
        refine named nm ((PySem.W.exm_one (M := model X.prog X.w) J3.kIn ty hb1).here ?_)
        cases b with
        | false => exact ih (no rfl)
        | true =>
          refine codeAny_handlers_suite_as (HandSPX.lands_againZ fl3 ?_)
          intro h4 fl4 up4
          have J4 : Inv X pins σ1 H1 { s1 with heap := h4 } := J.landed nb fl4.1 ((up.trans up3).trans up4) os ag
          obtain ⟨oe4, vs4, he4, hz4, hd4⟩ := fl4.there
          have S4 := J4.suite he4 hd4 na nL nF
          refine store_ok (X := X.suite a ((a, oe4) :: (X.pn ++ pins))) (v := .ref a) S4 nd at_ (.inl lc) rfl ?_ (.inr lc)
          intro s5 S5
          refine wpAny_mono ((su a oe4 cls d (X.pn ++ pins) hz4 ⟨_, hd4⟩).run [] s5 _ H1 _ S5 (yes rfl a na)) ?_ (fun _ _ z => False.elim z)
          intro f s6 hsp
          have last : ∀ {σ6 : L2.St} {H6 : Hp} {Q : Shared → Prop}, Inv (X.suite a ((a, oe4) :: (X.pn ++ pins))) [] σ6 H6 s6 → (∀ s7, Inv X pins (σ6.set i none) H6 s7 → Q s7) →
              wpAny (model X.prog X.w) X.A (do bindName X.env n .none; unbindBehindTheSuite X.env n p2) (fun _ s7 => Q s7) X.xe s6 := by
            intro σ6 H6 Q S6 hq
            exact gone_ok (behind S6) nd at_ lc hq
          cases f with
          | next | brk | cont =>
            obtain ⟨σ6, H6, S6, q6⟩ := hsp
            exact last S6 fun s7 J7 => ⟨_, _, J7, q6⟩
          | ret u =>
            obtain ⟨v6, σ6, H6, S6, r6, q6⟩ := hsp
            exact last S6 fun s7 J7 => ⟨_, _, _, J7, r6, q6⟩
    exact go cl wish
  refine wpAny_mono run ?_ (fun e s1 he => he)
  intro f s1 hsp
  cases f with
  | next =>
    obtain ⟨σ2, H2, J2, q⟩ := hsp
    exact wpAny_execs_nil ⟨σ2, H2, J2.ofTry ok, q⟩
  | brk | cont =>
    obtain ⟨σ2, H2, J2, q⟩ := hsp
    exact ⟨σ2, H2, J2.ofTry ok, q⟩
  | ret u =>
    obtain ⟨v, σ2, H2, J2, r, q⟩ := hsp
    exact ⟨v, σ2, H2, J2.ofTry ok, r, q⟩
end
end GB

/-! Data of any depth in the heap: what a value stands for. -/
namespace GB
open PySem PySem.Spec PyProof.Rows L2
/-- a reading that is not opened by itself -/
inductive Hold (p : Prop) : Prop where
  | mk (h : p) : Hold p
  | no (f : False) : Hold p
theorem Hold.h {p : Prop} : Hold p → p
  | .mk h => h
  | .no f => f.elim
inductive PD where
  | non | bl (b : Bool) | int (i : Int) | str (s : Str) | lst (l : List PD) | tup (l : List PD) | dct (l : List (Key × V))
/-- a value that is no object -/
def PD.ofV : V → Option PD
  | .non => some .non | .bl b => some (.bl b) | .int i => some (.int i) | .str s => some (.str s) | _ => none
def PD.ty : PD → String
  | .non => "NoneType" | .bl _ => "bool" | .int _ => "int" | .str _ => "str" | .lst _ => "list" | .tup _ => "tuple" | .dct _ => "dict"
mutual
inductive Rep (K : PySem.W.Frag) (H : Hp) : V → PD → Prop
  | non : Rep K H .non .non
  | bl (b : Bool) : Rep K H (.bl b) (.bl b)
  | int (i : Int) : Rep K H (.int i) (.int i)
  | str (s : Str) : s.length ≤ 100000 → Rep K H (.str s) (.str s)
  | lst {a : Addr} {xs : List V} {l : List PD} : l.length ≤ 100000 → SqL K H a xs → RepL K H xs l → Rep K H (.ref a) (.lst l)
  | tup {a : Addr} {xs : List V} {l : List PD} : l.length ≤ 100000 → SqT K H a xs → RepL K H xs l → Rep K H (.ref a) (.tup l)
  | dct {a : Addr} {l : List (Key × V)} : H a = some (.dK l) → (∀ p ∈ l, ∃ d, PD.ofV p.2 = some d ∧ ∀ s, d = .str s → s.length ≤ 100000) → Rep K H (.ref a) (.dct l)
inductive RepL (K : PySem.W.Frag) (H : Hp) : List V → List PD → Prop
  | nil : RepL K H [] []
  | cons {v : V} {d : PD} {vs : List V} {ds : List PD} : Rep K H v d → RepL K H vs ds → RepL K H (v :: vs) (d :: ds)
end
mutual
def PD.deep : PD → Nat
  | .lst l => PD.deepL l + 1
  | .tup l => PD.deepL l + 1
  | .dct _ => 1
  | _ => 0
def PD.deepL : List PD → Nat
  | [] => 0
  | d :: r => max (PD.deep d) (PD.deepL r)
end
section
variable {K : PySem.W.Frag} {H H' : Hp}
theorem Same.rd {a : Addr} {u : HO} (e : Same H H') (h : Rd H a u) : Rd H' a u := by
  rcases h with h | ⟨o, h⟩
  · exact .inl (e _ _ h)
  · exact .inr ⟨o, e _ _ h⟩
theorem Same.sqt {a : Addr} {xs : List V} (e : Same H H') (h : SqT K H a xs) : SqT K H' a xs := by
  rcases h with h | h
  · exact .inl (Same.rd e h)
  · exact .inr h
theorem Same.sql {a : Addr} {xs : List V} (e : Same H H') (h : SqL K H a xs) : SqL K H' a xs := by
  rcases h with h | h
  · exact .inl (Same.rd e h)
  · exact .inr h
theorem same_new {p : Addr} {o : HO} (h : H p = none) : Same H (upd H p o) := by
  intro b u e
  rw [upd_ne (ne_of_none e h)]
  exact e
mutual
theorem Rep.mono (e : Same H H') : ∀ {v : V} {d : PD}, Rep K H v d → Rep K H' v d
  | _, _, .non => .non
  | _, _, .bl b => .bl b
  | _, _, .int i => .int i
  | _, _, .str s h => .str s h
  | _, _, .lst z h r => .lst z (Same.sql e h) (RepL.mono e r)
  | _, _, .tup z h r => .tup z (Same.sqt e h) (RepL.mono e r)
  | _, _, .dct h r => .dct (e _ _ h) r
theorem RepL.mono (e : Same H H') : ∀ {vs : List V} {ds : List PD}, RepL K H vs ds → RepL K H' vs ds
  | _, _, .nil => .nil
  | _, _, .cons h r => .cons (Rep.mono e h) (RepL.mono e r)
end
theorem RepL.len : ∀ {vs : List V} {ds : List PD}, RepL K H vs ds → vs.length = ds.length
  | _, _, .nil => rfl
  | _, _, .cons _ r => by rw [List.length_cons, List.length_cons, RepL.len r]
theorem RepL.at : ∀ {vs : List V} {ds : List PD} {i : Nat} {v : V}, RepL K H vs ds → vs[i]? = some v → ∃ d, ds[i]? = some d ∧ Rep K H v d
  | _, _, _, _, .nil, h => by simp at h
  | _, _, 0, _, .cons h _, e => by
    simp at e
    subst e
    exact ⟨_, rfl, h⟩
  | _, _, i + 1, _, .cons _ r, e => by
    obtain ⟨d, h1, h2⟩ := RepL.at (i := i) r (by simpa using e)
    exact ⟨d, by simpa using h1, h2⟩
theorem RepL.get : ∀ {vs : List V} {ds : List PD} {i : Nat} {d : PD}, RepL K H vs ds → ds[i]? = some d → ∃ v, vs[i]? = some v ∧ Rep K H v d
  | _, _, _, _, .nil, h => by simp at h
  | _, _, 0, _, .cons h _, e => by
    simp at e
    subst e
    exact ⟨_, rfl, h⟩
  | _, _, i + 1, _, .cons _ r, e => by
    obtain ⟨d, h1, h2⟩ := RepL.get (i := i) r (by simpa using e)
    exact ⟨d, by simpa using h1, h2⟩
theorem RepL.snoc : ∀ {vs : List V} {ds : List PD} {v : V} {d : PD}, RepL K H vs ds → Rep K H v d → RepL K H (vs ++ [v]) (ds ++ [d])
  | _, _, _, _, .nil, h => .cons h .nil
  | _, _, _, _, .cons a r, h => .cons a (RepL.snoc r h)
theorem deepL_at : ∀ {ds : List PD} {i : Nat} {d : PD}, ds[i]? = some d → d.deep ≤ PD.deepL ds
  | [], _, _, h => by simp at h
  | x :: r, 0, d, h => by
    simp at h
    subst h
    exact Nat.le_max_left _ _
  | x :: r, i + 1, d, h => Nat.le_trans (deepL_at (i := i) (by simpa using h)) (Nat.le_max_right _ _)
theorem Rep.inv_non {v : V} (h : Rep K H v .non) : v = .non := by cases h; rfl
theorem Rep.inv_bl {v : V} {b : Bool} (h : Rep K H v (.bl b)) : v = .bl b := by cases h; rfl
theorem Rep.inv_int {v : V} {i : Int} (h : Rep K H v (.int i)) : v = .int i := by cases h; rfl
theorem Rep.inv_str {v : V} {s : Str} (h : Rep K H v (.str s)) : v = .str s ∧ s.length ≤ 100000 := by cases h; exact ⟨rfl, by assumption⟩
theorem Rep.inv_lst {v : V} {l : List PD} (h : Rep K H v (.lst l)) : ∃ a xs, v = .ref a ∧ SqL K H a xs ∧ RepL K H xs l ∧ l.length ≤ 100000 := by cases h; exact ⟨_, _, rfl, by assumption, by assumption, by assumption⟩
theorem Rep.inv_tup {v : V} {l : List PD} (h : Rep K H v (.tup l)) : ∃ a xs, v = .ref a ∧ SqT K H a xs ∧ RepL K H xs l ∧ l.length ≤ 100000 := by cases h; exact ⟨_, _, rfl, by assumption, by assumption, by assumption⟩
theorem Rep.inv_dct {v : V} {l : List (Key × V)} (h : Rep K H v (.dct l)) : ∃ a, v = .ref a ∧ H a = some (.dK l) ∧ ∀ p ∈ l, ∃ d, PD.ofV p.2 = some d ∧ ∀ s, d = .str s → s.length ≤ 100000 := by cases h; exact ⟨_, rfl, by assumption, by assumption⟩
/-- a scalar stands for itself, whatever the heap -/
theorem rep_ofV {v : V} {d : PD} (h : PD.ofV v = some d) (hs : ∀ s, d = .str s → s.length ≤ 100000) : Rep K H v d ∧ d.deep = 0 := by
  cases v <;> simp only [PD.ofV] at h <;> first | (cases h; done) | skip
  · cases h
    exact ⟨.non, rfl⟩
  · cases h
    exact ⟨.bl _, rfl⟩
  · cases h
    exact ⟨.int _, rfl⟩
  · cases h
    exact ⟨.str _ (hs _ rfl), rfl⟩
/-- a value's type -/
theorem Rep.tyx {v : V} {d : PD} (h : Rep K H v d) : TyX K H v (.type d.ty) := by
  cases h with
  | non => exact .base .non
  | bl b => exact .base (.bl b)
  | int i => exact .base (.int i)
  | str s h => exact .base (.str s)
  | lst z h r =>
    rcases h with (h | ⟨o, h⟩) | ⟨o, its, n, h, c, _⟩
    · exact .base (.lst h)
    · exact .base (.frz h)
    · exact .kList h c
  | tup z h r =>
    rcases h with (h | ⟨o, h⟩) | ⟨o, its, n, h, c, _⟩
    · exact .base (.tup h)
    · exact .fTuple h
    · exact .kTuple h c
  | dct h r =>
    exact .base (.dK h)
/-- isinstance(x, T) -/
theorem isi_of {v : V} {d : PD} {n : String} {b : Bool} {Q : VK} (r : Rep K H v d) (hb : kitB d.ty n = some b) (q : Q (.bl b) H) : rIsi K [v, .ty n] H Q :=
  ⟨v, .ty n, _, _, b, rfl, .ty n, r.tyx, kit_ty hb, q⟩
theorem isiT_of {v : V} {d : PD} {n m : String} {b c : Bool} {Q : VK} {tp : Addr} (r : Rep K H v d) (ht : H tp = some (.tup [.ty n, .ty m])) (hb : kitB d.ty n = some b) (hc : kitB d.ty m = some c) (q : Q (.bl (b || c)) H) : rIsiT K [v, .ref tp] H Q := by
  refine ⟨v, tp, _, _, [.type n, .type m], b || c, rfl, ht, .cons (.ty n) (.cons (.ty m) .nil), r.tyx, ?_, q⟩
  refine kitAny_cons (kit_ty hb) (fun e => ?_) (fun e => by rw [e] <;> rfl)
  refine kitAny_cons (kit_ty hc) (fun e2 => ?_) (fun e2 => by rw [e, e2] <;> rfl)
  rw [e, e2]
  rfl
def PD.isInt : PD → Bool
  | .int _ => true | .bl _ => true | _ => false
def PD.isBool : PD → Bool
  | .bl _ => true | _ => false
def PD.isStr : PD → Bool
  | .str _ => true | _ => false
def PD.isLst : PD → Bool
  | .lst _ => true | _ => false
def PD.isTup : PD → Bool
  | .tup _ => true | _ => false
def PD.isDct : PD → Bool
  | .dct _ => true | _ => false
def PD.isSeq : PD → Bool
  | .lst _ => true | .tup _ => true | _ => false
theorem kit_int (d : PD) : kitB d.ty "int" = some d.isInt := by cases d <;> dsimp only [PD.ty, PD.isInt, PD.isBool, PD.isStr, PD.isLst, PD.isTup, PD.isDct] <;> decide +kernel
theorem kit_bool (d : PD) : kitB d.ty "bool" = some d.isBool := by cases d <;> dsimp only [PD.ty, PD.isInt, PD.isBool, PD.isStr, PD.isLst, PD.isTup, PD.isDct] <;> decide +kernel
theorem kit_str (d : PD) : kitB d.ty "str" = some d.isStr := by cases d <;> dsimp only [PD.ty, PD.isInt, PD.isBool, PD.isStr, PD.isLst, PD.isTup, PD.isDct] <;> decide +kernel
theorem kit_lst (d : PD) : kitB d.ty "list" = some d.isLst := by cases d <;> dsimp only [PD.ty, PD.isInt, PD.isBool, PD.isStr, PD.isLst, PD.isTup, PD.isDct] <;> decide +kernel
theorem kit_tup (d : PD) : kitB d.ty "tuple" = some d.isTup := by cases d <;> dsimp only [PD.ty, PD.isInt, PD.isBool, PD.isStr, PD.isLst, PD.isTup, PD.isDct] <;> decide +kernel
theorem kit_dct (d : PD) : kitB d.ty "dict" = some d.isDct := by cases d <;> dsimp only [PD.ty, PD.isInt, PD.isBool, PD.isStr, PD.isLst, PD.isTup, PD.isDct] <;> decide +kernel
section
variable {v : V} {d : PD} {Q : VK}
theorem isi_int (r : Rep K H v d) (q : Q (.bl d.isInt) H) : Hold (rIsi K [v, .ty "int"] H Q) := .mk (isi_of r (kit_int d) q)
theorem isi_bool (r : Rep K H v d) (q : Q (.bl d.isBool) H) : Hold (rIsi K [v, .ty "bool"] H Q) := .mk (isi_of r (kit_bool d) q)
theorem isi_str (r : Rep K H v d) (q : Q (.bl d.isStr) H) : Hold (rIsi K [v, .ty "str"] H Q) := .mk (isi_of r (kit_str d) q)
theorem isi_lst (r : Rep K H v d) (q : Q (.bl d.isLst) H) : Hold (rIsi K [v, .ty "list"] H Q) := .mk (isi_of r (kit_lst d) q)
theorem isi_tup (r : Rep K H v d) (q : Q (.bl d.isTup) H) : Hold (rIsi K [v, .ty "tuple"] H Q) := .mk (isi_of r (kit_tup d) q)
theorem isi_dct (r : Rep K H v d) (q : Q (.bl d.isDct) H) : Hold (rIsi K [v, .ty "dict"] H Q) := .mk (isi_of r (kit_dct d) q)
/-- isinstance(x, (list, tuple)), the pair laid anew -/
theorem isi_seq (r : Rep K H v d) (q : ∀ H', Same H H' → Q (.bl d.isSeq) H') : ∀ p, H p = none → Hold (rIsiT K [v, .ref p] (upd H p (.tup [.ty "list", .ty "tuple"])) Q) := by
  refine fun p hp => .mk ?_
  refine isiT_of (r.mono (same_new hp)) upd_same (kit_lst d) (kit_tup d) ?_
  have e : (d.isLst || d.isTup) = d.isSeq := by cases d <;> rfl
  rw [e]
  exact q _ (same_new hp)
end
theorem if_t {c : Bool} {A B : Prop} (hc : c = true) (h : A) : if c = true then A else B := by
  rw [if_pos hc]
  exact h
theorem if_f {c : Bool} {A B : Prop} (hc : c = false) (h : B) : if c = true then A else B := by
  rw [hc, if_neg Bool.false_ne_true]
  exact h
theorem if_b {c : Bool} {A B : Prop} (h1 : c = true → A) (h2 : c = false → B) : if c = true then A else B := by
  cases c with
  | true => exact if_t rfl (h1 rfl)
  | false => exact if_f rfl (h2 rfl)
theorem eu_of {A : Around} {k : Nat} (hr : Room k A) : A.units + 64 < cLine := by
  have := hr.un
  omega
theorem eu1_of {A : Around} {k : Nat} (hr : Room k A) : A.units + 65 < cLine := by
  have := hr.un
  omega
end
end GB

/-! The layer's rules with the written part said outright, so that they serve within comprehensions. -/
namespace GB
open PySem PySem.Spec PyProof.Rows L2
section
variable {X : Cx} (K : PySem.W.Frag)
def wR (r : R2) : R2 := fun x y H Q => Hold (r x y H Q)
def wC (r : List V → Hp → VK → Prop) : List V → Hp → VK → Prop := fun xs H Q => Hold (r xs H Q)
def wS (r : V → Option Int → Option Int → Hp → VK → Prop) : V → Option Int → Option Int → Hp → VK → Prop := fun x lo hi H Q => Hold (r x lo hi H Q)
theorem IxR.w {r : R2} (h : IxR X r) : IxR X (wR r) := fun value slice pins s σ H x y v u Q I rx ry q hs => h value slice pins s σ H x y v u Q I rx ry q.h hs
theorem OpR.w {f : Value → Value → Sem Value} {r : R2} (h : OpR X f r) : OpR X f (wR r) := fun pins s σ H x y v u Q I rx ry q => h pins s σ H x y v u Q I rx ry q.h
theorem CallR.w {f : Value} {r : List V → Hp → VK → Prop} (h : CallR X f r) : CallR X f (wC r) := fun pins s σ H xs us Q I r q => h pins s σ H xs us Q I r q.h
theorem SlR.w {r : V → Option Int → Option Int → Hp → VK → Prop} (h : SlR X r) : SlR X (wS r) := fun pins s σ H x v vl vu lo hi sl Q I rx hs hl hu q => h pins s σ H x v vl vu lo hi sl Q I rx hs hl hu q.h
theorem ixL (h : X.K = K := by rfl) : IxR X (wR (rIxL K)) := IxR.w (h ▸ ix_list)
theorem ixT (h : X.K = K := by rfl) : IxR X (wR (rIxT K)) := IxR.w (h ▸ ix_tup)
theorem ixQ (h : X.K = K := by rfl) : IxR X (wR (rIx K)) := IxR.w (h ▸ ix_seq)
theorem slL (h : X.K = K := by rfl) : SlR X (wS (rSlL K)) := SlR.w (h ▸ sl_list)
theorem slT (h : X.K = K := by rfl) : SlR X (wS (rSlT K)) := SlR.w (h ▸ sl_tup)
def rLenA (K : PySem.W.Frag) : List V → Hp → VK → Prop := fun xs H Q => ∃ x n, xs = [x] ∧ (LenV K x H n ∨ ∃ a kvs, x = .ref a ∧ H a = some (.dK kvs) ∧ n = kvs.length) ∧ Q (.int n) H
theorem clLen (h : X.K = K := by rfl) : CallR X (.builtin "len") (wC (rLenA K)) := by
  subst h
  intro pins s σ H xs us Q I r q
  replace q := q.h
  obtain ⟨x, n, rfl, q | ⟨a, kvs, rfl, ha, rfl⟩, z⟩ := q
  · exact call_len pins s σ H [x] us Q I r ⟨x, n, rfl, q, z⟩
  · exact call_lenD pins s σ H _ us Q I r ⟨a, kvs, rfl, ha, z⟩
theorem clSum (hc : X.calm = true := by rfl) (h : X.K = K := by rfl) : CallR X (.builtin "sum") (wC (rSum K)) := CallR.w (h ▸ cr_sum hc)
theorem clMin (hc : X.calm = true := by rfl) (h : X.K = K := by rfl) : CallR X (.builtin "min") (wC (rMin K)) := CallR.w (h ▸ cr_min hc)
theorem clMax (hc : X.calm = true := by rfl) (h : X.K = K := by rfl) : CallR X (.builtin "max") (wC (rMax K)) := CallR.w (h ▸ cr_max hc)
theorem clAll (hc : X.calm = true := by rfl) (h : X.K = K := by rfl) : CallR X (.builtin "all") (wC (rAll K)) := CallR.w (h ▸ cr_all hc)
theorem clAny (hc : X.calm = true := by rfl) (h : X.K = K := by rfl) : CallR X (.builtin "any") (wC (rAny K)) := CallR.w (h ▸ cr_any hc)
theorem clIsi (h : X.K = K := by rfl) : CallR X (.builtin "isinstance") (wC (rIsi K)) := CallR.w (h ▸ call_isi)
theorem clIsiT (h : X.K = K := by rfl) : CallR X (.builtin "isinstance") (wC (rIsiT K)) := CallR.w (h ▸ call_isiT)
theorem opIn (h : X.K = K := by rfl) : OpR X (compareOp .In) (wR (rIn K false)) := OpR.w (h ▸ op_in_seq)
theorem opNotIn (h : X.K = K := by rfl) : OpR X (compareOp .NotIn) (wR (rIn K true)) := OpR.w (h ▸ op_notIn_seq)
theorem opEqD {k : Nat} (hr : Room k X.A) (h : X.K = K := by rfl) : OpR X (compareOp .Eq) (wR (rEqD K)) := OpR.w (h ▸ op_eqD (eu_of hr))
theorem opNeD {k : Nat} (hr : Room k X.A) (h : X.K = K := by rfl) : OpR X (compareOp .NotEq) (wR (rNeD K)) := OpR.w (h ▸ op_neD (eu_of hr))
theorem opCatA (h : X.K = K := by rfl) : OpR X (binaryOp .Add) (wR (rCatA K)) := OpR.w (h ▸ op_catA)
def rListOf (K : PySem.W.Frag) : List V → Hp → VK → Prop := fun xs H Q => ∃ p ys, xs = [.ref p] ∧ (SqL K H p ys ∨ SqT K H p ys) ∧ ∀ l, H l = none → Q (.ref l) (upd H l (.lst ys))
theorem clList (h : X.K = K := by rfl) : CallR X (.type "list") (wC (rListOf K)) := by
  subst h
  exact CallR.w call_list_of
def rTupOf (K : PySem.W.Frag) : List V → Hp → VK → Prop := fun xs H Q => ∃ p ys, xs = [.ref p] ∧ ((SqL K H p ys ∧ ∀ l, H l = none → Q (.ref l) (upd H l (.tup ys))) ∨ SqT K H p ys ∧ Q (.ref p) H)
theorem clTup (h : X.K = K := by rfl) : CallR X (.type "tuple") (wC (rTupOf K)) := by
  subst h
  exact CallR.w call_tuple_of
theorem mtIndex (h : X.K = K := by rfl) : MtR X "list.index" (rIndex K) := h ▸ mt_index
theorem piL {tg l : Expr} {tl : TE} (hp : PE X l tl) (h : X.K = K := by rfl) : PI X tg l (iList K tl) := h ▸ pi_list hp
theorem piT {tg l : Expr} {tl : TE} (hp : PE X l tl) (h : X.K = K := by rfl) : PI X tg l (iTup K tl) := h ▸ pi_tup hp
/-- a list or a tuple is walked -/
def iSeq (K : PySem.W.Frag) (tl : TE) : TI := fun σ H R => Hold (iList K tl σ H R ∨ iTup K tl σ H R)
theorem piQ {tg l : Expr} {tl : TE} (hp : PE X l tl) (h : X.K = K := by rfl) : PI X tg l (iSeq K tl) := by
  subst h
  exact ⟨fun pins s σ H R I q => by
    rcases q.h with q | q
    · exact (pi_list hp).run pins s σ H R I q
    · exact (pi_tup hp).run pins s σ H R I q⟩
theorem piEnum {e : Expr} {ta : TA} {p pos tpos : Pos} {elts : List Expr} {kk : Nat} (hg : Gl X "enumerate") (hm : X.mg "enumerate" = none) (ha : PA X [e] ta) (he : starEach [e] X.env = [(false, eval e X.env)] := by rfl) (h : X.K = K := by rfl) :
    PI X (.Tuple elts kk tpos) (.Call (.Name "enumerate" p) [e] [] pos) (iEnum K ta) := h ▸ pi_enum hg hm ha he
theorem piZip {e e2 : Expr} {ta : TA} {p pos tpos : Pos} {elts : List Expr} {kk : Nat} (hg : Gl X "zip") (hm : X.mg "zip" = none) (ha : PA X [e, e2] ta) (he : starEach [e, e2] X.env = (false, eval e X.env) :: starEach [e2] X.env := by rfl)
    (hpl : (backTo pos (starEach [e2] X.env)).any (·.1) = false := by rfl) (h : X.K = K := by rfl) : PI X (.Tuple elts kk tpos) (.Call (.Name "zip" p) [e, e2] [] pos) (iZip K ta) := h ▸ pi_zip hg hm ha he hpl
theorem pgTup {pos : Pos} {es : List Expr} {k : Nat} {t : TGs} {n : Nat} (hc : X.calm = true) (hs : PGs X es t) (hn : (assignEach es X.env).length = n := by rfl) (hp : (assignEach es X.env).findIdx? (·.1) = none := by rfl) (h : X.K = K := by rfl) :
    PG X (.Tuple es k pos) (gTup K n t) := h ▸ pg_tup hc hs hn hp
def tTruth (K : PySem.W.Frag) (ta : TE) : TT := fun σ H Q => ta σ H fun x H' => ∃ k, TruV K x H' k ∧ Q k H'
theorem ptTruth {a : Expr} {ta : TE} (ha : PE X a ta) (ht : ∀ whole : Sem Value, isTrue a X.env whole = (do let v ← whole; standAt a.pos; holding [v] (truthy v)) := by intro _; rfl) (h : X.K = K := by rfl) : PT X a (tTruth K ta) := by
  subst h
  exact pt_truth ha ht
/-! ### the readings' answers -/
section
variable {K : PySem.W.Frag} {H : Hp} {Q : VK}
theorem len_l {a : Addr} {xs : List V} (h : SqL K H a xs) (q : Q (.int xs.length) H) : Hold (rLenA K [.ref a] H Q) := .mk ⟨_, _, rfl, .inl (.inl ⟨_, h, rfl⟩), q⟩
theorem len_t {a : Addr} {xs : List V} (h : SqT K H a xs) (q : Q (.int xs.length) H) : Hold (rLenA K [.ref a] H Q) := .mk ⟨_, _, rfl, .inl (.inr ⟨_, h, rfl⟩), q⟩
theorem len_s {z : Str} (h : z.length ≤ sizeLine) (q : Q (.int z.length) H) : Hold (rLenA K [.str z] H Q) := .mk ⟨_, _, rfl, .inl ⟨h, rfl⟩, q⟩
theorem len_d {a : Addr} {kvs : List (Key × V)} (h : H a = some (.dK kvs)) (q : Q (.int kvs.length) H) : Hold (rLenA K [.ref a] H Q) := .mk ⟨_, _, rfl, .inr ⟨_, _, rfl, h, rfl⟩, q⟩
theorem atI_ok {α : Type} {xs : List α} {i : Int} {v : α} (h0 : 0 ≤ i) (h : xs[i.toNat]? = some v) : atI xs i = some v := by
  have lt : i.toNat < xs.length := (List.getElem?_eq_some_iff.mp h).1
  unfold atI ixN
  rw [if_pos h0, if_pos (by omega)]
  exact h
theorem ix_l {a : Addr} {xs : List V} {i : Int} {v : V} (h : SqL K H a xs) (hv : atI xs i = some v) (q : Q v H) : Hold (rIxL K (.ref a) (.int i) H Q) := .mk ⟨_, _, _, _, rfl, rfl, h, hv, q⟩
theorem ix_t {a : Addr} {xs : List V} {i : Int} {v : V} (h : SqT K H a xs) (hv : atI xs i = some v) (q : Q v H) : Hold (rIxT K (.ref a) (.int i) H Q) := .mk ⟨_, _, _, _, rfl, rfl, h, hv, q⟩
theorem ixq_l {a : Addr} {xs : List V} {i : Int} {v : V} (h : SqL K H a xs) (hv : atI xs i = some v) (q : Q v H) : Hold (rIx K (.ref a) (.int i) H Q) := .mk (.inl ⟨_, _, _, _, rfl, rfl, h, hv, q⟩)
theorem ixq_t {a : Addr} {xs : List V} {i : Int} {v : V} (h : SqT K H a xs) (hv : atI xs i = some v) (q : Q v H) : Hold (rIx K (.ref a) (.int i) H Q) := .mk (.inr (.inl ⟨_, _, _, _, rfl, rfl, h, hv, q⟩))
theorem ixq_s {z : Str} {i : Int} {c : Nat} (hl : z.length ≤ sizeLine) (hv : atI z.cps.toList i = some c) (q : Q (.str ⟨#[c]⟩) H) : Hold (rIx K (.str z) (.int i) H Q) := .mk (.inr (.inr ⟨_, _, _, rfl, rfl, hl, hv, q⟩))
theorem sl_l {a : Addr} {xs : List V} {lo hi : Option Int} (h : SqL K H a xs) (q : ∀ p, H p = none → Q (.ref p) (upd H p (.lst (cutV xs lo hi)))) : Hold (rSlL K (.ref a) lo hi H Q) := .mk ⟨_, _, rfl, h, q⟩
theorem sum_l {a : Addr} {ns : List Int} (h : SqL K H a (ns.map V.int)) (q : Q (.int ns.sum) H) : Hold (rSum K [.ref a] H Q) := .mk ⟨_, _, rfl, h, q⟩
theorem min_l {a : Addr} {ns : List Int} (h : SqL K H a (ns.map V.int)) (h0 : 0 < ns.length) (q : ∀ m, m ∈ ns → (∀ y, y ∈ ns → m ≤ y) → Q (.int m) H) : Hold (rMin K [.ref a] H Q) := .mk ⟨_, _, rfl, h, h0, q⟩
theorem all_l {a : Addr} {bs : List Bool} (h : SqL K H a (bs.map V.bl)) (q : Q (.bl (bs.all id)) H) : Hold (rAll K [.ref a] H Q) := .mk ⟨_, _, rfl, h, q⟩
theorem sz (n : Nat) (h : n ≤ 100000) : n ≤ sizeLine := Nat.le_trans h (by rw [sizeLine_eq]; decide)
theorem szl (n : Nat) (h : n < 100000) : n < sizeLine := Nat.lt_of_lt_of_le h (by rw [sizeLine_eq]; decide)
/-- two empty lists are equal -/
theorem eq_nil {a b : Addr} (ha : SqL K H a []) (hb : SqL K H b []) (q : Q (.bl true) H) : Hold (rEqD K (.ref a) (.ref b) H Q) := .mk ⟨.list [], .list [], .lst ha .nil, .lst hb .nil, rfl, rfl, q⟩
theorem sl_s {z : Str} {lo hi : Option Int} (hz : z.length ≤ sizeLine) (q : Q (.str (cutS z lo hi)) H) : rSlS (.str z) lo hi H Q := ⟨z, rfl, hz, q⟩
/-- one sign cut out -/
theorem cut_one {z : Str} {i : Nat} {c : Nat} (h : z.cps.toList[i]? = some c) : cutS z (some (i : Int)) (some ((i : Int) + 1)) = ⟨#[c]⟩ := by
  have lt : i < z.cps.toList.length := (List.getElem?_eq_some_iff.mp h).1
  have ev := (List.getElem?_eq_some_iff.mp h).2
  have l2 : z.length = z.cps.toList.length := by show z.cps.size = _; rw [Array.length_toList]
  unfold cutS
  have e1 : ((i : Int) + 1) = ((i + 1 : Nat) : Int) := by omega
  rw [e1, HT.sIx_nat, HT.sIx_nat, l2, Nat.min_eq_left (by omega), Nat.min_eq_left (by omega), Nat.add_sub_cancel_left]
  have e2 : List.take 1 (List.drop i z.cps.toList) = [c] := by
    rw [List.drop_eq_getElem_cons lt, List.take_succ_cons, List.take_zero, ev]
  rw [e2]
end
def tJoin (K : PySem.W.Frag) (to te : TE) : TE := tM1 (fun x xs H Q => ∃ a p ys, x = .str a ∧ xs = [.ref p] ∧ (SqL K H p (ys.map V.str) ∨ SqT K H p (ys.map V.str)) ∧ (ys.map (·.length)).sum + ys.length * a.length ≤ 16777216 ∧ Q (.str (Txt.join a ys)) H) to te
end
end GB

/-! Error classes of the program whose __init__ keeps its arguments. -/
namespace GB
open PySem PySem.Spec PyProof.Rows L2
/-- C.__init__(self, ..) of such a class: each argument is kept under the name of its parameter -/
def spInit (C : Addr) (fl : List Str) : Sp := fun vs H Q _ => ∃ (a : Addr) (ws : List V), vs = .ref a :: ws ∧ ws.length = fl.length ∧ H a = some (exo a C none) ∧
  ∀ (H' : Hp) (d : Addr), (∀ b, b ≠ a → b ≠ d → H' b = H b) → H d = none → d ≠ a → H' a = some (exo a C (some d)) → H' d = some (exd d (fl.zip ws).reverse) → Q .non H'
structure Er (P : Program) (w : World) (K : PySem.W.Frag) (mg : Str → Option Value) (base : Heap) (x : Str) (C : Addr) (fl : List Str) : Prop where
  oex : OexC K C
  ini : ∃ (fI : Addr) (fd : FuncData), PySem.W.findIn K (.ref C) "__init__" = some (some (.ref fI)) ∧ PySem.W.typeIn K (.ref fI) = some (.type "function") ∧ FnOk P w K mg base (L2.CX P w) 1 fI fd ("self" :: fl) (spInit C fl) ∧ Binds K fd ("self" :: fl) []
  gm : mg x = some (.ref C)
  xf : XfC K C
  no : ∀ f ∈ fl, PySem.W.findIn K (.ref C) f = some none
  few : fl.length ≤ 10
/-- raise X(e, ..) -/
def tRaiseEr (C : Addr) (fl : List Str) (W : WX) (ta : TA) : TS := fun _ σ H => ta σ H fun vs H1 => vs.length = fl.length ∧ ∀ (d : Addr) (H' : Hp), Same H1 H' → H1 d = none → H' d = some (.xd (fl.zip vs).reverse) → W (.ref C) (some d) σ H'
section
variable {X : Cx} {x : Str} {C : Addr} {fl : List Str} {k : Nat} {e : Expr} {es : List Expr} {ta : TA} {W : WX} {p pos pos2 : Pos}
/-- how the arguments' reading goes on -/
def MonoA (t : TA) : Prop := ∀ σ H (Q Q' : List V → Hp → Prop), (∀ vs H1, Q vs H1 → Q' vs H1) → t σ H Q → t σ H Q'
theorem ps_raiseEr (hc : X.calm = true) (T : Er X.prog X.w X.K X.mg X.base x C fl) (hr : Room 2 X.A) (tk : Takes X W) (ha : PA X (e :: es) ta) (hm : MonoA ta) (hg : Gl X x := by rfl) (hdb : (x == ("__debug__" : Str)) = false := by decide)
    (he : starEach (e :: es) X.env = (false, eval e X.env) :: starEach es X.env := by rfl) (hpl : (backTo pos (starEach es X.env)).any (·.1) = false := by rfl) :
    PS X (.Raise (some (.Call (.Name x p) (e :: es) [] pos)) none pos2) (tRaiseEr C fl W ta) := by
  obtain ⟨fI, fd, iC, tI, F, b⟩ := T.ini
  have base := ps_raise (pos := pos2) hc tk (pmk_oex (pos := pos) (p := p) T.oex iC tI F hr b .nil passL hg T.gm ha hdb he hpl)
  refine ⟨fun pins s σ H D I h => ?_⟩
  refine base.run pins s σ H D I ?_
  refine hm σ H _ _ ?_ h
  rintro vs H1 ⟨ln, q⟩
  refine ⟨by rw [ln]; exact Nat.le_trans T.few (by decide), fun a na => ?_⟩
  refine ⟨a, vs, by rw [List.append_nil], ln, upd_same, ?_⟩
  intro H' d off nd da ea ed
  have nd1 : H1 d = none := by rw [upd_ne da] at nd; exact nd
  refine ⟨rfl, d, _, ea, ed, nd1, q d _ ?_ nd1 upd_same⟩
  intro c o ec
  have ca : c ≠ a := ne_of_none ec na
  have cd : c ≠ d := ne_of_none ec nd1
  rw [upd_ne cd, del_ne ca, off c ca cd, upd_ne ca]
  exact ec
end
/-- the value said otherwise -/
theorem vsub {Q : V → Hp → Prop} {v v' : V} {H : Hp} (e : v = v') (q : Q v' H) : Q v H := by
  subst e
  exact q
/-- a number, a text of the module's top -/
theorem pe_globI {X : Cx} {x : Str} {i : Int} {pos : Pos} (h : ∃ t, X.mg x = some (.int i t)) (hg : Gl X x := by rfl) (hd : (x == ("__debug__" : Str)) = false := by decide) : PE X (.Name x pos) (tC (.int i)) := by
  obtain ⟨t, h⟩ := h
  exact pe_glob hg h ⟨t, rfl⟩ hd
theorem pe_globS {X : Cx} {x z : Str} {pos : Pos} (h : ∃ t, X.mg x = some (.str z t)) (hg : Gl X x := by rfl) (hd : (x == ("__debug__" : Str)) = false := by decide) : PE X (.Name x pos) (tC (.str z)) := by
  obtain ⟨t, h⟩ := h
  exact pe_glob hg h ⟨t, rfl⟩ hd
theorem pe_globR {X : Cx} {x : Str} {a : Addr} {pos : Pos} (h : X.mg x = some (.ref a)) (hg : Gl X x := by rfl) (hd : (x == ("__debug__" : Str)) = false := by decide) : PE X (.Name x pos) (tC (.ref a)) := pe_glob hg h rfl hd
/-! the reading of arguments goes on -/
def MonoE (t : TE) : Prop := ∀ σ H (Q Q' : VK), (∀ v H1, Q v H1 → Q' v H1) → t σ H Q → t σ H Q'
theorem monoA_nil : MonoA tNil := fun _ _ _ _ i q => i _ _ q
theorem monoA_cons {t : TE} {ts : TA} (h : MonoE t) (hs : MonoA ts) : MonoA (tCons t ts) := by
  intro σ H Q Q' i q
  refine h σ H _ _ ?_ q
  intro v H1 q1
  exact hs σ H1 _ _ (fun vs H2 q2 => i _ _ q2) q1
theorem monoE_var {i : Nat} : MonoE (tVar i) := by
  rintro σ H Q Q' h ⟨v, e, q⟩
  exact ⟨v, e, h _ _ q⟩
theorem monoE_c {v : V} : MonoE (tC v) := fun _ _ _ _ h q => h _ _ q
theorem monoE_I0 {g : Int → Int → V} {a b : TE} (ha : MonoE a) (hb : MonoE b) : MonoE (tOp (rI0 g) a b) := by
  intro σ H Q Q' h q
  refine ha σ H _ _ ?_ q
  intro x H1 q1
  refine hb σ H1 _ _ ?_ q1
  rintro y H2 ⟨i, j, rfl, rfl, q2⟩
  exact ⟨i, j, rfl, rfl, h _ _ q2⟩
/-- the class of an except clause is just that of the error, or not -/
theorem exm_pair {K : PySem.W.Frag} {S C : Addr} {b : Bool} (h1 : PySem.W.subIn K (.ref C) (.type "BaseException") = some true) (h2 : PySem.W.isClsIn K C = true) (h3 : PySem.W.typeIn K (.ref C) = some (.type "type")) (h4 : PySem.W.subIn K (.ref S) (.ref C) = some b) :
    PySem.W.exmOne K (.ref S) (.ref C) = some b := by
  have e1 : (PySem.W.subIn K (.ref C) (.type "BaseException") == some true) = true := by rw [h1] <;> rfl
  have h2' : (PySem.W.clsIn K C).isSome = true := h2
  have e2 : ((PySem.W.clsIn K C).isSome && PySem.W.typeIn K (.ref C) == some (.type "type")) = true := by rw [h2', h3] <;> rfl
  show (if (PySem.W.subIn K (.ref C) (.type "BaseException") == some true) = true then (if ((PySem.W.clsIn K C).isSome && PySem.W.typeIn K (.ref C) == some (.type "type")) = true then PySem.W.subIn K (.ref S) (.ref C) else none) else none) = some b
  rw [if_pos e1, if_pos e2, h4]
end GB

/-! zip of two rows, each a list or a tuple. -/
namespace GB
open PySem PySem.Spec PyProof.Rows L2
inductive Rw where | lst | tup
def Rw.Is : Rw → Heap → Addr → Array Value → Prop
  | .lst, h, l, xs => h.IsList l xs | .tup, h, l, xs => h.IsTuple l xs
def Rw.It : Rw → Heap → Addr → Addr → Nat → Prop
  | .lst, h, i, l, n => h.IsListIter i l n | .tup, h, i, l, n => h.IsTupleIter i l n
def Rw.obj : Rw → Addr → Obj
  | .lst, l => { cls := .type "list_iterator", data := .fields #[.ref l, .int 0 0] } | .tup, l => { cls := .type "tuple_iterator", data := .fields #[.ref l, .int 0 0] }
section
variable {r : Rw} {h h' : Heap} {l i b : Addr} {xs : Array Value} {n : Nat}
theorem Rw.Is.ext (x : r.Is h l xs) (e : Heap.ExtBut b h h') (n : l ≠ b) : r.Is h' l xs := by cases r <;> exact Exists.imp (fun o q => ⟨e l o n q.1, q.2⟩) x
theorem Rw.It.ext (x : r.It h i l n) (e : Heap.ExtBut b h h') (d : i ≠ b) : r.It h' i l n := by cases r <;> exact Exists.imp (fun o q => ⟨e i o d q.1, q.2⟩) x
theorem Rw.It.at_ (x : r.It h i l n) (e : ∀ o, h.get? i = some o → h'.get? i = some o) : r.It h' i l n := by cases r <;> exact Exists.imp (fun o q => ⟨e o q.1, q.2⟩) x
theorem Rw.Is.push (x : r.Is h l xs) (o : Obj) : r.Is (h.push o) l xs := by
  cases r
  · exact Heap.IsList.push x o
  · exact Heap.IsTuple.push x o
theorem Rw.Is.lt (x : r.Is h l xs) : l < h.objs.size := by cases r <;> (obtain ⟨o, q, _⟩ := x; exact Heap.lt_size q)
theorem Rw.It.lt (x : r.It h i l n) : i < h.objs.size := by cases r <;> (obtain ⟨o, q, _⟩ := x; exact Heap.lt_size q)
theorem Rw.It.nofrz (x : r.It h i l n) : ∃ o, h.get? i = some o ∧ ∀ v, o.data = .fields v → v = #[.ref l, .int n 0] := by
  cases r <;> (obtain ⟨o, q, _, d⟩ := x; exact ⟨o, q, fun v e => by rw [d] at e; cases e; rfl⟩)
theorem Rw.obj_it (e : h.get? i = some (r.obj l)) : r.It h i l 0 := by cases r <;> exact ⟨_, e, rfl, rfl⟩
end
section
variable {prog : Program} {w : World} {A : Around} {E : Value → Shared → Prop} {s : Shared}
theorem Rw.more {r : Rw} {i l : Addr} {n : Nat} {xs : Array Value} {x : Value} {Q : Value → Shared → Prop} (a : r.It s.heap i l n) (b : r.Is s.heap l xs) (c : xs[n]? = some x)
    (q : ∀ h', r.It h' i l (n + 1) → Heap.SameBut i s.heap h' → Q x { s with heap := h' }) : wpAny (model prog w) A (Builtin.SmallTypes.nextOf (.ref i)) Q E s := by
  cases r
  · exact wpAny_nextOf_list_item a b c q
  · exact RZ.nextOf_tuple_item a b c q
theorem Rw.over {r : Rw} {i l : Addr} {n : Nat} {xs : Array Value} {Q : Value → Shared → Prop} (calm : A.handled = none) (a : r.It s.heap i l n) (b : r.Is s.heap l xs) (c : xs[n]? = none)
    (q : ∀ h' e, Heap.ExtBut i s.heap h' → (∃ o, h'.get? e = some o ∧ o.cls = .type "StopIteration") → E (.ref e) { s with heap := h' }) : wpAny (model prog w) A (Builtin.SmallTypes.nextOf (.ref i)) Q E s := by
  cases r
  · exact wpAny_nextOf_list_end calm a b c q
  · exact RZ.nextOf_tuple_end calm a b c q
theorem Rw.iter {r : Rw} {l : Addr} {xs : Array Value} {Q : Value → Shared → Prop} (b : r.Is s.heap l xs) (q : Q (.ref s.heap.objs.size) { s with heap := s.heap.push (r.obj l) }) : wpAny (model prog w) A (pyIter (.ref l)) Q E s := by
  cases r
  · exact wpAny_pyIter_list b q
  · exact wpAny_pyIter_tuple b q
/-- what a turn leaves as it was: all but the zip, its store of a pair, its two iterators -/
def Kept4 (z t i j : Addr) (h h' : Heap) : Prop := ∀ c o, c ≠ z → c ≠ t → c ≠ i → c ≠ j → h.get? c = some o → h'.get? c = some o
theorem zipM_next {r1 r2 : Rw} {z TI TO i j l m : Addr} {p q : Nat} {xs ys : Array Value} {x y a b : Value} {Q : Value → Shared → Prop} (D : ZipApart z TI TO i j l m)
    (qz : IsZip s.heap z TI TO .none) (qI : IsPair s.heap TI (.ref i) (.ref j)) (qO : IsPair s.heap TO a b) (u1 : r1.It s.heap i l p) (u2 : r2.It s.heap j m q) (v1 : r1.Is s.heap l xs) (v2 : r2.Is s.heap m ys) (ex : xs[p]? = some x) (ey : ys[q]? = some y)
    (done : ∀ h', IsZip h' z TI TO (rawInt s.heap.objs.size) → IsPair h' TO x y → r1.It h' i l (p + 1) → r2.It h' j m (q + 1) → IsPair h' s.heap.objs.size x y → h'.objs.size = s.heap.objs.size + 1 → Kept4 z TO i j s.heap h' → Q (.ref s.heap.objs.size) { s with heap := h' }) :
    wpAny (model prog w) A (Builtin.«zip.__next__» ⟨[.ref z], []⟩) (fun fin s' => ∃ v, fin = .done (.ret v) ∧ Q v s') E s := by
  show wpAny _ _ (field (.ref z) 2 >>= _) _ _ s
  refine wpAny_bind (wpAny_field qz rfl (x := .bool false) rfl ?_); show wpAny _ _ (field (.ref z) 3 >>= _) _ _ _
  refine wpAny_bind (wpAny_field qz rfl (x := .ref TI) rfl ?_); refine wpAny_bind (wpAny_seqItems qI rfl ?_)
  show wpAny _ _ (Builtin.SmallTypes.ownedTupleIsFree (.ref z) >>= _) _ _ s; refine wpAny_bind ?_; unfold Builtin.SmallTypes.ownedTupleIsFree
  refine wpAny_bind (wpAny_field qz rfl (x := .none) rfl (wpAny_pure ?_)); simp only [if_true]
  refine wpAny_bind (wpAny_rule ?_); refine wpAny_bind (wpAny_field qz rfl (x := .ref TO) rfl ?_)
  refine wpAny_bind (wpAny_setField_rec qz (by simp) fun g1 z1 k1 => ?_)
  replace z1 : IsZip g1 z TI TO .ellipsis := z1
  refine wpAny_bind ?_; simp only [List.zipIdx_cons, List.zipIdx_nil, List.forIn_cons, List.forIn_nil]
  refine wpAny_bind (wpAny_bind (wpAny_onRaise ?_)); show wpAny _ _ (Builtin.SmallTypes.nextOf (.ref i) >>= _) _ _ _
  refine wpAny_bind (Rw.more (u1.ext k1.extBut D.i1z) (v1.ext k1.extBut D.l1z) ex fun g2 w1 k2 => wpAny_pure ?_)
  have o2 : IsPair g2 TO a b := k2.extBut _ _ D.TOi1 (k1.extBut _ _ D.TOz qO)
  refine wpAny_bind (wpAny_seqItems o2 rfl ?_); refine wpAny_bind (wpAny_updateSeq_pair o2 fun g3 o3 k3 => ?_)
  replace o3 : IsPair g3 TO x b := o3
  refine wpAny_bind (wpAny_letGo (wpAny_pure ?_)); refine wpAny_bind (wpAny_bind (wpAny_onRaise ?_))
  show wpAny _ _ (Builtin.SmallTypes.nextOf (.ref j) >>= _) _ _ _
  refine wpAny_bind (Rw.more (((u2.ext k1.extBut D.i2z).ext k2.extBut D.i12.symm).ext k3.extBut D.TOi2.symm) (((v2.ext k1.extBut D.l2z).ext k2.extBut D.l2i1).ext k3.extBut D.l2TO) ey fun g4 w2 k4 => wpAny_pure ?_)
  have o4 : IsPair g4 TO x b := k4.extBut _ _ D.TOi2 o3
  refine wpAny_bind (wpAny_seqItems o4 rfl ?_); refine wpAny_bind (wpAny_updateSeq_pair o4 fun g5 o5 k5 => ?_)
  replace o5 : IsPair g5 TO x y := o5
  refine wpAny_bind (wpAny_letGo (wpAny_pure (wpAny_pure ?_))); refine wpAny_bind (wpAny_seqItems o5 rfl ?_)
  refine wpAny_bind (wpAny_newTuple ?_)
  have size5 : g5.objs.size = s.heap.objs.size := (k5.1.trans (k4.1.trans (k3.1.trans (k2.1.trans k1.1))))
  have z5 : IsZip g5 z TI TO .ellipsis := k5.extBut _ _ D.TOz.symm (k4.extBut _ _ D.i2z.symm (k3.extBut _ _ D.TOz.symm (k2.extBut _ _ D.i1z.symm z1)))
  have kept : Kept4 z TO i j s.heap g5 := fun c o c1 c2 c3 c4 e => k5.extBut _ _ c2 (k4.extBut _ _ c4 (k3.extBut _ _ c2 (k2.extBut _ _ c3 (k1.extBut _ _ c1 e))))
  have n1 : r1.It g5 i l (p + 1) := ((w1.ext k3.extBut D.TOi1.symm).ext k4.extBut D.i12).ext k5.extBut D.TOi1.symm
  have n2 : r2.It g5 j m (q + 1) := w2.ext k5.extBut D.TOi2.symm
  have zl : z < g5.objs.size := Heap.lt_size z5
  show wpAny _ _ (Builtin.SmallTypes.ownedTupleHandOut (.ref z) (.ref g5.objs.size) >>= _) _ _ _
  refine wpAny_bind ?_; unfold Builtin.SmallTypes.ownedTupleHandOut
  have z6 : IsZip (g5.push { cls := .type "tuple", data := .seq #[x, y] }) z TI TO .ellipsis := Heap.get?_push_of_some _ z5
  refine wpAny_bind (wpAny_setField_rec z6 (by simp) fun g7 z7 k7 => ?_)
  replace z7 : IsZip g7 z TI TO (rawInt g5.objs.size) := z7
  refine wpAny_setField_rec z7 (by simp) fun g8 z8 k8 => ?_
  replace z8 : IsZip g8 z TI TO (rawInt g5.objs.size) := z8
  have up : ∀ c o, c ≠ z → g5.get? c = some o → g8.get? c = some o := fun c o c1 e => k8.extBut _ _ c1 (k7.extBut _ _ c1 (Heap.get?_push_of_some _ e))
  have t8 : IsPair g8 g5.objs.size x y := k8.extBut _ _ (Nat.ne_of_gt zl) (k7.extBut _ _ (Nat.ne_of_gt zl) (Heap.get?_push_size _ rfl))
  have size8 : g8.objs.size = g5.objs.size + 1 := k8.1.trans (k7.1.trans (Heap.size_push ..))
  rw [size5] at z8 t8 size8
  refine wpAny_pure ⟨_, rfl, ?_⟩; show Q (.ref g5.objs.size) _; rw [size5]
  exact done g8 z8 (up _ _ D.TOz o5) (n1.at_ fun o e => up _ o D.i1z e) (n2.at_ fun o e => up _ o D.i2z e) t8 size8 fun c o c1 c2 c3 c4 e => up c o c1 (kept c o c1 c2 c3 c4 e)
theorem zipM_over {r1 r2 : Rw} {z TI TO i j l m : Addr} {p q : Nat} {xs ys : Array Value} {a b : Value} {Q : Fin → Shared → Prop} (calm : A.handled = none) (D : ZipApart z TI TO i j l m)
    (qz : IsZip s.heap z TI TO .none) (qI : IsPair s.heap TI (.ref i) (.ref j)) (qO : IsPair s.heap TO a b) (u1 : r1.It s.heap i l p) (u2 : r2.It s.heap j m q) (v1 : r1.Is s.heap l xs) (v2 : r2.Is s.heap m ys) (en : xs[p]? = none ∨ ys[q]? = none)
    (done : ∀ h' e, Kept4 z TO i j s.heap h' → (∃ o, h'.get? e = some o ∧ o.cls = .type "StopIteration") → E (.ref e) { s with heap := h' }) : wpAny (model prog w) A (Builtin.«zip.__next__» ⟨[.ref z], []⟩) Q E s := by
  show wpAny _ _ (field (.ref z) 2 >>= _) _ _ s
  refine wpAny_bind (wpAny_field qz rfl (x := .bool false) rfl ?_); show wpAny _ _ (field (.ref z) 3 >>= _) _ _ _
  refine wpAny_bind (wpAny_field qz rfl (x := .ref TI) rfl ?_); refine wpAny_bind (wpAny_seqItems qI rfl ?_)
  show wpAny _ _ (Builtin.SmallTypes.ownedTupleIsFree (.ref z) >>= _) _ _ s; refine wpAny_bind ?_; unfold Builtin.SmallTypes.ownedTupleIsFree
  refine wpAny_bind (wpAny_field qz rfl (x := .none) rfl (wpAny_pure ?_)); simp only [if_true]
  refine wpAny_bind (wpAny_rule ?_); refine wpAny_bind (wpAny_field qz rfl (x := .ref TO) rfl ?_)
  refine wpAny_bind (wpAny_setField_rec qz (by simp) fun g1 z1 k1 => ?_)
  replace z1 : IsZip g1 z TI TO .ellipsis := z1
  refine wpAny_bind ?_; simp only [List.zipIdx_cons, List.zipIdx_nil, List.forIn_cons, List.forIn_nil]
  refine wpAny_bind (wpAny_bind (wpAny_onRaise ?_)); show wpAny _ _ (Builtin.SmallTypes.nextOf (.ref i) >>= _) _ _ _
  cases ex : xs[p]? with
  | none =>
    refine wpAny_bind (Rw.over calm (u1.ext k1.extBut D.i1z) (v1.ext k1.extBut D.l1z) ex fun g2 e k2 he => ?_)
    obtain ⟨oe, hoe, hce⟩ := he
    have z2 : IsZip g2 z TI TO .ellipsis := k2 _ _ D.i1z.symm z1
    have nez : e ≠ z := fun x => by subst x; rw [z2] at hoe; cases hoe; simp at hce
    refine wpAny_setField_rec z2 (by simp) fun g3 _ k3 => done g3 e (fun c o c1 _ c3 _ x => k3.extBut _ _ c1 (k2 _ _ c3 (k1.extBut _ _ c1 x))) ⟨oe, k3.extBut _ _ nez hoe, hce⟩
  | some x =>
    have ey : ys[q]? = none := en.resolve_left fun h => by rw [ex] at h; cases h
    refine wpAny_bind (Rw.more (u1.ext k1.extBut D.i1z) (v1.ext k1.extBut D.l1z) ex fun g2 w1 k2 => wpAny_pure ?_)
    have o2 : IsPair g2 TO a b := k2.extBut _ _ D.TOi1 (k1.extBut _ _ D.TOz qO)
    refine wpAny_bind (wpAny_seqItems o2 rfl ?_); refine wpAny_bind (wpAny_updateSeq_pair o2 fun g3 o3 k3 => ?_)
    refine wpAny_bind (wpAny_letGo (wpAny_pure ?_)); refine wpAny_bind (wpAny_bind (wpAny_onRaise ?_))
    show wpAny _ _ (Builtin.SmallTypes.nextOf (.ref j) >>= _) _ _ _
    refine wpAny_bind (Rw.over calm (((u2.ext k1.extBut D.i2z).ext k2.extBut D.i12.symm).ext k3.extBut D.TOi2.symm) (((v2.ext k1.extBut D.l2z).ext k2.extBut D.l2i1).ext k3.extBut D.l2TO) ey fun g4 e k4 he => ?_)
    obtain ⟨oe, hoe, hce⟩ := he
    have z4 : IsZip g4 z TI TO .ellipsis := k4 _ _ D.i2z.symm (k3.extBut _ _ D.TOz.symm (k2.extBut _ _ D.i1z.symm z1))
    have nez : e ≠ z := fun x => by subst x; rw [z4] at hoe; cases hoe; simp at hce
    refine wpAny_setField_rec z4 (by simp) fun g5 _ k5 => done g5 e (fun c o c1 c2 c3 c4 x => k5.extBut _ _ c1 (k4 _ _ c4 (k3.extBut _ _ c2 (k2.extBut _ _ c3 (k1.extBut _ _ c1 x))))) ⟨oe, k5.extBut _ _ nez hoe, hce⟩
theorem pyNext_zipM {r1 r2 : Rw} {z TI TO i j l m : Addr} {p q : Nat} {xs ys : Array Value} {x y a b : Value} {Q : Option Value → Shared → Prop} (D : ZipApart z TI TO i j l m)
    (qz : IsZip s.heap z TI TO .none) (qI : IsPair s.heap TI (.ref i) (.ref j)) (qO : IsPair s.heap TO a b) (u1 : r1.It s.heap i l p) (u2 : r2.It s.heap j m q) (v1 : r1.Is s.heap l xs) (v2 : r2.Is s.heap m ys) (ex : xs[p]? = some x) (ey : ys[q]? = some y)
    (done : ∀ h', IsZip h' z TI TO (rawInt s.heap.objs.size) → IsPair h' TO x y → r1.It h' i l (p + 1) → r2.It h' j m (q + 1) → IsPair h' s.heap.objs.size x y → h'.objs.size = s.heap.objs.size + 1 → Kept4 z TO i j s.heap h' → Q (some (.ref s.heap.objs.size)) { s with heap := h' }) :
    wpAny (model prog w) A (pyNext (.ref z)) Q E s := by
  have ty : s.TypeIs (.ref z) "zip" := ⟨_, qz, rfl⟩
  unfold pyNext
  exact wpAny_bind (wpAny_attempt (wpAny_callSpecial?_slot (name := Str.ofString "__next__") ty F.slot_zip_next (wpAny_call_entry F.slot_zip_next ty F.entry_zip_next
      (zipM_next D qz qI qO u1 u2 v1 v2 ex ey fun h' b1 b2 b3 b4 b5 b6 b7 => wpAny_pure (done h' b1 b2 b3 b4 b5 b6 b7)) (F.args_zip_next_1 _))))
theorem pyNext_zipM_over {r1 r2 : Rw} {z TI TO i j l m : Addr} {p q : Nat} {xs ys : Array Value} {a b : Value} {Q : Option Value → Shared → Prop} (calm : A.handled = none) (D : ZipApart z TI TO i j l m)
    (qz : IsZip s.heap z TI TO .none) (qI : IsPair s.heap TI (.ref i) (.ref j)) (qO : IsPair s.heap TO a b) (u1 : r1.It s.heap i l p) (u2 : r2.It s.heap j m q) (v1 : r1.Is s.heap l xs) (v2 : r2.Is s.heap m ys) (en : xs[p]? = none ∨ ys[q]? = none)
    (done : ∀ h', Kept4 z TO i j s.heap h' → Q none { s with heap := h' }) : wpAny (model prog w) A (pyNext (.ref z)) Q E s := by
  have ty : s.TypeIs (.ref z) "zip" := ⟨_, qz, rfl⟩
  unfold pyNext
  refine wpAny_bind (wpAny_attempt (wpAny_callSpecial?_slot (name := Str.ofString "__next__") ty F.slot_zip_next (wpAny_call_entry F.slot_zip_next ty F.entry_zip_next (zipM_over calm D qz qI qO u1 u2 v1 v2 en fun h' e kp he => ?_) (F.args_zip_next_1 _))))
  obtain ⟨o, ho, hc⟩ := he
  exact wpAny_bind (wpAny_isInstance (T := "StopIteration") (b := true) ⟨o, ho, hc⟩ isSubtype_stop (wpAny_pure (done _ kp)))
end
/-- the heaps while a zip is made -/
abbrev zm1 (r : Rw) (h : Heap) (l : Addr) : Heap := h.push (r.obj l)
abbrev zm2 (r1 r2 : Rw) (h : Heap) (l m : Addr) : Heap := (zm1 r1 h l).push (r2.obj m)
abbrev zm3 (r1 r2 : Rw) (h : Heap) (l m : Addr) : Heap := (zm2 r1 r2 h l m).push { cls := .type "tuple", data := .seq #[.ref h.objs.size, .ref (zm1 r1 h l).objs.size] }
abbrev zm4 (r1 r2 : Rw) (h : Heap) (l m : Addr) : Heap := (zm3 r1 r2 h l m).push { cls := .type "tuple", data := .seq #[.none, .none] }
abbrev zm5 (r1 r2 : Rw) (h : Heap) (l m : Addr) : Heap := (zm4 r1 r2 h l m).push { cls := .type "zip", data := .fields #[.none, .bool false, .bool false, .ref (zm2 r1 r2 h l m).objs.size, .ref (zm3 r1 r2 h l m).objs.size] }
theorem zipM_new (r1 r2 : Rw) (l m : Addr) (xs ys : Array Value) : Meets (Builtin.«zip.__new__» ⟨[.type "zip", .ref l, .ref m], []⟩) (fun _ R s => r1.Is s.heap l xs ∧ r2.Is s.heap m ys ∧ R (.ok (.ret (.ref (zm4 r1 r2 s.heap l m).objs.size))) { s with heap := zm5 r1 r2 s.heap l m }) :=
  .of_wp fun prog w A R s h => by
    obtain ⟨hp, g, d, tk, os⟩ := s
    obtain ⟨v1, v2, h⟩ := h
    have hsub := sub_zip
    have w1 : r1.Is (Shared.heap ⟨hp, g, d, tk, os⟩) l xs := v1
    have w2 : r2.Is (Shared.heap ⟨hp.push (r1.obj l), g, d, tk, os⟩) m ys := v2.push _
    wp_walk using Rw.iter w1, Rw.iter w2
    exact ⟨_, rfl, h⟩
section
variable {prog : Program} {w : World} {A : Around} {E : Value → Shared → Prop} {s : Shared}
theorem call_zipM {r1 r2 : Rw} {l m : Addr} {xs ys : Array Value} {Q : Value → Shared → Prop} (v1 : r1.Is s.heap l xs) (v2 : r2.Is s.heap m ys)
    (done : ∀ h', IsZip h' (s.heap.objs.size + 4) (s.heap.objs.size + 2) (s.heap.objs.size + 3) .none → IsPair h' (s.heap.objs.size + 2) (.ref s.heap.objs.size) (.ref (s.heap.objs.size + 1)) → IsPair h' (s.heap.objs.size + 3) .none .none → r1.It h' s.heap.objs.size l 0 → r2.It h' (s.heap.objs.size + 1) m 0 →
      h'.objs.size = s.heap.objs.size + 5 → (∀ c o, s.heap.get? c = some o → h'.get? c = some o) → Q (.ref (s.heap.objs.size + 4)) { s with heap := h' }) : wpAny (model prog w) A (call (.type "zip") [.ref l, .ref m]) Q E s := by
  refine callType_new F.called_zip (by decide) (F.typeCall_zip_2 _ _) (F.newCall_zip_2 _ _) (fun o => F.args_object_init_3 o _ _) F.entry_zip_new (zipM_new r1 r2 l m xs ys) ⟨v1, v2, ?_⟩
  have s1 : (zm1 r1 s.heap l).objs.size = s.heap.objs.size + 1 := Heap.size_push ..
  have s2 : (zm2 r1 r2 s.heap l m).objs.size = s.heap.objs.size + 2 := (Heap.size_push ..).trans (by rw [s1])
  have s3 : (zm3 r1 r2 s.heap l m).objs.size = s.heap.objs.size + 3 := (Heap.size_push ..).trans (by rw [s2])
  have s4 : (zm4 r1 r2 s.heap l m).objs.size = s.heap.objs.size + 4 := (Heap.size_push ..).trans (by rw [s3])
  have s5 : (zm5 r1 r2 s.heap l m).objs.size = s.heap.objs.size + 5 := (Heap.size_push ..).trans (by rw [s4])
  have free : ∀ (r : Rw) (a : Addr), (r.obj a).isFreed = false := fun r a => by cases r <;> rfl
  have e5 : (zm5 r1 r2 s.heap l m).get? (zm4 r1 r2 s.heap l m).objs.size = some _ := Heap.get?_push_size _ rfl
  have e4 : (zm5 r1 r2 s.heap l m).get? (zm3 r1 r2 s.heap l m).objs.size = some _ := Heap.get?_push_of_some _ (Heap.get?_push_size _ rfl)
  have e3 : (zm5 r1 r2 s.heap l m).get? (zm2 r1 r2 s.heap l m).objs.size = some _ := Heap.get?_push_of_some _ (Heap.get?_push_of_some _ (Heap.get?_push_size _ rfl))
  have e2 : (zm5 r1 r2 s.heap l m).get? (zm1 r1 s.heap l).objs.size = some _ := Heap.get?_push_of_some _ (Heap.get?_push_of_some _ (Heap.get?_push_of_some _ (Heap.get?_push_size _ (free r2 m))))
  have e1 : (zm5 r1 r2 s.heap l m).get? s.heap.objs.size = some _ := Heap.get?_push_of_some _ (Heap.get?_push_of_some _ (Heap.get?_push_of_some _ (Heap.get?_push_of_some _ (Heap.get?_push_size _ (free r1 l)))))
  show _ ∧ _
  rw [s2, s3, s4] at e5
  rw [s1, s2] at e3
  rw [s3] at e4
  rw [s1] at e2
  rw [s4]
  exact ⟨⟨_, e5, rfl⟩, done _ e5 e3 e4 (Rw.obj_it e1) (Rw.obj_it e2) s5 fun c o x => Heap.get?_push_of_some _ (Heap.get?_push_of_some _ (Heap.get?_push_of_some _ (Heap.get?_push_of_some _ (Heap.get?_push_of_some _ x))))⟩
end
/-- the row at a as data -/
def Rw.Sq (r : Rw) (K : PySem.W.Frag) (H : Hp) (a : Addr) (xs : List V) : Prop := match r with | .lst => SqL K H a xs | .tup => SqT K H a xs
section
variable {X : Cx} {pins : List (Addr × Obj)} {σ : L2.St} {H : Hp} {s : Shared} {r : Rw} {a : Addr} {xs ys : List V}
theorem Rw.row (I : Inv X pins σ H s) (h : r.Sq X.K H a xs) : ∃ its : List Value, Vals xs its ∧ r.Is s.heap a its.toArray := by
  cases r
  · obtain ⟨its, rv, p, _⟩ := I.list h
    exact ⟨its, rv, p.isList⟩
  · obtain ⟨its, rv, p, _⟩ := I.tuple h
    exact ⟨its, rv, p⟩
theorem Rw.one (I : Inv X pins σ H s) (h : r.Sq X.K H a xs) (k : r.Sq X.K H a ys) : xs = ys := by
  cases r
  · exact I.list_inj h k
  · exact I.tuple_inj h k
end
/-- the rows at a and b as they stand at each turn, their items in a new pair -/
def ItzM (K : PySem.W.Frag) (r1 r2 : Rw) (a b : Addr) : It where
  go := fun i H => ∃ xs ys x y, r1.Sq K H a xs ∧ r2.Sq K H b ys ∧ xs[i]? = some x ∧ ys[i]? = some y
  yld := fun i H v H' => ∃ T x y, v = .ref T ∧ H T = none ∧ H' = upd H T (.tup [x, y]) ∧ (∀ xs, r1.Sq K H a xs → xs[i]? = some x) ∧ (∀ ys, r2.Sq K H b ys → ys[i]? = some y)
  stop := fun i H => ∃ xs ys, r1.Sq K H a xs ∧ r2.Sq K H b ys ∧ (xs.length ≤ i ∨ ys.length ≤ i)
theorem five {c z TI TO i j : Addr} (h : c ∈ [z, TI, TO, i, j]) : c = z ∨ c = TI ∨ c = TO ∨ c = i ∨ c = j := by simpa using h
theorem off5 {h h' : Heap} {z TI TO i j : Addr} (k : Kept4 z TO i j h h') : ∀ c o, c ∉ [z, TI, TO, i, j] → h.get? c = some o → h'.get? c = some o :=
  fun c o n e => k c o (fun q => n (by simp [q])) (fun q => n (by simp [q])) (fun q => n (by simp [q])) (fun q => n (by simp [q])) e
theorem turn_zipM {P : Program} {w : World} {K : PySem.W.Frag} {elts : List Expr} {kk : Nat} {tpos : Pos} {r1 r2 : Rw} {a b z TI TO i j : Addr} (D : ZipApart z TI TO i j a b) :
    Turn P w K (.Tuple elts kk tpos) (ItzM K r1 r2 a b) [z, TI, TO, i, j] z (fun n h => IsZip h z TI TO .none ∧ IsPair h TI (.ref i) (.ref j) ∧ (∃ x y, IsPair h TO x y) ∧ r1.It h i a n ∧ r2.It h j b n) where
  mem := by simp
  obj := fun n h st c hc => by
    obtain ⟨q1, q2, ⟨x, y, q3⟩, q4, q5⟩ := st
    rcases five hc with e | e | e | e | e <;> subst e
    · exact ⟨_, q1, fun v q => nomatch q⟩
    · exact ⟨_, q2, fun v q => nomatch q⟩
    · exact ⟨_, q3, fun v q => nomatch q⟩
    · cases r1 <;> (obtain ⟨o, e, _, d⟩ := q4; exact ⟨o, e, fun v q => by rw [d] at q; cases q⟩)
    · cases r2 <;> (obtain ⟨o, e, _, d⟩ := q5; exact ⟨o, e, fun v q => by rw [d] at q; cases q⟩)
  keep := fun n h h' st k => by
    obtain ⟨q1, q2, ⟨x, y, q3⟩, q4, q5⟩ := st
    exact ⟨k z (by simp) _ q1, k TI (by simp) _ q2, ⟨x, y, k TO (by simp) _ q3⟩, q4.at_ fun o q => k i (by simp) o q, q5.at_ fun o q => k j (by simp) o q⟩
  item := by
    intro X hP hw hK hc n pins s σ H E I hf st hg
    subst hP hw hK
    obtain ⟨q1, q2, ⟨x0, y0, q3⟩, q4, q5⟩ := st
    obtain ⟨xs, ys, x, y, hqx, hqy, hx, hy⟩ := hg
    obtain ⟨us, rv, p⟩ := Rw.row I hqx
    obtain ⟨vs, rw', p'⟩ := Rw.row I hqy
    obtain ⟨u, hu, ru⟩ := rv.get hx
    obtain ⟨u', hu', ru'⟩ := rw'.get hy
    have zl : z < s.heap.objs.size := Heap.lt_size q1
    refine pyNext_zipM D q1 q2 q3 q4 q5 p p' (x := u) (y := u') (by simpa using hu) (by simpa using hu') fun h' z' TO' n1 n2 hT hsz hk => ?_
    refine ⟨_, rfl, wpAny_letOwnedTupleGo_zip (s := { s with heap := h' }) z' fun h'' z'' sb => ?_⟩
    have hT' : h''.get? s.heap.objs.size = some { cls := .type "tuple", data := .seq #[u, u'] } := (sb.2 _ (Nat.ne_of_gt zl)).trans hT
    have new : ObjOk X.prog X.w (upd H s.heap.objs.size (.tup [x, y])) h'' s.heap.objs.size (.tup [x, y]) := ⟨by show 2 ≤ sizeLine; decide, [u, u'], .cons ru (.cons ru' .nil), ⟨_, hT', rfl, _, rfl⟩⟩
    have J : Inv X pins σ (upd H s.heap.objs.size (.tup [x, y])) { s with heap := h'' } :=
      I.turnedNew (t' := s.toks) (ch := [z, TI, TO, i, j]) (fun c o hb q => (sb.2 c (fun q' => hb (by simp [q']))).trans (off5 hk c o hb q)) hf (Nat.le_refl _) new
    refine ⟨.ref s.heap.objs.size, _, J, rfl, ⟨_, x, y, rfl, I.hok.fresh (Nat.le_refl _), rfl, fun l hl => by rw [Rw.one I hl hqx]; exact hx, fun l hl => by rw [Rw.one I hl hqy]; exact hy⟩, ⟨z'', ?_, ⟨u, u', ?_⟩, ?_, ?_⟩, fun c hcm => ?_⟩
    · exact (sb.2 _ D.TIz).trans (hk _ _ D.TIz D.TITO D.TIi1 D.TIi2 q2)
    · exact (sb.2 _ D.TOz).trans TO'
    · exact n1.at_ fun o q => (sb.2 _ D.i1z).trans q
    · exact n2.at_ fun o q => (sb.2 _ D.i2z).trans q
    · have hlt : c < s.heap.objs.size := by
        rcases five hcm with e | e | e | e | e <;> subst e
        · exact zl
        · exact Heap.lt_size q2
        · exact Heap.lt_size q3
        · exact q4.lt
        · exact q5.lt
      rw [upd_ne (Nat.ne_of_lt hlt)]
      exact (hf c hcm).1
  done := by
    intro X hP hw hK hc n pins s σ H E I hf st hg
    subst hP hw hK
    obtain ⟨q1, q2, ⟨x0, y0, q3⟩, q4, q5⟩ := st
    obtain ⟨xs, ys, hqx, hqy, hend⟩ := hg
    obtain ⟨us, rv, p⟩ := Rw.row I hqx
    obtain ⟨vs, rw', p'⟩ := Rw.row I hqy
    have l1 := rv.length
    have l2 := rw'.length
    have he : us.toArray[n]? = none ∨ vs.toArray[n]? = none := hend.imp (fun q => by simp; omega) (fun q => by simp; omega)
    exact pyNext_zipM_over (I.ok.hd hc) D q1 q2 q3 q4 q5 p p' he fun h' hk => ⟨rfl, I.turnedL (t' := s.toks) (ch := [z, TI, TO, i, j]) (off5 hk) hf⟩
  self := fun A n s Q E st h => wpAny_pyIter_zip st.1 h
/-- zip(x, y), each a list or a tuple -/
def iZipM (K : PySem.W.Frag) (ta : TA) : TI := fun σ H R => ta σ H fun vs H1 => ∃ (r1 r2 : Rw) (a b : Addr) (xs ys : List V), vs = [.ref a, .ref b] ∧ r1.Sq K H1 a xs ∧ r2.Sq K H1 b ys ∧ R (ItzM K r1 r2 a b) H1
theorem pi_zipM {X : Cx} {e e2 : Expr} {ta : TA} {p pos tpos : Pos} {elts : List Expr} {kk : Nat} (hg : Gl X "zip") (hm : X.mg "zip" = none) (ha : PA X [e, e2] ta)
    (hs : starEach [e, e2] X.env = (false, eval e X.env) :: starEach [e2] X.env := by rfl) (hpl : (backTo pos (starEach [e2] X.env)).any (·.1) = false := by rfl) : PI X (.Tuple elts kk tpos) (.Call (.Name "zip" p) [e, e2] [] pos) (iZipM X.K ta) := by
  refine ⟨fun pins s σ H R I h => Call_ (ld_blt I hg hm PyProof.Rows.boot_zip (PyProof.Rows.callWith_type1 (thn (ha.run pos pins s σ H _ I h) fun us s1 ⟨vs, H1, I1, r1, q1⟩ => ?_) hs hpl))⟩
  obtain ⟨k1, k2, a, b, xs, ys, ex, hqx, hqy, q⟩ := q1
  subst ex
  cases r1 with
  | cons r rr =>
    cases rr with
    | cons r' rr =>
      cases rr
      cases r
      cases r'
      obtain ⟨us, rv, p1⟩ := Rw.row I1 hqx
      obtain ⟨vs', rv2, p2⟩ := Rw.row I1 hqy
      refine call_zipM p1 p2 fun h' hz hTI hTO h1 h2 hsz hk => wpAny_pyIter_zip hz ?_
      refine ⟨s1.heap.objs.size + 4, [s1.heap.objs.size + 4, s1.heap.objs.size + 2, s1.heap.objs.size + 3, s1.heap.objs.size, s1.heap.objs.size + 1], _, _, H1, rfl, I1.kept (t' := s1.toks) hk, turn_zipM (PySem.W.ktu_apart s1.heap.objs.size a b p1.lt p2.lt), ⟨hz, hTI, ⟨_, _, hTO⟩, h1, h2⟩, fun c hcm => ?_, q⟩
      have hle : s1.heap.objs.size ≤ c := by
        rcases five hcm with e | e | e | e | e <;> (rw [e]; omega)
      exact I1.fpOk hle (I1.hok.fresh hle)
section
variable {K : PySem.W.Frag} {X : Cx}
theorem piZipM (K : PySem.W.Frag) {e e2 : Expr} {ta : TA} {p pos tpos : Pos} {elts : List Expr} {kk : Nat} (hg : Gl X "zip") (hm : X.mg "zip" = none) (ha : PA X [e, e2] ta)
    (hs : starEach [e, e2] X.env = (false, eval e X.env) :: starEach [e2] X.env := by rfl) (hpl : (backTo pos (starEach [e2] X.env)).any (·.1) = false := by rfl) (h : X.K = K := by rfl) :
    PI X (.Tuple elts kk tpos) (.Call (.Name "zip" p) [e, e2] [] pos) (iZipM K ta) := h ▸ pi_zipM hg hm ha hs hpl
end
section
variable {K : PySem.W.Frag} {r1 r2 : Rw} {a b : Addr} {xs ys : List V} {g : TG}
/-- a loop over zip of two rows of one length -/
theorem for_zipM {tb : TS} {D : Ends} {σ : L2.St} {H : Hp} (len : xs.length = ys.length) (Pv : Nat → L2.St → Hp → Prop) (first : Pv 0 σ H) (rows : ∀ i σ H, Pv i σ H → r1.Sq K H a xs ∧ r2.Sq K H b ys)
    (step : ∀ (i : Nat) (x y : V) (T : Addr) (σ : L2.St) (H : Hp), xs[i]? = some x → ys[i]? = some y → Pv i σ H → H T = none → g (.ref T) σ (upd H T (.tup [x, y])) fun σ2 H2 => tb { D with nx := Pv (i + 1), ct := Pv (i + 1), bk := D.nx } σ2 H2) (last : ∀ σ H, Pv xs.length σ H → D.nx σ H) :
    ∃ W : Nat → Nat → L2.St → Hp → Prop, (∃ m, W 0 m σ H) ∧ ∀ i m σ H, W i m σ H → ((ItzM K r1 r2 a b).stop i H ∧ D.nx σ H) ∨
      ((ItzM K r1 r2 a b).go i H ∧ ∃ N : L2.St → Hp → Prop, (∀ σ' H', N σ' H' → ∃ m', m' < m ∧ W (i + 1) m' σ' H') ∧ ∀ v H', (ItzM K r1 r2 a b).yld i H v H' → g v σ H' fun σ2 H2 => tb { D with nx := N, ct := N, bk := D.nx } σ2 H2) := by
  refine ⟨fun i m σ H => m + i = xs.length ∧ Pv i σ H, ⟨xs.length, rfl, first⟩, ?_⟩
  rintro i m σ H ⟨em, p⟩
  obtain ⟨qx, qy⟩ := rows i σ H p
  rcases Nat.eq_zero_or_pos m with z | z
  · have ei : i = xs.length := by omega
    subst ei
    exact .inl ⟨⟨xs, ys, qx, qy, .inl (Nat.le_refl _)⟩, last σ H p⟩
  · have lx : i < xs.length := by omega
    have ly : i < ys.length := by omega
    refine .inr ⟨⟨xs, ys, _, _, qx, qy, List.getElem?_eq_getElem lx, List.getElem?_eq_getElem ly⟩, Pv (i + 1), fun σ' H' p' => ⟨m - 1, by omega, by omega, p'⟩, ?_⟩
    rintro v H' ⟨T, x, y, rfl, free, rfl, f1, f2⟩
    exact step i x y T σ H (f1 xs qx) (f2 ys qy) p free
theorem lc_zipM {tt : TT} {te : TE} {vs : List Nat} {σ : L2.St} {H1 : Hp} {D : Addr} {Qd : Hp → Prop} (len : xs.length = ys.length) (Pv : Nat → Hp → Prop) (first : Pv 0 (upd H1 D (.lst []))) (rows : ∀ i H, Pv i H → r1.Sq K H a xs ∧ r2.Sq K H b ys)
    (step : ∀ (i : Nat) (x y : V) (T : Addr) (H : Hp), xs[i]? = some x → ys[i]? = some y → Pv i H → H T = none → g (.ref T) (wipe σ vs) (upd H T (.tup [x, y])) fun σ2 H2 => wipe σ2 vs = wipe σ vs ∧ tt σ2 H2 fun b H3 =>
      if b = true then te σ2 H3 fun y H4 => ∃ acc, H4 D = some (.lst acc) ∧ acc.length < sizeLine ∧ Pv (i + 1) (upd H4 D (.lst (acc ++ [y]))) else Pv (i + 1) H3) (last : ∀ H, Pv xs.length H → Qd H) :
    ∃ W : Nat → Nat → Hp → Prop, (∃ m, W 0 m (upd H1 D (.lst []))) ∧ ∀ i m H, W i m H → ((ItzM K r1 r2 a b).stop i H ∧ Qd H) ∨
      ((ItzM K r1 r2 a b).go i H ∧ ∃ Nx : Hp → Prop, (∀ H', Nx H' → ∃ m', m' < m ∧ W (i + 1) m' H') ∧ ∀ x H', (ItzM K r1 r2 a b).yld i H x H' → g x (wipe σ vs) H' fun σ2 H2 => wipe σ2 vs = wipe σ vs ∧ tt σ2 H2 fun b H3 =>
        if b = true then te σ2 H3 fun y H4 => ∃ acc, H4 D = some (.lst acc) ∧ acc.length < sizeLine ∧ Nx (upd H4 D (.lst (acc ++ [y]))) else Nx H3) := by
  refine ⟨fun i m H => m + i = xs.length ∧ Pv i H, ⟨xs.length, rfl, first⟩, ?_⟩
  rintro i m H ⟨em, p⟩
  obtain ⟨qx, qy⟩ := rows i H p
  rcases Nat.eq_zero_or_pos m with z | z
  · have ei : i = xs.length := by omega
    subst ei
    exact .inl ⟨⟨xs, ys, qx, qy, .inl (Nat.le_refl _)⟩, last H p⟩
  · have lx : i < xs.length := by omega
    have ly : i < ys.length := by omega
    refine .inr ⟨⟨xs, ys, _, _, qx, qy, List.getElem?_eq_getElem lx, List.getElem?_eq_getElem ly⟩, Pv (i + 1), fun H' p' => ⟨m - 1, by omega, by omega, p'⟩, ?_⟩
    rintro v H' ⟨T, x, y, rfl, free, rfl, f1, f2⟩
    exact step i x y T H (f1 xs qx) (f2 ys qy) p free
end
end GB

/-! Heaps with some lists hidden: what stands beside lists that grow. -/
namespace GB
open PySem PySem.Spec PyProof.Rows L2
def hid (l : List Addr) (H : Hp) : Hp := fun b => if b ∈ l then none else H b
section
variable {K : PySem.W.Frag} {H H' H0 : Hp} {l m : List Addr} {a b : Addr} {o : HO}
theorem hid_nil : hid [] H = H := by
  funext x
  exact if_neg (by simp)
theorem hid_at (h : a ∉ l) : hid l H a = H a := if_neg h
theorem hid_in (h : a ∈ l) : hid l H a = none := if_pos h
theorem hid_upd (h : a ∈ l) : hid l (upd H a o) = hid l H := by
  funext x
  by_cases e : x ∈ l
  · rw [hid_in e, hid_in e]
  · rw [hid_at e, hid_at e, upd_ne]
    intro z
    exact e (by rw [z]; exact h)
theorem hid_mono (s : Same H H') : Same (hid l H) (hid l H') := by
  intro x u h
  by_cases e : x ∈ l
  · rw [hid_in e] at h
    cases h
  · rw [hid_at e] at h
    rw [hid_at e]
    exact s x u h
theorem hid_same : Same (hid l H) H := by
  intro x u h
  by_cases e : x ∈ l
  · rw [hid_in e] at h
    cases h
  · rw [hid_at e] at h
    exact h
theorem hid_less (s : ∀ x ∈ l, x ∈ m) : Same (hid m H) (hid l H) := by
  intro x u h
  by_cases e : x ∈ m
  · rw [hid_in e] at h
    cases h
  · rw [hid_at e] at h
    rw [hid_at fun z => e (s x z)]
    exact h
/-- a new object that is hidden at once -/
theorem hid_new (n : H a = none) : Same (hid l H) (hid (a :: l) (upd H a o)) := by
  intro x u h
  by_cases e : x ∈ l
  · rw [hid_in e] at h
    cases h
  · rw [hid_at e] at h
    have ne : x ≠ a := ne_of_none h n
    rw [hid_at (by simp [e, ne]), upd_ne ne]
    exact h
/-- integers in a row -/
def pdI (r : List Int) : PD := .lst (r.map PD.int)
def pdII (r : List (List Int)) : PD := .lst (r.map pdI)
def pdIII (r : List (List (List Int))) : PD := .lst (r.map pdII)
theorem repI : ∀ (r : List Int), RepL K H (r.map V.int) (r.map PD.int)
  | [] => .nil
  | i :: r => .cons (.int i) (repI r)
theorem repI_inv : ∀ {r : List Int} {xs : List V}, RepL K H xs (r.map PD.int) → xs = r.map V.int
  | [], _, .nil => rfl
  | i :: r, _, .cons h t => by
    cases h
    rw [repI_inv t]
    rfl
theorem rep_ints {a : Addr} {r : List Int} (h : SqL K H a (r.map V.int)) (l : r.length ≤ 100000) : Rep K H (.ref a) (pdI r) := .lst (by rw [List.length_map]; exact l) h (repI r)
theorem rep_ints_inv {v : V} {r : List Int} (h : Rep K H v (pdI r)) : ∃ a, v = .ref a ∧ SqL K H a (r.map V.int) ∧ r.length ≤ 100000 := by
  obtain ⟨a, xs, rfl, hs, hr, hl⟩ := Rep.inv_lst h
  rw [repI_inv hr] at hs
  rw [List.length_map] at hl
  exact ⟨a, rfl, hs, hl⟩
theorem rep_rows_inv {v : V} {r : List (List Int)} (h : Rep K H v (pdII r)) : ∃ a xs, v = .ref a ∧ SqL K H a xs ∧ RepL K H xs (r.map pdI) ∧ xs.length = r.length ∧ r.length ≤ 100000 := by
  obtain ⟨a, xs, rfl, hs, hr, hl⟩ := Rep.inv_lst h
  have e := hr.len
  rw [List.length_map] at hl e
  exact ⟨a, xs, rfl, hs, hr, e, hl⟩
theorem repl_get {α : Type} {f : α → PD} {xs : List V} {r : List α} {i : Nat} {x : α} (h : RepL K H xs (r.map f)) (e : r[i]? = some x) : ∃ v, xs[i]? = some v ∧ Rep K H v (f x) :=
  RepL.get h (by rw [List.getElem?_map, e]; rfl)
theorem repl_snoc {α : Type} {f : α → PD} {xs : List V} {r : List α} {v : V} {x : α} (h : RepL K H xs (r.map f)) (k : Rep K H v (f x)) : RepL K H (xs ++ [v]) ((r ++ [x]).map f) := by
  rw [List.map_append]
  exact RepL.snoc h k
theorem at_last {α : Type} {xs : List α} {v : α} (h : xs[xs.length - 1]? = some v) : atI xs (-1) = some v := by
  have lt : xs.length - 1 < xs.length := (List.getElem?_eq_some_iff.mp h).1
  unfold atI ixN
  rw [if_neg (by decide), if_pos (by omega)]
  show xs[((-1 : Int) + (xs.length : Int)).toNat]? = some v
  have e : ((-1 : Int) + (xs.length : Int)).toNat = xs.length - 1 := by omega
  rw [e]
  exact h
end
end GB
namespace GB
open PySem PySem.Spec PyProof.Rows L2
theorem nodup_ne {l : List Addr} (h : l.Nodup) {i j : Nat} {a b : Addr} (ha : l[i]? = some a) (hb : l[j]? = some b) (n : i ≠ j) : a ≠ b := by
  intro e
  subst e
  exact n (nd_ix h ha hb)
theorem rep_zeros (n : Nat) : (List.replicate n [V.int 0]).flatten = (List.replicate n (0 : Int)).map V.int := by
  induction n with
  | zero => rfl
  | succ n ih =>
    rw [List.replicate_succ, List.flatten_cons, ih, List.replicate_succ]
    rfl
theorem set_l {v : V} {H : Hp} {Q : Hp → Prop} {p : Addr} {xs : List V} {k : Int} {j : Nat} (hp : H p = some (.lst xs)) (hk : k = (j : Int)) (hj : j < xs.length) (q : Q (upd H p (.lst (xs.set j v)))) : rSetL (.ref p) (.int k) v H Q := by
  refine ⟨p, xs, k, j, rfl, rfl, hp, ?_, q⟩
  subst hk
  unfold ixN
  rw [if_pos (by omega), if_pos (by omega)]
  rfl
end GB

/-! Rows that are lists or tuples: cut, read by places. -/
namespace GB
open PySem PySem.Spec PyProof.Rows L2
def rSlQ (K : PySem.W.Frag) : V → Option Int → Option Int → Hp → VK → Prop := fun x lo hi H Q => rSlL K x lo hi H Q ∨ rSlT K x lo hi H Q
/-- the row's object -/
def Rw.ob (r : Rw) (xs : List V) : HO := match r with | .lst => .lst xs | .tup => .tup xs
section
variable {X : Cx} {K : PySem.W.Frag} {H H' : Hp} {Q : VK} {q : Rw} {a : Addr} {xs : List V}
theorem slQ (K : PySem.W.Frag) (h : X.K = K := by rfl) : SlR X (wS (rSlQ K)) := by
  subst h
  refine SlR.w ?_
  intro pins s σ H x v vl vu lo hi sl Q I rx hs hl hu q
  rcases q with q | q
  · exact sl_list pins s σ H x v vl vu lo hi sl Q I rx hs hl hu q
  · exact sl_tup pins s σ H x v vl vu lo hi sl Q I rx hs hl hu q
theorem Rw.same (e : Same H H') (h : q.Sq K H a xs) : q.Sq K H' a xs := by
  cases q
  · exact Same.sql e h
  · exact Same.sqt e h
theorem Rw.at_ob (h : H a = some (q.ob xs)) : q.Sq K H a xs := by
  cases q
  · exact .inl (.inl h)
  · exact .inl (.inl h)
theorem ix_row {i : Int} {v : V} (h : q.Sq K H a xs) (hv : atI xs i = some v) (k : Q v H) : Hold (rIx K (.ref a) (.int i) H Q) := by
  cases q
  · exact ixq_l h hv k
  · exact ixq_t h hv k
theorem sl_row {lo hi : Option Int} (h : q.Sq K H a xs) (nw : ¬ (HT.sIx xs.length 0 lo = 0 ∧ HT.sIx xs.length xs.length hi = xs.length)) (k : ∀ p, H p = none → Q (.ref p) (upd H p (q.ob (cutV xs lo hi)))) : Hold (rSlQ K (.ref a) lo hi H Q) := by
  cases q
  · exact .mk (.inl ⟨_, _, rfl, h, k⟩)
  · exact .mk (.inr ⟨_, _, rfl, h, nw, k⟩)
theorem len_row (h : q.Sq K H a xs) : LenV K (.ref a) H xs.length := by
  cases q
  · exact .inl ⟨_, h, rfl⟩
  · exact .inr ⟨_, h, rfl⟩
theorem row_ints {r : List Int} {d : PD} {v : V} (h : Rep K H v d) (e : d = pdI r ∨ d = .tup (r.map PD.int)) : ∃ (q : Rw) (a : Addr), v = .ref a ∧ q.Sq K H a (r.map V.int) := by
  rcases e with e | e <;> subst e
  · obtain ⟨a, rfl, ha, _⟩ := rep_ints_inv h
    exact ⟨.lst, a, rfl, ha⟩
  · obtain ⟨a, xs, rfl, ha, hr, _⟩ := h.inv_tup
    rw [repI_inv hr] at ha
    exact ⟨.tup, a, rfl, ha⟩
end
/-- the walk over a row -/
def Rw.itr (q : Rw) (K : PySem.W.Frag) (a : Addr) : L2.It := match q with | .lst => Itl K a | .tup => Itt K a
def iRow (K : PySem.W.Frag) (tl : TE) : TI := fun σ H R => Hold (∃ q : Rw, tl σ H fun x H1 => ∃ a, x = .ref a ∧ (∃ xs, q.Sq K H1 a xs) ∧ R (q.itr K a) H1)
section
variable {X : Cx} {K : PySem.W.Frag}
theorem piRow (K : PySem.W.Frag) {tg l : Expr} {tl : TE} (hp : PE X l tl) (h : X.K = K := by rfl) : PI X tg l (iRow K tl) := by
  subst h
  refine ⟨fun pins s σ H R I z => ?_⟩
  obtain ⟨q, z⟩ := z.h
  cases q
  · exact (pi_list hp).run pins s σ H R I z
  · exact (pi_tup hp).run pins s σ H R I z
end
section
variable {K : PySem.W.Frag} {q : Rw} {a : Addr} {xs : List V} {g : TG}
theorem for_row {tb : TS} {D : Ends} {σ : L2.St} {H : Hp} (Pv : Nat → L2.St → Hp → Prop) (first : Pv 0 σ H) (row : ∀ i σ H, Pv i σ H → q.Sq K H a xs)
    (step : ∀ i x σ H, xs[i]? = some x → Pv i σ H → g x σ H fun σ2 H2 => tb { D with nx := Pv (i + 1), ct := Pv (i + 1), bk := D.nx } σ2 H2) (last : ∀ σ H, Pv xs.length σ H → D.nx σ H) :
    ∃ W : Nat → Nat → L2.St → Hp → Prop, (∃ m, W 0 m σ H) ∧ ∀ i m σ H, W i m σ H → ((q.itr K a).stop i H ∧ D.nx σ H) ∨
      ((q.itr K a).go i H ∧ ∃ N : L2.St → Hp → Prop, (∀ σ' H', N σ' H' → ∃ m', m' < m ∧ W (i + 1) m' σ' H') ∧ ∀ x H', (q.itr K a).yld i H x H' → g x σ H' fun σ2 H2 => tb { D with nx := N, ct := N, bk := D.nx } σ2 H2) := by
  cases q
  · exact for_list Pv first (fun i σ H _ z => row i σ H z) step last
  · refine for_it (walk_tup (xs := xs)) Pv first (fun i σ H _ z => row i σ H z) ?_ last
    rintro i x σ H H' hi p ⟨rfl, e⟩
    exact step i x σ _ e p
end
/-- what is new in G since H0 -/
def yg (H0 G : Hp) : Hp := fun b => match H0 b with | none => G b | some _ => none
section
variable {H0 G G' : Hp} {b : Addr}
theorem yg_at (h : H0 b = none) : yg H0 G b = G b := by
  show (match H0 b with | none => G b | some _ => none) = _
  rw [h]
theorem yg_old {o : HO} (h : H0 b = some o) : yg H0 G b = none := by
  show (match H0 b with | none => G b | some _ => none) = _
  rw [h]
theorem yg_inv {o : HO} (h : yg H0 G b = some o) : H0 b = none ∧ G b = some o := by
  cases e : H0 b with
  | none => exact ⟨rfl, (yg_at e).symm.trans h⟩
  | some u =>
    rw [yg_old e] at h
    cases h
theorem yg_mono (s : Same G G') : Same (yg H0 G) (yg H0 G') := fun b o e => by
  obtain ⟨n, h⟩ := yg_inv e
  rw [yg_at n]
  exact s _ _ h
theorem yg_less {H1 : Hp} (s : Same H0 H1) : Same (yg H1 G) (yg H0 G) := fun b o e => by
  obtain ⟨n, h⟩ := yg_inv e
  rw [yg_at (s.free n)]
  exact h
theorem yg_same : Same (yg H0 G) G := fun b o e => (yg_inv e).2
end
end GB

/-! Lists within lists that are changed: what is still data, what stays as it was. -/
namespace GB
open PySem PySem.Spec PyProof.Rows L2
section
variable {K : PySem.W.Frag} {G : Hp} {w : Addr} {o : HO} {ws : List V}
theorem rd_upd {a : Addr} {u : HO} (n : a ≠ w) (h : Rd G a u) : Rd (upd G w o) a u := by
  rcases h with h | ⟨z, h⟩
  · exact .inl (by rw [upd_ne n]; exact h)
  · exact .inr ⟨z, by rw [upd_ne n]; exact h⟩
theorem sql_upd {a : Addr} {xs : List V} (n : a ≠ w) (h : SqL K G a xs) : SqL K (upd G w o) a xs := h.imp (rd_upd n) id
theorem sqt_upd {a : Addr} {xs : List V} (n : a ≠ w) (h : SqT K G a xs) : SqT K (upd G w o) a xs := h.imp (rd_upd n) id
theorem repl_some {H : Hp} : ∀ {xs : List V}, (∀ x ∈ xs, ∃ e, Rep K H x e) → ∃ ds, RepL K H xs ds
  | [], _ => ⟨[], .nil⟩
  | x :: xs, h => by
    obtain ⟨d, hd⟩ := h x (List.mem_cons_self ..)
    obtain ⟨ds, hds⟩ := repl_some fun y hy => h y (List.mem_cons_of_mem _ hy)
    exact ⟨d :: ds, .cons hd hds⟩
theorem rep_w (new : ∀ x ∈ ws, ∃ e, Rep K (hid [w] G) x e) (wl : ws.length ≤ 100000) : ∃ d, Rep K (upd G w (.lst ws)) (.ref w) d := by
  obtain ⟨ds, h⟩ := repl_some new
  have s : Same (hid [w] G) (upd G w (.lst ws)) := by
    have z : Same (hid [w] (upd G w (.lst ws))) (upd G w (.lst ws)) := hid_same
    rw [hid_upd (by simp)] at z
    exact z
  exact ⟨.lst ds, .lst (by rw [← h.len]; exact wl) (.inl (.inl upd_same)) (h.mono s)⟩
mutual
/-- what was data is data still, with the list at w changed -/
theorem Rep.changed (new : ∀ x ∈ ws, ∃ e, Rep K (hid [w] G) x e) (wl : ws.length ≤ 100000) : ∀ {v : V} {d : PD}, Rep K G v d → ∃ d', Rep K (upd G w (.lst ws)) v d'
  | _, _, .non => ⟨_, .non⟩
  | _, _, .bl b => ⟨_, .bl b⟩
  | _, _, .int i => ⟨_, .int i⟩
  | _, _, .str s h => ⟨_, .str s h⟩
  | _, _, .lst (a := a) z h r => by
    by_cases e : a = w
    · subst e
      exact rep_w new wl
    · obtain ⟨ds, hd⟩ := RepL.changed new wl r
      exact ⟨.lst ds, .lst (by rw [← hd.len, r.len]; exact z) (sql_upd e h) hd⟩
  | _, _, .tup (a := a) z h r => by
    by_cases e : a = w
    · subst e
      exact rep_w new wl
    · obtain ⟨ds, hd⟩ := RepL.changed new wl r
      exact ⟨.tup ds, .tup (by rw [← hd.len, r.len]; exact z) (sqt_upd e h) hd⟩
  | _, _, .dct (a := a) h r => by
    by_cases e : a = w
    · subst e
      exact rep_w new wl
    · exact ⟨_, .dct (by rw [upd_ne e]; exact h) r⟩
theorem RepL.changed (new : ∀ x ∈ ws, ∃ e, Rep K (hid [w] G) x e) (wl : ws.length ≤ 100000) : ∀ {vs : List V} {ds : List PD}, RepL K G vs ds → ∃ ds', RepL K (upd G w (.lst ws)) vs ds'
  | _, _, .nil => ⟨_, .nil⟩
  | _, _, .cons h r => by
    obtain ⟨d, hd⟩ := Rep.changed new wl h
    obtain ⟨ds, hds⟩ := RepL.changed new wl r
    exact ⟨d :: ds, .cons hd hds⟩
end
end
/-- two rows, item by item -/
inductive All2 {α β : Type} (R : α → β → Prop) : List α → List β → Prop
  | nil : All2 R [] []
  | cons {a : α} {b : β} {as : List α} {bs : List β} : R a b → All2 R as bs → All2 R (a :: as) (b :: bs)
section
variable {α β : Type} {R S : α → β → Prop}
theorem All2.len : ∀ {as : List α} {bs : List β}, All2 R as bs → as.length = bs.length
  | _, _, .nil => rfl
  | _, _, .cons _ r => congrArg (· + 1) r.len
theorem All2.imp (f : ∀ a b, R a b → S a b) : ∀ {as : List α} {bs : List β}, All2 R as bs → All2 S as bs
  | _, _, .nil => .nil
  | _, _, .cons h r => .cons (f _ _ h) (r.imp f)
theorem All2.snoc : ∀ {as : List α} {bs : List β} {a : α} {b : β}, All2 R as bs → R a b → All2 R (as ++ [a]) (bs ++ [b])
  | _, _, _, _, .nil, h => .cons h .nil
  | _, _, _, _, .cons g r, h => .cons g (r.snoc h)
theorem All2.get : ∀ {as : List α} {bs : List β} {i : Nat} {b : β}, All2 R as bs → bs[i]? = some b → ∃ a, as[i]? = some a ∧ R a b
  | _, _, 0, _, .cons h r, e => ⟨_, rfl, by cases e; exact h⟩
  | _, _, i + 1, _, .cons h r, e => r.get (i := i) e
end
/-- the list of lists of lists at p, each as it stands -/
def Lst2 (G : Hp) (q : Addr) (j : List (List Int)) : Prop := ∃ ws : List Addr, G q = some (.lst (ws.map V.ref)) ∧ All2 (fun w r => G w = some (.lst (r.map V.int))) ws j
def Lst3 (G : Hp) (p : Addr) (t : List (List (List Int))) : Prop := ∃ qs : List Addr, G p = some (.lst (qs.map V.ref)) ∧ All2 (Lst2 G) qs t
section
variable {K : PySem.W.Frag} {G G' : Hp} {p q : Addr} {t : List (List (List Int))} {j : List (List Int)}
theorem Lst2.mono (s : Same G G') (h : Lst2 G q j) : Lst2 G' q j := by
  obtain ⟨ws, e, r⟩ := h
  exact ⟨ws, s _ _ e, r.imp fun _ _ z => s _ _ z⟩
theorem Lst3.mono (s : Same G G') (h : Lst3 G p t) : Lst3 G' p t := by
  obtain ⟨qs, e, r⟩ := h
  exact ⟨qs, s _ _ e, r.imp fun _ _ z => z.mono s⟩
theorem repl_all2 {α : Type} {f : α → PD} {R : Addr → α → Prop} (g : ∀ a x, R a x → Rep K G (.ref a) (f x)) : ∀ {as : List Addr} {xs : List α}, All2 R as xs → RepL K G (as.map V.ref) (xs.map f)
  | _, _, .nil => .nil
  | _, _, .cons h r => .cons (g _ _ h) (repl_all2 g r)
theorem Lst2.rep (h : Lst2 G q j) (l : j.length ≤ 100000) (each : ∀ r ∈ j, r.length ≤ 100000) : Rep K G (.ref q) (pdII j) := by
  obtain ⟨ws, e, r⟩ := h
  refine .lst (by rw [List.length_map]; exact l) (.inl (.inl e)) ?_
  have all : ∀ {as : List Addr} {xs : List (List Int)}, All2 (fun w r => G w = some (.lst (r.map V.int))) as xs → (∀ r ∈ xs, r.length ≤ 100000) → RepL K G (as.map V.ref) (xs.map pdI) := by
    intro as xs r
    induction r with
    | nil => exact fun _ => .nil
    | cons h r ih => exact fun z => .cons (rep_ints (.inl (.inl h)) (z _ (List.mem_cons_self ..))) (ih fun y hy => z y (List.mem_cons_of_mem _ hy))
  exact all r each
theorem Lst3.rep (h : Lst3 G p t) (l : t.length ≤ 100000) (each : ∀ j ∈ t, j.length ≤ 100000 ∧ ∀ r ∈ j, r.length ≤ 100000) : Rep K G (.ref p) (pdIII t) := by
  obtain ⟨qs, e, r⟩ := h
  refine .lst (by rw [List.length_map]; exact l) (.inl (.inl e)) ?_
  have all : ∀ {as : List Addr} {xs : List (List (List Int))}, All2 (Lst2 G) as xs → (∀ j ∈ xs, j.length ≤ 100000 ∧ ∀ r ∈ j, r.length ≤ 100000) → RepL K G (as.map V.ref) (xs.map pdII) := by
    intro as xs r
    induction r with
    | nil => exact fun _ => .nil
    | cons h r ih => exact fun z => .cons (h.rep (z _ (List.mem_cons_self ..)).1 (z _ (List.mem_cons_self ..)).2) (ih fun y hy => z y (List.mem_cons_of_mem _ hy))
  exact all r each
end
/-- the heap within a region -/
noncomputable def only (P : Addr → Prop) (G : Hp) : Hp := fun b => @ite _ (P b) (Classical.propDecidable _) (G b) none
section
variable {P : Addr → Prop} {G G' : Hp} {b w : Addr} {o : HO}
theorem only_at (h : P b) : only P G b = G b := if_pos h
theorem only_off (h : ¬ P b) : only P G b = none := if_neg h
theorem only_inv (h : only P G b = some o) : P b ∧ G b = some o := by
  by_cases c : P b
  · exact ⟨c, (only_at c).symm.trans h⟩
  · rw [only_off c] at h
    cases h
theorem only_same : Same (only P G) G := fun _ _ e => (only_inv e).2
theorem only_mono (s : Same G G') : Same (only P G) (only P G') := fun b u e => by
  obtain ⟨c, h⟩ := only_inv e
  rw [only_at c]
  exact s _ _ h
/-- a change outside -/
theorem only_upd (n : ¬ P w) : only P (upd G w o) = only P G := by
  funext b
  by_cases c : P b
  · rw [only_at c, only_at c, upd_ne]
    intro e
    rw [e] at c
    exact n c
  · rw [only_off c, only_off c]
end
end GB

/-! Calls by keywords only, outside a try. -/
namespace GB
open PySem PySem.Spec PyProof.Rows L2
section
variable {X : Cx} {x : Str} {st : Stmt} {ps ks : List Str} {sp : Sp} {k : Nat} {kws : List Keyword} {t : TA} {p pos : Pos} {E : XK}
theorem pe_clK {g : {α : Type} → List α → List α} (D : Dn X.prog X.w X.K X.mg X.base k x st ps sp) (b : Bk x st ps ks g) (hgr : ∀ {vs : List V} {us : List Value}, Vals vs us → vs.length = ks.length → Vals (g vs) (g us)) (hr : Room k X.A) (hx : Passes (L2.CX X.prog X.w) X E) (hkw : PK X kws t) (hg : Gl X x := by rfl)
    (hall : (backToKw pos (keywordEach kws X.env)).all (·.1.isSome) = true := by rfl) (hks : (backToKw pos (keywordEach kws X.env)).filterMap (·.1) = ks := by rfl) (hdb : (x == ("__debug__" : Str)) = false := by decide)
    (hpl : ((backTo pos (starEach [] X.env)).any (·.1) || (backToKw pos (keywordEach kws X.env)).any (·.1.isNone)) = false := by rfl) :
    PE X (.Call (.Name x p) [] kws pos) (tCallKS sp (fun l => g l) ks.length (fun _ => E) t) := by
  obtain ⟨f, fd, F, m, G⟩ := D.ex
  refine ⟨fun pins s σ H Q I h => ?_⟩
  refine wpAny_Call_Name_kw (ld_glob I hg m ?_ hdb)
  refine PySem.W.callWith_KW0 (h₀ := X.base) I.ok.mod.kin G.kp hall (thn (hkw.run pos pins s σ H _ I h) ?_) hpl
  rintro ws s2 ⟨zs, H2, I2, rz, ln, q2⟩
  refine ⟨I2.kIn, ?_⟩
  rw [hks]
  have r2 := hgr rz ln
  obtain ⟨oc, od, kV, doc, pm, an, cdv, ct, osl, rfl, lk, hcd⟩ := G.ex
  have l2 : ws.length = ks.length := by rw [← rz.length]; exact ln
  have bt : BindsTo s2 _ ⟨[], ks.zip ws⟩ (ps.zip (g ws)) := BindsTo.of_eq (b kV doc pm an cdv ct ws l2)
  show wpAny _ _ (call (.ref f) ([] ++ []) (ks.zip ws)) _ _ _
  refine wpAny_call (codeAny_mono (F.run X.A X.stack s2 H2 ⟨[], ks.zip ws⟩ (g ws) (g zs) Q E hr I2.env0 bt r2 q2) ?_)
  intro r s' hq
  cases r with
  | error e => exact hx pins σ H2 s2 e s' I2 hq
  | ok fl =>
    cases fl with
    | ret u => exact I2.after hq
    | next | brk | cont => exact False.elim hq
end
end GB

/-! A machine over plain data: what a def's body reckons, said without the heap. The data, what stands for them in the heap, who owns which object. -/
namespace MM
open PySem PySem.Spec PyProof.Rows L2 GB
inductive D where
  | non | bl (b : Bool) | int (i : Int) | str (s : Str) | lst (l : List D) | fls (l : List D) | tup (l : List D) | dct (ks : List Key) (l : List D)
  | obj (c : Str) (ns : List Str) (l : List D) | exc (ns : List Str) (l : List D) | ref (n : Nat) | vv (v : V)
inductive Own where
  | sh | sp | al | bo
  deriving DecidableEq
structure Val where
  o : Own
  d : D
abbrev Ent := Option Val
structure MSt where
  env : List Ent
  cells : List Ent
mutual
/-- nothing in it can be changed -/
def imm : D → Bool
  | .lst _ => false | .dct _ _ => false | .obj _ _ _ => false | .exc _ _ => false
  | .tup l => immL l
  | .fls l => immL l
  | .non => true | .bl _ => true | .int _ => true | .str _ => true | .ref _ => true | .vv _ => true
def immL : List D → Bool
  | [] => true
  | d :: r => imm d && immL r
end
structure Ks where
  K : PySem.W.Frag
  mg : Str → Option Value
  xr : Option (Addr × Addr)
/-- a list that nobody changes: the script, a constant of the module -/
def FzL (K : PySem.W.Frag) (H : Hp) (a : Addr) (xs : List V) : Prop := (∃ o, H a = some (.frz o (.lst xs))) ∨
    ∃ (o : Obj) (its : Array Value) (n : Nat), K.lookup a = some o ∧ o.cls = .type "list" ∧ o.dict = none ∧ o.data = .seq its n ∧ its.size ≤ sizeLine ∧ Vals xs its.toList
theorem FzL.sq {K : PySem.W.Frag} {H : Hp} {a : Addr} {xs : List V} (h : FzL K H a xs) : SqL K H a xs := h.imp .inr id
/-- what may be changed -/
def Wr : HO → Prop
  | .lst _ => True | .dK _ => True | .dT _ => True | .set _ _ => True | .ins _ _ _ => True | _ => False
mutual
inductive Rep (k : Ks) (m : List Addr) (F : Hp) : V → D → Prop
  | non : Rep k m F .non .non
  | bl (b : Bool) : Rep k m F (.bl b) (.bl b)
  | int (i : Int) : Rep k m F (.int i) (.int i)
  | str (s : Str) : Rep k m F (.str s) (.str s)
  | lst {a : Addr} {xs : List V} {l : List D} : F a = some (.lst xs) → RepL k m F xs l → Rep k m F (.ref a) (.lst l)
  | fls {a : Addr} {xs : List V} {l : List D} : FzL k.K F a xs → RepL k m F xs l → Rep k m F (.ref a) (.fls l)
  | tup {a : Addr} {xs : List V} {l : List D} : SqT k.K F a xs → RepL k m F xs l → Rep k m F (.ref a) (.tup l)
  | dct {a : Addr} {ks : List Key} {xs : List V} {l : List D} : Rd F a (.dK (ks.zip xs)) → ks.length = xs.length → RepL k m F xs l → Rep k m F (.ref a) (.dct ks l)
  | obj {a C dx : Addr} {c : Str} {ns : List Str} {xs : List V} {l : List D} : k.mg c = some (.ref C) → F a = some (.ins C dx (ns.zip xs)) → ns.length = xs.length → RepL k m F xs l → Rep k m F (.ref a) (.obj c ns l)
  | exc {a dd : Addr} {ns : List Str} {xs : List V} {l : List D} : k.xr = some (a, dd) → F dd = some (.xd (ns.zip xs)) → ns.length = xs.length → RepL k m F xs l → Rep k m F (.ref a) (.exc ns l)
  | ref {n : Nat} {a : Addr} : m[n]? = some a → Rep k m F (.ref a) (.ref n)
  | vv (v : V) : Rep k m F v (.vv v)
inductive RepL (k : Ks) (m : List Addr) (F : Hp) : List V → List D → Prop
  | nil : RepL k m F [] []
  | cons {v : V} {d : D} {vs : List V} {ds : List D} : Rep k m F v d → RepL k m F vs ds → RepL k m F (v :: vs) (d :: ds)
end
/-- the tables of cells grow -/
def Pre (m m' : List Addr) : Prop := ∀ (n : Nat) (a : Addr), m[n]? = some a → m'[n]? = some a
theorem Pre.refl {m : List Addr} : Pre m m := fun _ _ h => h
theorem Pre.trans {m m' m'' : List Addr} (h : Pre m m') (g : Pre m' m'') : Pre m m'' := fun n a e => g n a (h n a e)
theorem Pre.app {m : List Addr} {a : Addr} : Pre m (m ++ [a]) := fun n b e => by
  have lt := (List.getElem?_eq_some_iff.mp e).1
  rw [List.getElem?_append_left lt]
  exact e
section
variable {k : Ks} {m m' : List Addr} {F F' H H' : Hp}
mutual
theorem Rep.mono (e : Same F F') (p : Pre m m') : ∀ {v : V} {d : D}, Rep k m F v d → Rep k m' F' v d
  | _, _, .non => .non
  | _, _, .bl b => .bl b
  | _, _, .int i => .int i
  | _, _, .str s => .str s
  | _, _, .lst h r => .lst (e _ _ h) (RepL.mono e p r)
  | _, _, .fls h r => .fls (h.imp (fun ⟨o, z⟩ => ⟨o, e _ _ z⟩) id) (RepL.mono e p r)
  | _, _, .tup h r => .tup (Same.sqt e h) (RepL.mono e p r)
  | _, _, .dct h n r => .dct (Same.rd e h) n (RepL.mono e p r)
  | _, _, .obj c h n r => .obj c (e _ _ h) n (RepL.mono e p r)
  | _, _, .exc c h n r => .exc c (e _ _ h) n (RepL.mono e p r)
  | _, _, .ref h => .ref (p _ _ h)
  | _, _, .vv v => .vv v
theorem RepL.mono (e : Same F F') (p : Pre m m') : ∀ {vs : List V} {ds : List D}, RepL k m F vs ds → RepL k m' F' vs ds
  | _, _, .nil => .nil
  | _, _, .cons h r => .cons (Rep.mono e p h) (RepL.mono e p r)
end
/-- what cannot be changed is kept -/
def KeepT (H H' : Hp) : Prop := ∀ a u, H a = some u → ¬ Wr u → H' a = some u
theorem KeepT.sqt {K : PySem.W.Frag} {a : Addr} {xs : List V} (e : KeepT H H') (h : SqT K H a xs) : SqT K H' a xs := by
  rcases h with (h | ⟨o, h⟩) | h
  · exact .inl (.inl (e _ _ h (by intro z; exact z)))
  · exact .inl (.inr ⟨o, e _ _ h (by intro z; exact z)⟩)
  · exact .inr h
mutual
theorem Rep.immT (e : KeepT H H') (p : Pre m m') : ∀ {v : V} {d : D}, Rep k m H v d → imm d = true → Rep k m' H' v d
  | _, _, .non, _ => .non
  | _, _, .bl b, _ => .bl b
  | _, _, .int i, _ => .int i
  | _, _, .str s, _ => .str s
  | _, _, .lst h r, i => nomatch i
  | _, _, .fls h r, i => .fls (h.imp (fun ⟨o, z⟩ => ⟨o, e _ _ z (by intro q; exact q)⟩) id) (RepL.immT e p r i)
  | _, _, .tup h r, i => .tup (e.sqt h) (RepL.immT e p r i)
  | _, _, .dct h n r, i => nomatch i
  | _, _, .obj c h n r, i => nomatch i
  | _, _, .exc c h n r, i => nomatch i
  | _, _, .ref h, _ => .ref (p _ _ h)
  | _, _, .vv v, _ => .vv v
theorem RepL.immT (e : KeepT H H') (p : Pre m m') : ∀ {vs : List V} {ds : List D}, RepL k m H vs ds → immL ds = true → RepL k m' H' vs ds
  | _, _, .nil, _ => .nil
  | _, _, .cons h r, i => by
    have i2 := Bool.and_eq_true_iff.mp i
    exact .cons (Rep.immT e p h i2.1) (RepL.immT e p r i2.2)
end
theorem RepL.len : ∀ {vs : List V} {ds : List D}, RepL k m F vs ds → vs.length = ds.length
  | _, _, .nil => rfl
  | _, _, .cons _ r => by rw [List.length_cons, List.length_cons, RepL.len r]
theorem RepL.get : ∀ {vs : List V} {ds : List D} {i : Nat} {d : D}, RepL k m F vs ds → ds[i]? = some d → ∃ v, vs[i]? = some v ∧ Rep k m F v d
  | _, _, _, _, .nil, h => by simp at h
  | _, _, 0, _, .cons h _, e => by
    simp at e
    subst e
    exact ⟨_, rfl, h⟩
  | _, _, i + 1, _, .cons _ r, e => by
    obtain ⟨v, h1, h2⟩ := RepL.get (i := i) r (by simpa using e)
    exact ⟨v, by simpa using h1, h2⟩
theorem RepL.at : ∀ {vs : List V} {ds : List D} {i : Nat} {v : V}, RepL k m F vs ds → vs[i]? = some v → ∃ d, ds[i]? = some d ∧ Rep k m F v d
  | _, _, _, _, .nil, h => by simp at h
  | _, _, 0, _, .cons h _, e => by
    simp at e
    subst e
    exact ⟨_, rfl, h⟩
  | _, _, i + 1, _, .cons _ r, e => by
    obtain ⟨d, h1, h2⟩ := RepL.at (i := i) r (by simpa using e)
    exact ⟨d, by simpa using h1, h2⟩
theorem RepL.app : ∀ {vs : List V} {ds : List D} {ws : List V} {es : List D}, RepL k m F vs ds → RepL k m F ws es → RepL k m F (vs ++ ws) (ds ++ es)
  | _, _, _, _, .nil, h => h
  | _, _, _, _, .cons a r, h => .cons a (RepL.app r h)
theorem RepL.drop : ∀ {vs : List V} {ds : List D} (n : Nat), RepL k m F vs ds → RepL k m F (vs.drop n) (ds.drop n)
  | _, _, 0, h => h
  | _, _, _ + 1, .nil => .nil
  | _, _, n + 1, .cons _ r => RepL.drop n r
theorem RepL.take : ∀ {vs : List V} {ds : List D} (n : Nat), RepL k m F vs ds → RepL k m F (vs.take n) (ds.take n)
  | _, _, 0, _ => .nil
  | _, _, _ + 1, .nil => .nil
  | _, _, n + 1, .cons h r => .cons h (RepL.take n r)
theorem RepL.rev : ∀ {vs : List V} {ds : List D}, RepL k m F vs ds → RepL k m F vs.reverse ds.reverse
  | _, _, .nil => .nil
  | _, _, .cons h r => by
    rw [List.reverse_cons, List.reverse_cons]
    exact RepL.app (RepL.rev r) (.cons h .nil)
theorem immL_at : ∀ {ds : List D} {i : Nat} {d : D}, immL ds = true → ds[i]? = some d → imm d = true
  | [], _, _, _, e => by simp at e
  | x :: r, 0, d, h, e => by
    simp at e
    subst e
    exact (Bool.and_eq_true_iff.mp h).1
  | x :: r, i + 1, d, h, e => immL_at (i := i) (Bool.and_eq_true_iff.mp h).2 (by simpa using e)
/-! ### trees that are owned -/
mutual
inductive RepA (k : Ks) (m : List Addr) (H : Hp) : List Addr → V → D → Prop
  | imm {v : V} {d : D} : Rep k m H v d → imm d = true → RepA k m H [] v d
  | lst {a : Addr} {A : List Addr} {xs : List V} {l : List D} : H a = some (.lst xs) → RepAL k m H A xs l → RepA k m H (a :: A) (.ref a) (.lst l)
  | tup {a : Addr} {A : List Addr} {xs : List V} {l : List D} : H a = some (.tup xs) → RepAL k m H A xs l → RepA k m H A (.ref a) (.tup l)
  | dct {a : Addr} {A : List Addr} {ks : List Key} {xs : List V} {l : List D} : H a = some (.dK (ks.zip xs)) → ks.length = xs.length → RepAL k m H A xs l → RepA k m H (a :: A) (.ref a) (.dct ks l)
  | obj {a C dx : Addr} {A : List Addr} {c : Str} {ns : List Str} {xs : List V} {l : List D} : k.mg c = some (.ref C) → H a = some (.ins C dx (ns.zip xs)) → ns.length = xs.length → RepAL k m H A xs l → RepA k m H (a :: A) (.ref a) (.obj c ns l)
inductive RepAL (k : Ks) (m : List Addr) (H : Hp) : List Addr → List V → List D → Prop
  | nil : RepAL k m H [] [] []
  | cons {A B : List Addr} {v : V} {d : D} {vs : List V} {ds : List D} : RepA k m H A v d → RepAL k m H B vs ds → RepAL k m H (A ++ B) (v :: vs) (d :: ds)
end
/-- what is kept: the objects at A, and what cannot be changed -/
def Keep (A : List Addr) (H H' : Hp) : Prop := ∀ a u, H a = some u → (a ∈ A ∨ ¬ Wr u) → H' a = some u
theorem Keep.t {A : List Addr} (h : Keep A H H') : KeepT H H' := fun a u e n => h a u e (.inr n)
theorem Keep.sub {A B : List Addr} (h : Keep A H H') (s : ∀ a ∈ B, a ∈ A) : Keep B H H' := fun a u e n => h a u e (n.imp (s a) id)
theorem Keep.of_same {A : List Addr} (h : Same H H') : Keep A H H' := fun a u e _ => h a u e
mutual
theorem RepA.keep : ∀ {A : List Addr} {v : V} {d : D}, RepA k m H A v d → Keep A H H' → Pre m m' → RepA k m' H' A v d
  | _, _, _, .imm h i, e, p => .imm (h.immT e.t p i) i
  | _, _, _, .lst h r, e, p => .lst (e _ _ h (.inl (by simp))) (RepAL.keep r (e.sub (by intro a z; simp [z])) p)
  | _, _, _, .tup h r, e, p => .tup (e _ _ h (.inr (by intro z; exact z))) (RepAL.keep r e p)
  | _, _, _, .dct h n r, e, p => .dct (e _ _ h (.inl (by simp))) n (RepAL.keep r (e.sub (by intro a z; simp [z])) p)
  | _, _, _, .obj c h n r, e, p => .obj c (e _ _ h (.inl (by simp))) n (RepAL.keep r (e.sub (by intro a z; simp [z])) p)
theorem RepAL.keep : ∀ {A : List Addr} {vs : List V} {ds : List D}, RepAL k m H A vs ds → Keep A H H' → Pre m m' → RepAL k m' H' A vs ds
  | _, _, _, .nil, _, _ => .nil
  | _, _, _, .cons h r, e, p => .cons (RepA.keep h (e.sub (by intro a z; simp [z])) p) (RepAL.keep r (e.sub (by intro a z; simp [z])) p)
end
mutual
/-- given up: it may be read from now on -/
theorem RepA.rep : ∀ {A : List Addr} {v : V} {d : D}, RepA k m H A v d → Keep A H F → Rep k m F v d
  | _, _, _, .imm h i, e => h.immT e.t Pre.refl i
  | _, _, _, .lst h r, e => .lst (e _ _ h (.inl (by simp))) (RepAL.rep r (e.sub (by intro a z; simp [z])))
  | _, _, _, .tup h r, e => .tup (.inl (.inl (e _ _ h (.inr (by intro z; exact z))))) (RepAL.rep r e)
  | _, _, _, .dct h n r, e => .dct (.inl (e _ _ h (.inl (by simp)))) n (RepAL.rep r (e.sub (by intro a z; simp [z])))
  | _, _, _, .obj c h n r, e => .obj c (e _ _ h (.inl (by simp))) n (RepAL.rep r (e.sub (by intro a z; simp [z])))
theorem RepAL.rep : ∀ {A : List Addr} {vs : List V} {ds : List D}, RepAL k m H A vs ds → Keep A H F → RepL k m F vs ds
  | _, _, _, .nil, _ => .nil
  | _, _, _, .cons h r, e => .cons (RepA.rep h (e.sub (by intro a z; simp [z]))) (RepAL.rep r (e.sub (by intro a z; simp [z])))
end
mutual
theorem RepA.wr : ∀ {A : List Addr} {v : V} {d : D}, RepA k m H A v d → ∀ a ∈ A, ∃ u, H a = some u ∧ Wr u
  | _, _, _, .imm _ _ => fun a z => by simp at z
  | _, _, _, .lst h r => fun a z => by
    rcases List.mem_cons.mp z with rfl | z
    · exact ⟨_, h, trivial⟩
    · exact RepAL.wr r a z
  | _, _, _, .tup h r => RepAL.wr r
  | _, _, _, .dct h n r => fun a z => by
    rcases List.mem_cons.mp z with rfl | z
    · exact ⟨_, h, trivial⟩
    · exact RepAL.wr r a z
  | _, _, _, .obj c h n r => fun a z => by
    rcases List.mem_cons.mp z with rfl | z
    · exact ⟨_, h, trivial⟩
    · exact RepAL.wr r a z
theorem RepAL.wr : ∀ {A : List Addr} {vs : List V} {ds : List D}, RepAL k m H A vs ds → ∀ a ∈ A, ∃ u, H a = some u ∧ Wr u
  | _, _, _, .nil => fun a z => by simp at z
  | _, _, _, .cons h r => fun a z => by
    rcases List.mem_append.mp z with z | z
    · exact RepA.wr h a z
    · exact RepAL.wr r a z
end
theorem RepAL.len : ∀ {A : List Addr} {vs : List V} {ds : List D}, RepAL k m F A vs ds → vs.length = ds.length
  | _, _, _, .nil => rfl
  | _, _, _, .cons _ r => by rw [List.length_cons, List.length_cons, RepAL.len r]
theorem RepAL.app : ∀ {A : List Addr} {vs : List V} {ds : List D} {B : List Addr} {ws : List V} {es : List D}, RepAL k m F A vs ds → RepAL k m F B ws es → RepAL k m F (A ++ B) (vs ++ ws) (ds ++ es)
  | _, _, _, _, _, _, .nil, h => h
  | _, _, _, _, _, _, .cons a r, h => by
    rw [List.append_assoc]
    exact .cons a (RepAL.app r h)
/-- a row in two parts -/
theorem RepAL.split : ∀ {ds es : List D} {A : List Addr} {vs : List V}, RepAL k m F A vs (ds ++ es) → ∃ A1 A2 v1 v2, A = A1 ++ A2 ∧ vs = v1 ++ v2 ∧ RepAL k m F A1 v1 ds ∧ RepAL k m F A2 v2 es
  | [], _, _, _, h => ⟨[], _, [], _, rfl, rfl, .nil, h⟩
  | d :: ds, es, _, _, .cons (A := A) (v := v) a r => by
    obtain ⟨A1, A2, v1, v2, rfl, rfl, h1, h2⟩ := RepAL.split r
    exact ⟨A ++ A1, A2, v :: v1, v2, by rw [List.append_assoc], rfl, .cons a h1, h2⟩
/-- a row of what cannot be changed -/
theorem RepL.al : ∀ {vs : List V} {ds : List D}, RepL k m F vs ds → immL ds = true → RepAL k m F [] vs ds
  | _, _, .nil, _ => .nil
  | _, _, .cons h r, i => by
    have i2 := Bool.and_eq_true_iff.mp i
    exact .cons (A := []) (.imm h i2.1) (RepL.al r i2.2)
inductive RepO (k : Ks) (m : List Addr) (F H : Hp) : Own → List Addr → V → D → Prop
  | sh {v : V} {d : D} : Rep k m F v d → RepO k m F H .sh [] v d
  | bo {v : V} {d : D} : Rep k m H v d → RepO k m F H .bo [] v d
  | spl {a : Addr} {xs : List V} {l : List D} : H a = some (.lst xs) → RepL k m F xs l → RepO k m F H .sp [a] (.ref a) (.lst l)
  | spd {a : Addr} {ks : List Key} {xs : List V} {l : List D} : H a = some (.dK (ks.zip xs)) → ks.length = xs.length → RepL k m F xs l → RepO k m F H .sp [a] (.ref a) (.dct ks l)
  | spo {a C dx : Addr} {c : Str} {ns : List Str} {xs : List V} {l : List D} : k.mg c = some (.ref C) → H a = some (.ins C dx (ns.zip xs)) → ns.length = xs.length → RepL k m F xs l → RepO k m F H .sp [a] (.ref a) (.obj c ns l)
  | al {A : List Addr} {v : V} {d : D} : RepA k m H A v d → RepO k m F H .al A v d
variable {o : Own} {A : List Addr} {v : V} {d : D}
theorem RepO.wr (h : RepO k m F H o A v d) : ∀ a ∈ A, ∃ u, H a = some u ∧ Wr u := by
  cases h with
  | sh h => intro a z; simp at z
  | bo h => intro a z; simp at z
  | spl h r => intro a z; obtain rfl := List.mem_singleton.mp z; exact ⟨_, h, trivial⟩
  | spd h n r => intro a z; obtain rfl := List.mem_singleton.mp z; exact ⟨_, h, trivial⟩
  | spo c h n r => intro a z; obtain rfl := List.mem_singleton.mp z; exact ⟨_, h, trivial⟩
  | al h => exact h.wr
theorem RepO.move (h : RepO k m F H o A v d) (e : Same F F') (q : Keep A H H') (p : Pre m m') (b : o = .bo → Same H H') : RepO k m' F' H' o A v d := by
  cases h with
  | sh h => exact .sh (h.mono e p)
  | bo h => exact .bo (h.mono (b rfl) p)
  | spl h r => exact .spl (q _ _ h (.inl (by simp))) (r.mono e p)
  | spd h n r => exact .spd (q _ _ h (.inl (by simp))) n (r.mono e p)
  | spo c h n r => exact .spo c (q _ _ h (.inl (by simp))) n (r.mono e p)
  | al h => exact .al (h.keep q p)
/-- given up -/
theorem RepO.rep {G : Hp} (h : RepO k m F H o A v d) (e : Same F G) (q : Keep A H G) (b : o = .bo → Same H G) : Rep k m G v d := by
  cases h with
  | sh h => exact h.mono e Pre.refl
  | bo h => exact h.mono (b rfl) Pre.refl
  | spl h r => exact .lst (q _ _ h (.inl (by simp))) (r.mono e Pre.refl)
  | spd h n r => exact .dct (.inl (q _ _ h (.inl (by simp)))) n (r.mono e Pre.refl)
  | spo c h n r => exact .obj c (q _ _ h (.inl (by simp))) n (r.mono e Pre.refl)
  | al h => exact h.rep q
theorem KeepT.of_same (h : Same H H') : KeepT H H' := fun a u e _ => h a u e
end
/-! ### who owns what -/
abbrev Ow := Addr → Option (Nat ⊕ Nat)
open Classical in
/-- what all may read: neither kept aside nor owned -/
noncomputable def fz (P : Addr → Prop) (w : Ow) (H : Hp) : Hp := fun a => if P a ∨ w a ≠ none then none else H a
section
variable {k : Ks} {P P' : Addr → Prop} {w w' : Ow} {m m' : List Addr} {σ : L2.St} {H H' : Hp} {a : Addr} {u : HO}
theorem fz_at (h1 : ¬ P a) (h2 : w a = none) : fz P w H a = H a := by
  unfold fz
  rw [if_neg (by rintro (h | h); exact h1 h; exact h h2)]
theorem fz_inv (h : fz P w H a = some u) : ¬ P a ∧ w a = none ∧ H a = some u := by
  unfold fz at h
  split at h
  · cases h
  · rename_i n
    refine ⟨fun z => n (.inl z), ?_, h⟩
    cases e : w a with
    | none => rfl
    | some x => exact absurd (.inr (by rw [e]; simp)) n
theorem fz_same : Same (fz P w H) H := fun _ _ h => (fz_inv h).2.2
theorem fz_step (h : ∀ a u, H a = some u → ¬ P a → w a = none → H' a = some u ∧ ¬ P' a ∧ w' a = none) : Same (fz P w H) (fz P' w' H') := fun a u e => by
  obtain ⟨e1, e2, e3⟩ := fz_inv e
  obtain ⟨h1, h2, h3⟩ := h a u e3 e1 e2
  rw [fz_at h2 h3]
  exact h1
/-- a list's places, beside others -/
abbrev plus (A : List Addr) (P : Addr → Prop) : Addr → Prop := fun a => a ∈ A ∨ P a
/-- the machine's state stands for slots and heap -/
structure SR (k : Ks) (P : Addr → Prop) (w : Ow) (m : List Addr) (σ : L2.St) (H : Hp) (s : MSt) : Prop where
  wr : ∀ a, (P a ∨ w a ≠ none) → ∃ u, H a = some u ∧ Wr u
  dis : ∀ a, P a → w a = none
  len : s.env.length = σ.length
  mlen : s.cells.length = m.length
  env : ∀ i o d, s.env[i]? = some (some ⟨o, d⟩) → ∃ v A, σ[i]? = some (some v) ∧ RepO k m (fz P w H) H o A v d ∧ A.Nodup ∧ (∀ a ∈ A, w a = some (.inl i)) ∧ o ≠ .bo
  cel : ∀ j o d, s.cells[j]? = some (some ⟨o, d⟩) → ∃ a A, m[j]? = some a ∧ RepO k m (fz P w H) H o A (.ref a) d ∧ A.Nodup ∧ (∀ a ∈ A, w a = some (.inr j)) ∧ o ≠ .bo
/-- a step: what nobody owned stays as it is, and is owned by nobody still -/
structure Stp (w : Ow) (m : List Addr) (H : Hp) (A : List Addr) (w' : Ow) (m' : List Addr) (H' : Hp) : Prop where
  keep : ∀ a u, H a = some u → w a = none → H' a = some u ∧ w' a = none ∧ a ∉ A
  pre : Pre m m'
variable {s s' : MSt} {A B : List Addr}
theorem Stp.refl : Stp w m H [] w m H := ⟨fun a u e n => ⟨e, n, by simp⟩, Pre.refl⟩
theorem Stp.trans {w1 w2 : Ow} {m1 m2 : List Addr} {H1 H2 : Hp} (h : Stp w m H A w1 m1 H1) (g : Stp w1 m1 H1 B w2 m2 H2) : Stp w m H (A ++ B) w2 m2 H2 := by
  refine ⟨fun a u e n => ?_, h.pre.trans g.pre⟩
  obtain ⟨e1, n1, a1⟩ := h.keep a u e n
  obtain ⟨e2, n2, a2⟩ := g.keep a u e1 n1
  exact ⟨e2, n2, by simp [a1, a2]⟩
theorem Stp.less {w1 : Ow} {m1 : List Addr} {H1 : Hp} (h : Stp w m H A w1 m1 H1) (l : ∀ a ∈ B, a ∈ A) : Stp w m H B w1 m1 H1 :=
  ⟨fun a u e n => let ⟨e1, n1, a1⟩ := h.keep a u e n; ⟨e1, n1, fun z => a1 (l a z)⟩, h.pre⟩
theorem Stp.new (n : ∀ a ∈ A, H a = none) (e : Same H H') : Stp w m H A w m H' :=
  ⟨fun a u h z => ⟨e a u h, z, fun q => by rw [n a q] at h; cases h⟩, Pre.refl⟩
theorem SR.notree (r : SR k P w m σ H s) : ∀ a u, H a = some u → ¬ Wr u → ¬ P a ∧ w a = none := fun a u e n => by
  refine ⟨fun z => ?_, ?_⟩
  · obtain ⟨u', e', q⟩ := r.wr a (.inl z)
    rw [e] at e'
    cases e'
    exact n q
  · cases q : w a with
    | none => rfl
    | some x =>
      obtain ⟨u', e', q'⟩ := r.wr a (.inr (by rw [q]; simp))
      rw [e] at e'
      cases e'
      exact (n q').elim
/-- through a step: what is kept aside, what cannot be changed -/
theorem Stp.kept (h : Stp w m H B w' m' H') (r : SR k P w m σ H s) (n : ∀ a ∈ A, w a = none) : Keep A H H' := fun a u e q => by
  rcases q with q | q
  · exact (h.keep a u e (n a q)).1
  · exact (h.keep a u e (r.notree a u e q).2).1
theorem Stp.fz (h : Stp w m H B w' m' H') (l : ∀ a, P' a → P a ∨ a ∈ B) : Same (fz P w H) (fz P' w' H') := fz_step fun a u e n1 n2 => by
  obtain ⟨e1, e2, e3⟩ := h.keep a u e n2
  exact ⟨e1, fun z => (l a z).elim n1 e3, e2⟩
/-- nothing changed, something new kept aside -/
theorem SR.same (r : SR k P w m σ H s) (e : Same H H') (n : ∀ a ∈ A, H a = none) (p : ∀ a ∈ A, ∃ u, H' a = some u ∧ Wr u) : SR k (plus A P) w m σ H' s := by
  have st : Stp w m H A w m H' := Stp.new n e
  have f : Same (MM.fz P w H) (MM.fz (plus A P) w H') := st.fz fun a z => z.elim .inr .inl
  have old : ∀ a ∈ A, w a = none := fun a z => by
    cases q : w a with
    | none => rfl
    | some x =>
      obtain ⟨u, e, _⟩ := r.wr a (.inr (by rw [q]; simp))
      rw [n a z] at e
      cases e
  refine ⟨?_, ?_, r.len, r.mlen, ?_, ?_⟩
  · rintro a ((z | z) | z)
    · exact p a z
    · obtain ⟨u, h, q⟩ := r.wr a (.inl z)
      exact ⟨u, e a u h, q⟩
    · obtain ⟨u, h, q⟩ := r.wr a (.inr z)
      exact ⟨u, e a u h, q⟩
  · rintro a (z | z)
    · exact old a z
    · exact r.dis a z
  · intro i o d h
    obtain ⟨v, A', h1, h2, h3, h4, h5⟩ := r.env i o d h
    exact ⟨v, A', h1, h2.move f (Keep.of_same e) Pre.refl (fun _ => e), h3, h4, h5⟩
  · intro i o d h
    obtain ⟨v, A', h1, h2, h3, h4, h5⟩ := r.cel i o d h
    exact ⟨v, A', h1, h2.move f (Keep.of_same e) Pre.refl (fun _ => e), h3, h4, h5⟩
/-- less is kept aside -/
theorem SR.less (r : SR k P w m σ H s) (l : ∀ a, P' a → P a) : SR k P' w m σ H s := by
  have f : Same (MM.fz P w H) (MM.fz P' w H) := fz_step fun a u e n1 n2 => ⟨e, fun z => n1 (l a z), n2⟩
  refine ⟨fun a z => r.wr a (z.imp (l a) id), fun a z => r.dis a (l a z), r.len, r.mlen, ?_, ?_⟩
  · intro i o d h
    obtain ⟨v, A', h1, h2, h3, h4, h5⟩ := r.env i o d h
    exact ⟨v, A', h1, h2.move f (Keep.of_same fun _ _ z => z) Pre.refl (fun _ _ _ z => z), h3, h4, h5⟩
  · intro i o d h
    obtain ⟨v, A', h1, h2, h3, h4, h5⟩ := r.cel i o d h
    exact ⟨v, A', h1, h2.move f (Keep.of_same fun _ _ z => z) Pre.refl (fun _ _ _ z => z), h3, h4, h5⟩
theorem SR.drop (r : SR k (plus A P) w m σ H s) : SR k P w m σ H s := r.less fun _ z => .inr z
end
end MM

/-! What a piece of text reckons, as a function of the machine's state; what is wanted behind it. -/
namespace MM
open PySem PySem.Spec PyProof.Rows L2 GB
/-- a value (e: whether anything was changed on the way), an error, or nothing that we know -/
inductive Res (α : Type) where
  | ok (a : α) (s : MSt) (e : Bool) | err (c : Str) (ns : List Str) (l : List D) (s : MSt) | bad
def Res.ef {α : Type} (e : Bool) : Res α → Res α
  | .ok a s f => .ok a s (e || f)
  | .err c ns l s => .err c ns l s
  | .bad => .bad
def Res.bind {α β : Type} (r : Res α) (f : α → MSt → Res β) : Res β :=
  match r with
  | .ok a s e => (f a s).ef e
  | .err c ns l s => .err c ns l s
  | .bad => .bad
abbrev Mac := MSt → Res Val
abbrev Macs := MSt → Res (List Val)
abbrev Mab := MSt → Res Bool
/-- several values, their objects behind one another -/
inductive RepOL (k : Ks) (m : List Addr) (F H : Hp) : List Val → List Addr → List V → Prop
  | nil : RepOL k m F H [] [] []
  | cons {a : Val} {as : List Val} {A B : List Addr} {v : V} {vs : List V} : RepO k m F H a.o A v a.d → RepOL k m F H as B vs → RepOL k m F H (a :: as) (A ++ B) (v :: vs)
/-- a way gone from a base: A is kept aside for what is at hand -/
structure Stg (k : Ks) (P : Addr → Prop) (σ : L2.St) (w0 : Ow) (m0 : List Addr) (H0 : Hp) (A : List Addr) (w : Ow) (m : List Addr) (H : Hp) (s : MSt) (e : Bool) : Prop where
  sr : SR k (plus A P) w m σ H s
  st : Stp w0 m0 H0 A w m H
  nd : A.Nodup
  fl : e = false → Same H0 H ∧ w = w0 ∧ m = m0
  off : ∀ a ∈ A, ¬ P a
section
variable (k : Ks) (W : WX) (P : Addr → Prop) (w : Ow) (m : List Addr) (σ : L2.St) (H : Hp)
def PErr (c : Str) (ns : List Str) (l : List D) (s' : MSt) : Prop := ∀ C dd xs H' w' m', k.mg c = some (.ref C) → ns.length = xs.length → H' dd = some (.xd (ns.zip xs)) → RepL k m' (fz P w' H') xs l → SR k P w' m' σ H' s' → Stp w m H [] w' m' H' → W (.ref C) (some dd) σ H'
def PostE (Q : VK) : Res Val → Prop
  | .ok a s' e => ∀ v H' A w' m', Stg k P σ w m H A w' m' H' s' e → RepO k m' (fz (plus A P) w' H') H' a.o A v a.d → Q v H'
  | .err c ns l s' => PErr k W P w m σ H c ns l s'
  | .bad => False
def PostA (Q : List V → Hp → Prop) : Res (List Val) → Prop
  | .ok as s' e => ∀ vs H' A w' m', Stg k P σ w m H A w' m' H' s' e → RepOL k m' (fz (plus A P) w' H') H' as A vs → Q vs H'
  | .err c ns l s' => PErr k W P w m σ H c ns l s'
  | .bad => False
def PostT (Q : Bool → Hp → Prop) : Res Bool → Prop
  | .ok b s' e => ∀ H' w' m', Stg k P σ w m H [] w' m' H' s' e → Q b H'
  | .err c ns l s' => PErr k W P w m σ H c ns l s'
  | .bad => False
end
def tM (k : Ks) (W : WX) (f : Mac) : TE := fun σ H Q => ∃ P w m s, SR k P w m σ H s ∧ PostE k W P w m σ H Q (f s)
def tMA (k : Ks) (W : WX) (f : Macs) : TA := fun σ H Q => ∃ P w m s, SR k P w m σ H s ∧ PostA k W P w m σ H Q (f s)
def tMT (k : Ks) (W : WX) (f : Mab) : TT := fun σ H Q => ∃ P w m s, SR k P w m σ H s ∧ PostT k W P w m σ H Q (f s)
theorem pe_mono {X : Cx} {e : Expr} {t u : TE} (h : PE X e t) (i : ∀ σ H Q, u σ H Q → t σ H Q) : PE X e u := ⟨fun pins s σ H Q I q => h.run pins s σ H Q I (i σ H Q q)⟩
theorem pa_mono {X : Cx} {e : List Expr} {t u : TA} (h : PA X e t) (i : ∀ σ H Q, u σ H Q → t σ H Q) : PA X e u := ⟨fun pos pins s σ H Q I q => h.run pos pins s σ H Q I (i σ H Q q)⟩
theorem pt_mono {X : Cx} {e : Expr} {t u : TT} (h : PT X e t) (i : ∀ σ H Q, u σ H Q → t σ H Q) : PT X e u := ⟨fun pins s σ H Q I q => h.run pins s σ H Q I (i σ H Q q)⟩
theorem pw_mono {X : Cx} {e : Expr} {t u : TT} (h : PW X e t) (i : ∀ σ H Q, u σ H Q → t σ H Q) : PW X e u := ⟨fun wh pins s σ H Q I q => h.run wh pins s σ H Q I (i σ H Q q)⟩
theorem ps_mono {X : Cx} {e : Stmt} {t u : TS} (h : PS X e t) (i : ∀ D σ H, u D σ H → t D σ H) : PS X e u := ⟨fun pins s σ H D I q => h.run pins s σ H D I (i D σ H q)⟩
theorem pss_mono {X : Cx} {e : List Stmt} {t u : TS} (h : PSs X e t) (i : ∀ D σ H, u D σ H → t D σ H) : PSs X e u := ⟨fun pins s σ H D I q => h.run pins s σ H D I (i D σ H q)⟩
section
variable {k : Ks} {W : WX} {P P' : Addr → Prop} {w w1 w2 : Ow} {m m1 m2 : List Addr} {σ : L2.St} {H H1 H2 : Hp} {A B : List Addr} {e e2 : Bool} {Q : VK} {s s1 s2 : MSt}
theorem plus_plus : plus B (plus A P) = plus (A ++ B) P := by
  funext a
  apply propext
  constructor
  · rintro (h | h | h)
    · exact .inl (by simp [h])
    · exact .inl (by simp [h])
    · exact .inr h
  · rintro (h | h)
    · rcases List.mem_append.mp h with h | h
      · exact .inr (.inl h)
      · exact .inl h
    · exact .inr (.inr h)
theorem plus_nil : plus [] P = P := by
  funext a
  apply propext
  exact ⟨fun h => h.elim (fun z => by simp at z) id, .inr⟩
theorem Stp.off (st : Stp w m H B w1 m1 H1) (r : SR k (plus A P) w m σ H s) : ∀ a ∈ A, a ∉ B := fun a ha hb => by
  obtain ⟨u, e, _⟩ := r.wr a (.inl (.inl ha))
  exact (st.keep a u e (r.dis a (.inl ha))).2.2 hb
theorem nodup_app {A B : List Addr} (h1 : A.Nodup) (h2 : B.Nodup) (d : ∀ a ∈ A, a ∉ B) : (A ++ B).Nodup := by
  rw [List.nodup_append]
  exact ⟨h1, h2, fun a ha b hb e => d a ha (e ▸ hb)⟩
theorem Stg.refl (r : SR k P w m σ H s) : Stg k P σ w m H [] w m H s false := ⟨by rw [plus_nil]; exact r, .refl, List.nodup_nil, fun _ => ⟨fun _ _ z => z, rfl, rfl⟩, fun a z => by simp at z⟩
theorem Stg.ef (g : Stg k P σ w m H A w1 m1 H1 s1 e) (l : e2 = false → e = false) : Stg k P σ w m H A w1 m1 H1 s1 e2 := ⟨g.sr, g.st, g.nd, fun z => g.fl (l z), g.off⟩
/-- one way behind another -/
theorem Stg.trans (g : Stg k P σ w m H A w1 m1 H1 s1 e) (h : Stg k (plus A P) σ w1 m1 H1 B w2 m2 H2 s2 e2) : Stg k P σ w m H (A ++ B) w2 m2 H2 s2 (e || e2) := by
  refine ⟨by rw [← plus_plus]; exact h.sr, g.st.trans h.st, nodup_app g.nd h.nd (h.st.off g.sr), fun z => ?_, fun a z => ?_⟩
  rotate_left
  · rcases List.mem_append.mp z with z | z
    · exact g.off a z
    · exact fun q => h.off a z (.inr q)
  obtain ⟨z1, z2⟩ := Bool.or_eq_false_iff.mp z
  obtain ⟨f1, f2, f3⟩ := g.fl z1
  obtain ⟨g1, g2, g3⟩ := h.fl z2
  exact ⟨Same.trans f1 g1, g2.trans f2, g3.trans f3⟩
/-- less is kept aside -/
theorem Stg.less (g : Stg k P σ w m H A w1 m1 H1 s1 e) (l : ∀ a ∈ B, a ∈ A) (n : B.Nodup) : Stg k P σ w m H B w1 m1 H1 s1 e := ⟨g.sr.less fun a z => z.imp (l a) id, g.st.less l, n, g.fl, fun a z => g.off a (l a z)⟩
theorem Stg.bare (g : Stg k P σ w m H A w1 m1 H1 s1 e) : Stg k P σ w m H [] w1 m1 H1 s1 e := g.less (by simp) List.nodup_nil
/-- what is kept aside stays -/
theorem Stg.keep (g : Stg k (plus A P) σ w m H B w1 m1 H1 s1 e) (r : SR k (plus A P) w m σ H s) : Keep A H H1 := g.st.kept r fun a z => r.dis a (.inl z)
theorem Stg.fz (g : Stg k P σ w m H A w1 m1 H1 s1 e) : Same (fz P w H) (fz (plus A P) w1 H1) := g.st.fz fun a z => z.elim .inr .inl
/-- a new object at hand -/
theorem Stg.laid {p : Addr} {ob : HO} (g : Stg k P σ w m H A w1 m1 H1 s1 e) (n : H1 p = Option.none) (wr : Wr ob) : Stg k P σ w m H (p :: A) w1 m1 (upd H1 p ob) s1 e := by
  have sm : Same H1 (upd H1 p ob) := same_new n
  have z := g.sr.same (A := [p]) sm (by intro a q; obtain rfl := List.mem_singleton.mp q; exact n) (by intro a q; obtain rfl := List.mem_singleton.mp q; exact ⟨_, upd_same, wr⟩)
  rw [plus_plus] at z
  have old : ∀ a, plus A P a → a ≠ p := fun a q r => by
    obtain ⟨u, h, _⟩ := g.sr.wr a (.inl q)
    rw [r, n] at h
    cases h
  refine ⟨z.less ?_, ⟨fun a u h q => ?_, g.st.pre⟩, List.nodup_cons.mpr ⟨fun q => old p (.inl q) rfl, g.nd⟩, fun q => ?_, fun a q => ?_⟩
  · rintro a (q | q)
    · rcases List.mem_cons.mp q with q | q
      · exact .inl (by simp [q])
      · exact .inl (by simp [q])
    · exact .inr q
  · obtain ⟨h1, h2, h3⟩ := g.st.keep a u h q
    have ne : a ≠ p := ne_of_none h1 n
    exact ⟨by rw [upd_ne ne]; exact h1, h2, by simp [h3, ne]⟩
  · obtain ⟨f1, f2, f3⟩ := g.fl q
    exact ⟨Same.trans f1 sm, f2, f3⟩
  · rcases List.mem_cons.mp q with rfl | q
    · exact fun r => old _ (.inr r) rfl
    · exact g.off a q
/-- a new tuple -/
theorem Stg.laidT {p : Addr} {ob : HO} (g : Stg k P σ w m H A w1 m1 H1 s1 e) (n : H1 p = Option.none) : Stg k P σ w m H A w1 m1 (upd H1 p ob) s1 e := by
  have sm : Same H1 (upd H1 p ob) := same_new n
  have z := g.sr.same (A := []) sm (by simp) (by simp)
  rw [plus_nil] at z
  refine ⟨z, ⟨fun a u h q => ?_, g.st.pre⟩, g.nd, fun q => ?_, g.off⟩
  · obtain ⟨h1, h2, h3⟩ := g.st.keep a u h q
    exact ⟨sm _ _ h1, h2, h3⟩
  · obtain ⟨f1, f2, f3⟩ := g.fl q
    exact ⟨Same.trans f1 sm, f2, f3⟩
/-- the same objects, and more -/
theorem Stg.same {H2 : Hp} (g : Stg k P σ w m H A w1 m1 H1 s1 e) (sm : Same H1 H2) : Stg k P σ w m H A w1 m1 H2 s1 e := by
  have z := g.sr.same (A := []) sm (by simp) (by simp)
  rw [plus_nil] at z
  refine ⟨z, ⟨fun a u h q => ?_, g.st.pre⟩, g.nd, fun q => ?_, g.off⟩
  · obtain ⟨h1, h2, h3⟩ := g.st.keep a u h q
    exact ⟨sm _ _ h1, h2, h3⟩
  · obtain ⟨f1, f2, f3⟩ := g.fl q
    exact ⟨Same.trans f1 sm, f2, f3⟩
/-- what is at hand may be given up -/
theorem Stg.give (g : Stg k P σ w m H A w1 m1 H1 s1 e) (l : ∀ a ∈ B, a ∈ A) : Keep B H1 (MM.fz P w1 H1) := fun a u h q => by
  rcases q with q | q
  · rw [fz_at (g.off a (l a q)) (g.sr.dis a (.inl (l a q)))]
    exact h
  · obtain ⟨h1, h2⟩ := g.sr.notree a u h q
    rw [fz_at (fun z => h1 (.inr z)) h2]
    exact h
theorem Stg.keepT (g : Stg k P σ w m H A w1 m1 H1 s1 e) : KeepT H1 (MM.fz (plus A P) w1 H1) := fun a u h q => by
  obtain ⟨h1, h2⟩ := g.sr.notree a u h q
  rw [fz_at h1 h2]
  exact h
theorem Stg.fzl (g : Stg k P σ w m H A w1 m1 H1 s1 e) : Same (MM.fz (plus A P) w1 H1) (MM.fz P w1 H1) := fz_step fun a u h n z => ⟨h, fun q => n (.inr q), z⟩
theorem PErr.step {c : Str} {ns : List Str} {l : List D} {s' : MSt} (g : Stg k P σ w m H A w1 m1 H1 s1 e) (h : PErr k W P w m σ H c ns l s') : PErr k W (plus A P) w1 m1 σ H1 c ns l s' := by
  intro C dd xs H' w' m' e1 e2 e3 e4 e5 e6
  exact h C dd xs H' w' m' e1 e2 e3 (e4.mono (fz_step fun a u x y z => ⟨x, fun q => y (.inr q), z⟩) Pre.refl) e5.drop ((g.st.trans e6).less (by simp))
/-- what waits for the rest: values at hand, a wish about the rest -/
def Pend (k : Ks) (W : WX) (σ : L2.St) (Q : VK) (K : List Val → MSt → Res Val) (xs : List V) (H : Hp) : Prop :=
  ∃ P w0 m0 H0 w m s as A e, Stg k P σ w0 m0 H0 A w m H s e ∧ RepOL k m (MM.fz (plus A P) w H) H as A xs ∧ PostE k W P w0 m0 σ H0 Q ((K as s).ef e)
def PendT (k : Ks) (W : WX) (σ : L2.St) (Q : Bool → Hp → Prop) (K : List Val → MSt → Res Bool) (xs : List V) (H : Hp) : Prop :=
  ∃ P w0 m0 H0 w m s as A e, Stg k P σ w0 m0 H0 A w m H s e ∧ RepOL k m (MM.fz (plus A P) w H) H as A xs ∧ PostT k W P w0 m0 σ H0 Q ((K as s).ef e)
theorem RepOL.one {F : Hp} {a : Val} {v : V} (h : RepO k m F H a.o A v a.d) : RepOL k m F H [a] A [v] := by
  have z := RepOL.cons h .nil
  rw [List.append_nil] at z
  exact z
theorem RepOL.one_inv {F : Hp} {as : List Val} {v : V} (h : RepOL k m F H as A [v]) : ∃ a, as = [a] ∧ RepO k m F H a.o A v a.d := by
  cases h with
  | cons h r =>
    cases r
    rw [List.append_nil]
    exact ⟨_, rfl, h⟩
theorem RepOL.two_inv {F : Hp} {as : List Val} {v u : V} (h : RepOL k m F H as A [v, u]) : ∃ a b A1 A2, as = [a, b] ∧ A = A1 ++ A2 ∧ RepO k m F H a.o A1 v a.d ∧ RepO k m F H b.o A2 u b.d := by
  cases h with
  | cons h r =>
    obtain ⟨b, rfl, h2⟩ := r.one_inv
    exact ⟨_, _, _, _, rfl, rfl, h, h2⟩
theorem tM_bind {f : Mac} {K : Val → MSt → Res Val} (h : tM k W (fun s => (f s).bind K) σ H Q) : tM k W f σ H (fun x H1 => Pend k W σ Q (fun as s => K (as.headD ⟨.sh, .non⟩) s) [x] H1) := by
  obtain ⟨P, w, m, s, r, h⟩ := h
  refine ⟨P, w, m, s, r, ?_⟩
  dsimp only at h
  cases q : f s with
  | ok a s1 e1 =>
    rw [q] at h
    intro v H1 A w1 m1 g1 p1
    exact ⟨P, w, m, H, w1, m1, s1, [a], A, e1, g1, .one p1, h⟩
  | err c ns l s' =>
    rw [q] at h
    exact h
  | bad =>
    rw [q] at h
    exact h

theorem tM_bindT {f : Mac} {K : Val → MSt → Res Bool} {Q : Bool → Hp → Prop} (h : tMT k W (fun s => (f s).bind K) σ H Q) : tM k W f σ H (fun x H1 => PendT k W σ Q (fun as s => K (as.headD ⟨.sh, .non⟩) s) [x] H1) := by
  obtain ⟨P, w, m, s, r, h⟩ := h
  refine ⟨P, w, m, s, r, ?_⟩
  dsimp only at h
  cases q : f s with
  | ok a s1 e1 =>
    rw [q] at h
    intro v H1 A w1 m1 g1 p1
    exact ⟨P, w, m, H, w1, m1, s1, [a], A, e1, g1, .one p1, h⟩
  | err c ns l s' =>
    rw [q] at h
    exact h
  | bad =>
    rw [q] at h
    exact h

theorem tMA_bind {f : Macs} {K : List Val → MSt → Res Val} (h : tM k W (fun s => (f s).bind K) σ H Q) : tMA k W f σ H (fun xs H1 => Pend k W σ Q K xs H1) := by
  obtain ⟨P, w, m, s, r, h⟩ := h
  refine ⟨P, w, m, s, r, ?_⟩
  dsimp only at h
  cases q : f s with
  | ok a s1 e1 =>
    rw [q] at h
    intro v H1 A w1 m1 g1 p1
    exact ⟨P, w, m, H, w1, m1, s1, a, A, e1, g1, p1, h⟩
  | err c ns l s' =>
    rw [q] at h
    exact h
  | bad =>
    rw [q] at h
    exact h

theorem tMA_bindT {f : Macs} {K : List Val → MSt → Res Bool} {Q : Bool → Hp → Prop} (h : tMT k W (fun s => (f s).bind K) σ H Q) : tMA k W f σ H (fun xs H1 => PendT k W σ Q K xs H1) := by
  obtain ⟨P, w, m, s, r, h⟩ := h
  refine ⟨P, w, m, s, r, ?_⟩
  dsimp only at h
  cases q : f s with
  | ok a s1 e1 =>
    rw [q] at h
    intro v H1 A w1 m1 g1 p1
    exact ⟨P, w, m, H, w1, m1, s1, a, A, e1, g1, p1, h⟩
  | err c ns l s' =>
    rw [q] at h
    exact h
  | bad =>
    rw [q] at h
    exact h

/-- the wish, with another base: nothing at hand -/
theorem PostE.base {r : Res Val} (g : Stg k P σ w m H [] w1 m1 H1 s1 e) (h : PostE k W P w m σ H Q (r.ef e)) : PostE k W P w1 m1 σ H1 Q r := by
  cases r with
  | ok a s' e2 =>
    intro v H' A w' m' g2 p
    have z := g.trans (by rw [plus_nil]; exact g2)
    exact h v H' A w' m' z p
  | err c ns l s' =>
    have z := PErr.step g h
    rw [plus_nil] at z
    exact z
  | bad => exact h
theorem PostT.base {r : Res Bool} {Q : Bool → Hp → Prop} (g : Stg k P σ w m H [] w1 m1 H1 s1 e) (h : PostT k W P w m σ H Q (r.ef e)) : PostT k W P w1 m1 σ H1 Q r := by
  cases r with
  | ok a s' e2 =>
    intro H' w' m' g2
    have z := g.trans (by rw [plus_nil]; exact g2)
    exact h H' w' m' z
  | err c ns l s' =>
    have z := PErr.step g h
    rw [plus_nil] at z
    exact z
  | bad => exact h

theorem tMT_bind {f : Mab} {K : Bool → MSt → Res Val} (h : tM k W (fun s => (f s).bind K) σ H Q) : tMT k W f σ H (fun b H1 => tM k W (K b) σ H1 Q) := by
  obtain ⟨P, w, m, s, r, h⟩ := h
  refine ⟨P, w, m, s, r, ?_⟩
  dsimp only at h
  cases q : f s with
  | ok a s1 e1 =>
    rw [q] at h
    intro H1 w1 m1 g1
    exact ⟨P, w1, m1, s1, by have z := g1.sr; rw [plus_nil] at z; exact z, PostE.base g1 h⟩
  | err c ns l s' =>
    rw [q] at h
    exact h
  | bad =>
    rw [q] at h
    exact h

theorem tMT_bindT {f : Mab} {K : Bool → MSt → Res Bool} {Q : Bool → Hp → Prop} (h : tMT k W (fun s => (f s).bind K) σ H Q) : tMT k W f σ H (fun b H1 => tMT k W (K b) σ H1 Q) := by
  obtain ⟨P, w, m, s, r, h⟩ := h
  refine ⟨P, w, m, s, r, ?_⟩
  dsimp only at h
  cases q : f s with
  | ok a s1 e1 =>
    rw [q] at h
    intro H1 w1 m1 g1
    exact ⟨P, w1, m1, s1, by have z := g1.sr; rw [plus_nil] at z; exact z, PostT.base g1 h⟩
  | err c ns l s' =>
    rw [q] at h
    exact h
  | bad =>
    rw [q] at h
    exact h

theorem RepOL.len {F H : Hp} : ∀ {as : List Val} {A : List Addr} {vs : List V}, RepOL k m F H as A vs → as.length = vs.length
  | _, _, _, .nil => rfl
  | _, _, _, .cons _ r => by rw [List.length_cons, List.length_cons, r.len]
theorem RepOL.wr {F H : Hp} : ∀ {as : List Val} {A : List Addr} {vs : List V}, RepOL k m F H as A vs → ∀ a ∈ A, ∃ u, H a = some u ∧ Wr u
  | _, _, _, .nil => fun a z => by simp at z
  | _, _, _, .cons h r => fun a z => by
    rcases List.mem_append.mp z with z | z
    · exact h.wr a z
    · exact r.wr a z
theorem RepOL.move {m' : List Addr} {F F' H H' : Hp} : ∀ {as : List Val} {A : List Addr} {vs : List V}, RepOL k m F H as A vs → Same F F' → Keep A H H' → Pre m m' → ((∃ a ∈ as, a.o = .bo) → Same H H') → RepOL k m' F' H' as A vs
  | _, _, _, .nil, _, _, _, _ => .nil
  | _, _, _, .cons h r, e, q, p, b => .cons (h.move e (q.sub (by intro a z; simp [z])) p fun z => b ⟨_, by simp, z⟩) (r.move e (q.sub (by intro a z; simp [z])) p fun ⟨a, z, y⟩ => b ⟨a, by simp [z], y⟩)
/-- arguments from the left -/
def aNil : Macs := fun s => .ok [] s false
def aCons (f : Mac) (g : Macs) : Macs := fun s =>
  match f s with
  | .ok a s1 e1 =>
    match g s1 with
    | .ok as s2 e2 => bif e2 && decide (a.o = .bo) then .bad else .ok (a :: as) s2 (e1 || e2)
    | .err c ns l s2 => .err c ns l s2
    | .bad => .bad
  | .err c ns l s2 => .err c ns l s2
  | .bad => .bad
theorem aNil_read {Q : List V → Hp → Prop} (h : tMA k W aNil σ H Q) : Q [] H := by
  obtain ⟨P, w, m, s, r, h⟩ := h
  exact h [] H [] w m (.refl r) .nil
theorem aCons_read {f : Mac} {g : Macs} {Q : List V → Hp → Prop} (h : tMA k W (aCons f g) σ H Q) : tM k W f σ H fun v H1 => tMA k W g σ H1 fun vs H2 => Q (v :: vs) H2 := by
  obtain ⟨P, w, m, s, r, h⟩ := h
  refine ⟨P, w, m, s, r, ?_⟩
  unfold aCons at h
  cases q1 : f s with
  | ok a s1 ef =>
    rw [q1] at h
    dsimp only at h
    intro v H1 A w1 m1 g1 p1
    refine ⟨plus A P, w1, m1, s1, g1.sr, ?_⟩
    cases q2 : g s1 with
    | ok as s2 ef2 =>
      rw [q2] at h
      intro vs H2 B w2 m2 g2 p2
      dsimp only at h
      by_cases c : (ef2 && decide (a.o = .bo)) = true
      · rw [c] at h
        exact h.elim
      · rw [show (ef2 && decide (a.o = .bo)) = false by simpa using c] at h
        have bo : a.o = .bo → Same H1 H2 := fun z => by
          have : ef2 = false := by
            cases ef2
            · rfl
            · exact absurd (by simp [z]) c
          exact (g2.fl this).1
        refine h (v :: vs) H2 (A ++ B) w2 m2 (g1.trans g2) ?_
        rw [← plus_plus]
        exact .cons (p1.move g2.fz (g2.keep g1.sr) g2.st.pre bo) p2
    | err c ns l s' =>
      rw [q2] at h
      exact PErr.step g1 h
    | bad =>
      rw [q2] at h
      exact h
  | err c ns l s' =>
    rw [q1] at h
    exact h
  | bad =>
    rw [q1] at h
    exact h
theorem pa_nilM {X : Cx} : PA X [] (tMA k W aNil) := pa_mono pa_nil fun _ _ _ h => aNil_read h
theorem pa_consM {X : Cx} {e : Expr} {es : List Expr} {f : Mac} {g : Macs} (h1 : PE X e (tM k W f)) (h2 : PA X es (tMA k W g)) (hs : starEach (e :: es) X.env = (false, eval e X.env) :: starEach es X.env := by rfl) : PA X (e :: es) (tMA k W (aCons f g)) :=
  pa_mono (pa_cons h1 h2 hs) fun _ _ _ h => aCons_read h
end
end MM

/-! Expressions of the machine. -/
namespace MM
open PySem PySem.Spec PyProof.Rows L2 GB
abbrev VOp := List Val → MSt → Res Val
/-- a way to read a relation of values: by an operation of the machine -/
def Fit (k : Ks) (r : List V → Hp → VK → Prop) (op : VOp) : Prop := ∀ (W : WX) (σ : L2.St) (Q : VK) (xs : List V) (H : Hp), Pend k W σ Q op xs H → r xs H Q
def Fit2 (k : Ks) (r : R2) (op : VOp) : Prop := ∀ (W : WX) (σ : L2.St) (Q : VK) (x y : V) (H : Hp), Pend k W σ Q op [x, y] H → r x y H Q
def Fit1 (k : Ks) (r : V → Hp → VK → Prop) (op : VOp) : Prop := ∀ (W : WX) (σ : L2.St) (Q : VK) (x : V) (H : Hp), Pend k W σ Q op [x] H → r x H Q
def eN (fs : Macs) (op : VOp) : Mac := fun s => (fs s).bind op
def e1 (f : Mac) (op : VOp) : Mac := eN (aCons f aNil) op
def e2 (f g : Mac) (op : VOp) : Mac := eN (aCons f (aCons g aNil)) op
section
variable {k : Ks} {W : WX} {P : Addr → Prop} {w w1 : Ow} {m m1 : List Addr} {σ : L2.St} {H H1 : Hp} {A B : List Addr} {e : Bool} {Q : VK} {s s1 : MSt}
theorem tM_mono {f : Mac} {Q Q' : VK} (i : ∀ v H, Q v H → Q' v H) (h : tM k W f σ H Q) : tM k W f σ H Q' := by
  obtain ⟨P, w, m, s, r, h⟩ := h
  refine ⟨P, w, m, s, r, ?_⟩
  cases q : f s with
  | ok a s1 e1 =>
    rw [q] at h
    intro v H1 A w1 m1 g1 p1
    exact i _ _ (h v H1 A w1 m1 g1 p1)
  | err c ns l s' =>
    rw [q] at h
    exact h
  | bad =>
    rw [q] at h
    exact h
theorem tMA_mono {f : Macs} {Q Q' : List V → Hp → Prop} (i : ∀ v H, Q v H → Q' v H) (h : tMA k W f σ H Q) : tMA k W f σ H Q' := by
  obtain ⟨P, w, m, s, r, h⟩ := h
  refine ⟨P, w, m, s, r, ?_⟩
  cases q : f s with
  | ok a s1 e1 =>
    rw [q] at h
    intro v H1 A w1 m1 g1 p1
    exact i _ _ (h v H1 A w1 m1 g1 p1)
  | err c ns l s' =>
    rw [q] at h
    exact h
  | bad =>
    rw [q] at h
    exact h
theorem read1 {f : Mac} {op : VOp} (h : tM k W (e1 f op) σ H Q) : tM k W f σ H fun x H1 => Pend k W σ Q op [x] H1 :=
  tM_mono (fun v H1 h => aNil_read h) (aCons_read (tMA_bind h))
theorem read2 {f g : Mac} {op : VOp} (h : tM k W (e2 f g op) σ H Q) : tM k W f σ H fun x H1 => tM k W g σ H1 fun y H2 => Pend k W σ Q op [x, y] H2 :=
  tM_mono (fun v H1 h => tM_mono (fun v H1 h => aNil_read h) (aCons_read h)) (aCons_read (tMA_bind h))
/-! ### single values -/
def D.int? : D → Option Int | .int i => some i | _ => none
theorem int?_eq {d : D} {i : Int} (h : d.int? = some i) : d = .int i := by cases d <;> first | (cases h; rfl) | cases h
def D.str? : D → Option Str | .str i => some i | _ => none
theorem str?_eq {d : D} {i : Str} (h : d.str? = some i) : d = .str i := by cases d <;> first | (cases h; rfl) | cases h
def D.bl? : D → Option Bool | .bl i => some i | _ => none
theorem bl?_eq {d : D} {i : Bool} (h : d.bl? = some i) : d = .bl i := by cases d <;> first | (cases h; rfl) | cases h
theorem rep_of_int {F G : Hp} {o : Own} {v : V} {i : Int} (h : RepO k m F G o A v (.int i)) : v = .int i := by
  cases h with
  | sh h => cases h; rfl
  | bo h => cases h; rfl
  | al h => cases h with | imm h => cases h; rfl
theorem rep_of_str {F G : Hp} {o : Own} {v : V} {i : Str} (h : RepO k m F G o A v (.str i)) : v = .str i := by
  cases h with
  | sh h => cases h; rfl
  | bo h => cases h; rfl
  | al h => cases h with | imm h => cases h; rfl
theorem rep_of_bl {F G : Hp} {o : Own} {v : V} {i : Bool} (h : RepO k m F G o A v (.bl i)) : v = .bl i := by
  cases h with
  | sh h => cases h; rfl
  | bo h => cases h; rfl
  | al h => cases h with | imm h => cases h; rfl
theorem rep_of_vv {F G : Hp} {o : Own} {v u : V} (h : RepO k m F G o A v (.vv u)) : v = u := by
  cases h with
  | sh h => cases h; rfl
  | bo h => cases h; rfl
  | al h => cases h with | imm h => cases h; rfl
/-- an answer that needs no object of those at hand -/
theorem ans {o : Own} {d : D} {v : V} (g : Stg k P σ w m H A w1 m1 H1 s1 e) (h : PostE k W P w m σ H Q ((Res.ok ⟨o, d⟩ s1 false).ef e)) (r : RepO k m1 (fz P w1 H1) H1 o [] v d) : Q v H1 :=
  h v H1 [] w1 m1 (g.bare.ef fun z => by rw [Bool.or_false] at z; exact z) (by rw [plus_nil]; exact r)
theorem ansI {i : Int} (g : Stg k P σ w m H A w1 m1 H1 s1 e) (h : PostE k W P w m σ H Q ((Res.ok ⟨.al, .int i⟩ s1 false).ef e)) : Q (.int i) H1 := ans g h (.al (.imm (.int i) rfl))
theorem ansB {b : Bool} (g : Stg k P σ w m H A w1 m1 H1 s1 e) (h : PostE k W P w m σ H Q ((Res.ok ⟨.al, .bl b⟩ s1 false).ef e)) : Q (.bl b) H1 := ans g h (.al (.imm (.bl b) rfl))
theorem ansS {b : Str} (g : Stg k P σ w m H A w1 m1 H1 s1 e) (h : PostE k W P w m σ H Q ((Res.ok ⟨.al, .str b⟩ s1 false).ef e)) : Q (.str b) H1 := ans g h (.al (.imm (.str b) rfl))
theorem ansN (g : Stg k P σ w m H A w1 m1 H1 s1 e) (h : PostE k W P w m σ H Q ((Res.ok ⟨.al, .non⟩ s1 false).ef e)) : Q .non H1 := ans g h (.al (.imm .non rfl))
/-! ### names and constants -/
def rdO (a : Val) : Own := bif imm a.d then .al else bif decide (a.o = .sh) then .sh else .bo
def eVar (i : Nat) : Mac := fun s => match s.env[i]? with
  | some (some a) => .ok ⟨rdO a, a.d⟩ s false
  | _ => .bad
def eC (d : D) : Mac := fun s => bif imm d then .ok ⟨.al, d⟩ s false else .bad
theorem RepO.see {F : Hp} {o : Own} {v : V} {d : D} (h : RepO k m F H o A v d) (f : Same F H) : Rep k m H v d := h.rep f (fun _ _ z _ => z) (fun _ _ _ z => z)
theorem var_read {i : Nat} (h : tM k W (eVar i) σ H Q) : tVar i σ H Q := by
  obtain ⟨P, w, m, s, r, h⟩ := h
  unfold eVar at h
  cases q : s.env[i]? with
  | none =>
    rw [q] at h
    exact h.elim
  | some x =>
    cases x with
    | none =>
      rw [q] at h
      exact h.elim
    | some a =>
      rw [q] at h
      dsimp only at h
      obtain ⟨v, A, h1, h2, h3, h4, h5⟩ := r.env i a.o a.d q
      refine ⟨v, h1, ?_⟩
      have see := h2.see fz_same
      refine h v H [] w m (.refl r) ?_
      rw [plus_nil]
      show RepO k m (fz P w H) H (rdO a) [] v a.d
      unfold rdO
      cases ei : imm a.d with
      | true => exact .al (.imm see ei)
      | false =>
        by_cases eo : a.o = .sh
        · rw [eo, show decide (Own.sh = Own.sh) = true from rfl]
          rw [eo] at h2
          cases h2 with
          | sh h => exact .sh h
        · rw [decide_eq_false eo]
          exact .bo see
theorem pe_varM {X : Cx} {i : Nat} {x : Str} {pos : Pos} (hN : X.N[i]? = some x) (hv : Vis X.env.scope x) (hd : (x == ("__debug__" : Str)) = false := by decide) (hcd : (x == ("__classdict__" : Str)) = false := by decide) : PE X (.Name x pos) (tM k W (eVar i)) :=
  pe_mono (pe_var hN hv hd hcd) fun _ _ _ h => var_read h
theorem const_read {v : V} {d : D} (hr : ∀ m F, Rep k m F v d) (h : tM k W (eC d) σ H Q) : tC v σ H Q := by
  obtain ⟨P, w, m, s, r, h⟩ := h
  unfold eC at h
  cases ei : imm d with
  | false =>
    rw [ei] at h
    exact h.elim
  | true =>
    rw [ei] at h
    refine h v H [] w m (.refl r) ?_
    exact .al (.imm (hr _ _) ei)
theorem pe_constM {X : Cx} {e : Expr} {v : V} {d : D} (he : PE X e (tC v)) (hr : ∀ m F, Rep k m F v d) : PE X e (tM k W (eC d)) := pe_mono he fun _ _ _ h => const_read hr h
theorem pe_intM {X : Cx} {i : Int} {j pos} : PE X (.Constant (.int i) j pos) (tM k W (eC (.int i))) := pe_constM pe_int fun _ _ => .int i
theorem pe_blM {X : Cx} {i : Bool} {j pos} : PE X (.Constant (.bool i) j pos) (tM k W (eC (.bl i))) := pe_constM pe_bl fun _ _ => .bl i
theorem pe_nonM {X : Cx} {j pos} : PE X (.Constant .none j pos) (tM k W (eC .non)) := pe_constM pe_non fun _ _ => .non
theorem pe_strM {X : Cx} {i : Str} {j pos} : PE X (.Constant (.str i) j pos) (tM k W (eC (.str i))) := pe_constM pe_str fun _ _ => .str i
/-! ### operations on numbers, texts, truths -/
def opII (g : Int → Int → Option D) : VOp := fun as s => match as with
  | [a, b] => match a.d.int?, b.d.int? with
    | some i, some j => match g i j with
      | some d => .ok ⟨.al, d⟩ s false
      | none => .bad
    | _, _ => .bad
  | _ => .bad
theorem opII_inv {g : Int → Int → Option D} {x y : V} {H : Hp} (h : Pend k W σ Q (opII g) [x, y] H) : ∃ i j d, x = .int i ∧ y = .int j ∧ g i j = some d ∧ ((∀ m F, ∃ v, Rep k m F v d ∧ imm d = true) → ∀ v, (∀ m F, Rep k m F v d) → Q v H) := by
  obtain ⟨P, w0, m0, H0, w, m, s, as, A, e, g1, p, h⟩ := h
  obtain ⟨a, b, A1, A2, rfl, rfl, p1, p2⟩ := p.two_inv
  unfold opII at h
  dsimp only at h
  cases q1 : a.d.int? with
  | none =>
    rw [q1] at h
    exact h.elim
  | some i =>
    cases q2 : b.d.int? with
    | none =>
      rw [q1, q2] at h
      exact h.elim
    | some j =>
      cases q3 : g i j with
      | none =>
        rw [q1, q2] at h
        dsimp only at h
        rw [q3] at h
        exact h.elim
      | some d =>
        rw [q1, q2] at h
        dsimp only at h
        rw [q3] at h
        rw [int?_eq q1] at p1
        rw [int?_eq q2] at p2
        refine ⟨i, j, d, rep_of_int p1, rep_of_int p2, q3, fun z v hv => ?_⟩
        obtain ⟨_, _, z⟩ := z m (fz P w H)
        exact ans g1 h (.al (.imm (hv _ _) z))
def gI (f : Int → Int → Int) : Int → Int → Option D := fun i j => some (.int (f i j))
def gB (f : Int → Int → Bool) : Int → Int → Option D := fun i j => some (.bl (f i j))
open Classical in
noncomputable def gIc (C : Int → Int → Prop) (f : Int → Int → Int) : Int → Int → Option D := fun i j => if C i j then some (.int (f i j)) else none
theorem fit_I0 {f : Int → Int → Int} : Fit2 k (rI0 fun i j => .int (f i j)) (opII (gI f)) := fun W σ Q x y H h => by
  obtain ⟨i, j, d, rfl, rfl, e, q⟩ := opII_inv h
  cases e
  exact ⟨i, j, rfl, rfl, q (fun _ _ => ⟨_, .int _, rfl⟩) _ fun _ _ => .int _⟩
theorem fit_B0 {f : Int → Int → Bool} : Fit2 k (rI0 fun i j => .bl (f i j)) (opII (gB f)) := fun W σ Q x y H h => by
  obtain ⟨i, j, d, rfl, rfl, e, q⟩ := opII_inv h
  cases e
  exact ⟨i, j, rfl, rfl, q (fun _ _ => ⟨_, .bl _, rfl⟩) _ fun _ _ => .bl _⟩
theorem fit_Ic {C : Int → Int → Prop} {f : Int → Int → Int} : Fit2 k (rI C fun i j => .int (f i j)) (opII (gIc C f)) := fun W σ Q x y H h => by
  obtain ⟨i, j, d, rfl, rfl, e, q⟩ := opII_inv h
  unfold gIc at e
  split at e
  · rename_i hc
    cases e
    exact ⟨i, j, rfl, rfl, hc, q (fun _ _ => ⟨_, .int _, rfl⟩) _ fun _ _ => .int _⟩
  · cases e
theorem pe_opM {X : Cx} {op : Operator} {r : R2} {o : VOp} {f g : Mac} {a b : Expr} {pos : Pos} (ho : OpR X (binaryOp op) r) (fit : Fit2 k r o) (ha : PE X a (tM k W f)) (hb : PE X b (tM k W g)) : PE X (.BinOp a op b pos) (tM k W (e2 f g o)) :=
  pe_mono (pe_op ho ha hb) fun σ H Q h => tM_mono (fun v H1 h => tM_mono (fun u H2 h => fit W σ Q v u H2 h) h) (read2 h)
theorem pe_cmpM {X : Cx} {op : CmpOp} {r : R2} {o : VOp} {f g : Mac} {a b : Expr} {pos : Pos} (ho : OpR X (compareOp op) r) (fit : Fit2 k r o) (ha : PE X a (tM k W f)) (hb : PE X b (tM k W g)) (hm : behindInMarks op b = false) : PE X (.Compare a [op] [b] pos) (tM k W (e2 f g o)) :=
  pe_mono (pe_cmpR ho ha hb hm) fun σ H Q h => tM_mono (fun v H1 h => tM_mono (fun u H2 h => fit W σ Q v u H2 h) h) (read2 h)
theorem pe_unM {X : Cx} {op : UnaryOp} {r : V → Hp → VK → Prop} {o : VOp} {f : Mac} {a : Expr} {pos : Pos} (ho : UnR X (unaryOp op) r) (fit : Fit1 k r o) (ha : PE X a (tM k W f)) : PE X (.UnaryOp op a pos) (tM k W (e1 f o)) :=
  pe_mono (pe_un ho ha) fun σ H Q h => tM_mono (fun v H1 h => fit W σ Q v H1 h) (read1 h)
def opI (g : Int → D) : VOp := fun as s => match as with
  | [a] => match a.d.int? with
    | some i => .ok ⟨.al, g i⟩ s false
    | _ => .bad
  | _ => .bad
theorem fit_neg {f : Int → Int} : Fit1 k (rU fun i => .int (f i)) (opI fun i => .int (f i)) := fun W σ Q x H h => by
  obtain ⟨P, w0, m0, H0, w, m, s, as, A, e, g1, p, h⟩ := h
  obtain ⟨a, rfl, p1⟩ := p.one_inv
  unfold opI at h
  dsimp only at h
  cases q1 : a.d.int? with
  | none =>
    rw [q1] at h
    exact h.elim
  | some i =>
    rw [q1] at h
    rw [int?_eq q1] at p1
    exact ⟨i, rep_of_int p1, ansI g1 h⟩
/-! ### what is seen of a value -/
def der (s : MSt) : D → Option D
  | .ref n => match s.cells[n]? with
    | some (some a) => some a.d
    | _ => none
  | d => some d
def nb (a : Val) : Bool := match a.d with
  | .ref _ => false
  | _ => decide (a.o ≠ .bo)
/-- how a part of a value is at hand -/
def inO (a : Val) (d : D) : Own := bif imm d then .al else bif nb a then .sh else .bo
theorem der_rep {a : Val} {x : V} {d : D} {F : Hp} (g : Stg k P σ w m H A w1 m1 H1 s1 e) (r : RepO k m1 F H1 a.o B x a.d) (f : Same F H1) (h : der s1 a.d = some d) : Rep k m1 H1 x d := by
  cases q : a.d with
  | ref n =>
    rw [q] at h r
    unfold der at h
    dsimp only at h
    cases q2 : s1.cells[n]? with
    | none =>
      rw [q2] at h
      cases h
    | some y =>
      cases y with
      | none =>
        rw [q2] at h
        cases h
      | some b =>
        rw [q2] at h
        cases h
        obtain ⟨c, C, h1, h2, _⟩ := g.sr.cel n b.o b.d q2
        have e2 : x = .ref c := by
          have see := r.see f
          cases see with
          | ref z =>
            rw [h1] at z
            cases z
            rfl
        rw [e2]
        exact h2.see fz_same
  | _ =>
    have e2 : d = a.d := by
      rw [q] at h ⊢
      exact (Option.some.inj h).symm
    rw [e2]
    exact r.see f
/-- .. where it is not borrowed -/
theorem der_free {a : Val} {x : V} {d : D} (g : Stg k P σ w m H A w1 m1 H1 s1 e) (r : RepO k m1 (fz (plus A P) w1 H1) H1 a.o B x a.d) (l : ∀ a ∈ B, a ∈ A) (h : der s1 a.d = some d) (n : nb a = true) : Rep k m1 (fz P w1 H1) x d := by
  have e2 : d = a.d ∧ a.o ≠ .bo := by
    unfold nb at n
    cases q : a.d with
    | ref _ =>
      rw [q] at n
      cases n
    | _ =>
      rw [q] at h n
      exact ⟨(Option.some.inj h).symm, of_decide_eq_true n⟩
  rw [e2.1]
  exact r.rep g.fzl (g.give l) fun z => absurd z e2.2
theorem inO_rep {a : Val} {v : V} {d : D} (h1 : Rep k m1 H1 v d) (h2 : nb a = true → Rep k m1 (fz P w1 H1) v d) : RepO k m1 (fz P w1 H1) H1 (inO a d) [] v d := by
  unfold inO
  cases e : imm d with
  | true => exact .al (.imm h1 e)
  | false =>
    cases q : nb a with
    | true => exact .sh (h2 q)
    | false => exact .bo h1
/-- what may be taken by places -/
def D.seq? : D → Option (List D)
  | .lst l => some l | .fls l => some l | .tup l => some l | _ => none
theorem rep_seq {F : Hp} {x : V} {d : D} {l : List D} (h : Rep k m F x d) (e : d.seq? = some l) : ∃ a xs, x = .ref a ∧ (SqL k.K F a xs ∨ SqT k.K F a xs) ∧ RepL k m F xs l := by
  cases h with
  | lst h r => cases e; exact ⟨_, _, rfl, .inl (.inl (.inl h)), r⟩
  | fls h r => cases e; exact ⟨_, _, rfl, .inl h.sq, r⟩
  | tup h r => cases e; exact ⟨_, _, rfl, .inr h, r⟩
  | _ => cases e
theorem len?_rep {F : Hp} {x : V} {d : D} {l : List D} (h : Rep k m F x d) (e : d.seq? = some l) : LenV k.K x F l.length := by
  obtain ⟨a, xs, rfl, h1, h2⟩ := rep_seq h e
  exact h1.elim (fun z => .inl ⟨xs, z, h2.len.symm⟩) fun z => .inr ⟨xs, z, h2.len.symm⟩
theorem SqL.val {F G : Hp} {K : PySem.W.Frag} {a : Addr} {xs : List V} (h : SqL K F a xs) (e : Same F G) : SqL K G a xs := Same.sql e h
theorem atI_rep {xs : List V} {l : List D} {i : Int} {d : D} (r : RepL k m H xs l) (h : atI l i = some d) : ∃ v, atI xs i = some v ∧ Rep k m H v d := by
  have hl := r.len
  unfold atI at h ⊢
  rw [hl]
  cases q : ixN l.length i with
  | none =>
    rw [q] at h
    cases h
  | some n =>
    rw [q] at h
    exact RepL.get r h
theorem RepL.same_val {F : Hp} {xs ys : List V} {l : List D} {i : Nat} {v : V} {d : D} (r : RepL k m F xs l) (h1 : xs[i]? = some v) (h2 : l[i]? = some d) : Rep k m F v d := by
  obtain ⟨d', e, r'⟩ := RepL.at r h1
  rw [h2] at e
  cases e
  exact r'
/-- o[i] -/
def opIx : VOp := fun as s => match as with
  | [a, b] => match (der s a.d).bind D.seq?, b.d.int? with
    | some l, some i => match atI l i with
      | some d => .ok ⟨inO a d, d⟩ s false
      | none => .bad
    | _, _ => .bad
  | _ => .bad
end
end MM

/-! Subscripts, displays, calls of builtins. -/
namespace MM
open PySem PySem.Spec PyProof.Rows L2 GB
section
variable {k : Ks} {W : WX} {P : Addr → Prop} {w w1 : Ow} {m m1 : List Addr} {σ : L2.St} {H H1 : Hp} {A B : List Addr} {e : Bool} {Q : VK} {s s1 : MSt} {X : Cx}
/-- lists alone, tuples alone -/
def D.lst? : D → Option (List D)
  | .lst l => some l | .fls l => some l | _ => none
def D.tup? : D → Option (List D)
  | .tup l => some l | _ => none
theorem lst_seq {d : D} {l : List D} (h : d.lst? = some l) : d.seq? = some l := by cases d <;> first | exact h | cases h
theorem tup_seq {d : D} {l : List D} (h : d.tup? = some l) : d.seq? = some l := by cases d <;> first | exact h | cases h
theorem rep_lst {F : Hp} {x : V} {d : D} {l : List D} (h : Rep k m F x d) (e : d.lst? = some l) : ∃ a xs, x = .ref a ∧ SqL k.K F a xs ∧ RepL k m F xs l := by
  cases h with
  | lst h r => cases e; exact ⟨_, _, rfl, .inl (.inl h), r⟩
  | fls h r => cases e; exact ⟨_, _, rfl, h.sq, r⟩
  | _ => cases e
theorem rep_tup {F : Hp} {x : V} {d : D} {l : List D} (h : Rep k m F x d) (e : d.tup? = some l) : ∃ a xs, x = .ref a ∧ SqT k.K F a xs ∧ RepL k m F xs l := by
  cases h with
  | tup h r => cases e; exact ⟨_, _, rfl, h, r⟩
  | _ => cases e
/-- a row at hand: what it is in the heap -/
theorem base_seq {a : Val} {x : V} {l : List D} (g : Stg k P σ w m H A w1 m1 H1 s1 e) (r : RepO k m1 (fz (plus A P) w1 H1) H1 a.o B x a.d) (sub : ∀ a ∈ B, a ∈ A) (h : (der s1 a.d).bind D.seq? = some l) :
    ∃ c xs, x = .ref c ∧ (SqL k.K H1 c xs ∨ SqT k.K H1 c xs) ∧ RepL k m1 H1 xs l ∧ (nb a = true → RepL k m1 (fz P w1 H1) xs l) := by
  obtain ⟨d1, q4, q5⟩ := Option.bind_eq_some_iff.mp h
  cases n : nb a with
  | true =>
    obtain ⟨c, xs, rfl, hs, hr⟩ := rep_seq (der_free g r sub q4 n) q5
    exact ⟨c, xs, rfl, hs.imp (Same.sql fz_same) (Same.sqt fz_same), hr.mono fz_same Pre.refl, fun _ => hr⟩
  | false =>
    obtain ⟨c, xs, rfl, hs, hr⟩ := rep_seq (der_rep g r (Same.trans g.fzl fz_same) q4) q5
    exact ⟨c, xs, rfl, hs, hr, fun z => nomatch z⟩
theorem base_lst {a : Val} {x : V} {l : List D} (g : Stg k P σ w m H A w1 m1 H1 s1 e) (r : RepO k m1 (fz (plus A P) w1 H1) H1 a.o B x a.d) (sub : ∀ a ∈ B, a ∈ A) (h : (der s1 a.d).bind D.lst? = some l) :
    ∃ c xs, x = .ref c ∧ SqL k.K H1 c xs ∧ RepL k m1 H1 xs l ∧ (nb a = true → RepL k m1 (fz P w1 H1) xs l) := by
  obtain ⟨d1, q4, q5⟩ := Option.bind_eq_some_iff.mp h
  cases n : nb a with
  | true =>
    obtain ⟨c, xs, rfl, hs, hr⟩ := rep_lst (der_free g r sub q4 n) q5
    exact ⟨c, xs, rfl, Same.sql fz_same hs, hr.mono fz_same Pre.refl, fun _ => hr⟩
  | false =>
    obtain ⟨c, xs, rfl, hs, hr⟩ := rep_lst (der_rep g r (Same.trans g.fzl fz_same) q4) q5
    exact ⟨c, xs, rfl, hs, hr, fun z => nomatch z⟩
theorem base_tup {a : Val} {x : V} {l : List D} (g : Stg k P σ w m H A w1 m1 H1 s1 e) (r : RepO k m1 (fz (plus A P) w1 H1) H1 a.o B x a.d) (sub : ∀ a ∈ B, a ∈ A) (h : (der s1 a.d).bind D.tup? = some l) :
    ∃ c xs, x = .ref c ∧ SqT k.K H1 c xs ∧ RepL k m1 H1 xs l ∧ (nb a = true → RepL k m1 (fz P w1 H1) xs l) := by
  obtain ⟨d1, q4, q5⟩ := Option.bind_eq_some_iff.mp h
  cases n : nb a with
  | true =>
    obtain ⟨c, xs, rfl, hs, hr⟩ := rep_tup (der_free g r sub q4 n) q5
    exact ⟨c, xs, rfl, Same.sqt fz_same hs, hr.mono fz_same Pre.refl, fun _ => hr⟩
  | false =>
    obtain ⟨c, xs, rfl, hs, hr⟩ := rep_tup (der_rep g r (Same.trans g.fzl fz_same) q4) q5
    exact ⟨c, xs, rfl, hs, hr, fun z => nomatch z⟩
theorem base_str {a : Val} {x : V} {z : Str} {F : Hp} (g : Stg k P σ w m H A w1 m1 H1 s1 e) (r : RepO k m1 F H1 a.o B x a.d) (f : Same F H1) (h : (der s1 a.d).bind D.str? = some z) : x = .str z := by
  obtain ⟨d, q4, q5⟩ := Option.bind_eq_some_iff.mp h
  have r := der_rep g r f q4
  rw [str?_eq q5] at r
  cases r
  rfl
/-- one sign of a text -/
def opIxS : VOp := fun as s => match as with
  | [a, b] => match (der s a.d).bind D.str?, b.d.int? with
    | some z, some i => match atI z.cps.toList i with
      | some c => bif decide (z.length ≤ sizeLine) then .ok ⟨.al, .str ⟨#[c]⟩⟩ s false else .bad
      | none => .bad
    | _, _ => .bad
  | _ => .bad
theorem fit_ixS : Fit2 k (rIx k.K) opIxS := fun W σ Q x y H h => by
  obtain ⟨P, w0, m0, H0, w, m, s, as, A, e, g1, p, h⟩ := h
  obtain ⟨a, b, A1, A2, rfl, rfl, p1, p2⟩ := p.two_inv
  unfold opIxS at h
  dsimp only at h
  obtain ⟨z, q1⟩ : ∃ zz, (der s a.d).bind D.str? = some zz := by
    cases q : (der s a.d).bind D.str? with
    | none => exfalso; simp only [q] at h; exact h
    | some z => exact ⟨z, rfl⟩
  simp only [q1] at h
  obtain ⟨i, q2⟩ : ∃ zz, b.d.int? = some zz := by
    cases q : b.d.int? with
    | none => exfalso; simp only [q] at h; exact h
    | some z => exact ⟨z, rfl⟩
  simp only [q2] at h
  obtain ⟨c, q3⟩ : ∃ zz, atI z.cps.toList i = some zz := by
    cases q : atI z.cps.toList i with
    | none => exfalso; simp only [q] at h; exact h
    | some z => exact ⟨z, rfl⟩
  simp only [q3] at h
  rw [int?_eq q2] at p2
  have hz : z.length ≤ sizeLine := by
    by_cases z : z.length ≤ sizeLine
    · exact z
    · exfalso
      rw [decide_eq_false z] at h
      exact h
  rw [decide_eq_true hz] at h
  exact .inr (.inr ⟨z, i, c, base_str g1 p1 (Same.trans g1.fzl fz_same) q1, rep_of_int p2, hz, q3, ansS g1 h⟩)
theorem fit_ix : Fit2 k (rIx k.K) opIx := fun W σ Q x y H h => by
  obtain ⟨P, w0, m0, H0, w, m, s, as, A, e, g1, p, h⟩ := h
  obtain ⟨a, b, A1, A2, rfl, rfl, p1, p2⟩ := p.two_inv
  unfold opIx at h
  dsimp only at h
  obtain ⟨l, q1⟩ : ∃ zz, (der s a.d).bind D.seq? = some zz := by
    cases q : (der s a.d).bind D.seq? with
    | none => exfalso; simp only [q] at h; exact h
    | some z => exact ⟨z, rfl⟩
  simp only [q1] at h
  obtain ⟨i, q2⟩ : ∃ zz, b.d.int? = some zz := by
    cases q : b.d.int? with
    | none => exfalso; simp only [q] at h; exact h
    | some z => exact ⟨z, rfl⟩
  simp only [q2] at h
  obtain ⟨d, q3⟩ : ∃ zz, atI l i = some zz := by
    cases q : atI l i with
    | none => exfalso; simp only [q] at h; exact h
    | some z => exact ⟨z, rfl⟩
  simp only [q3] at h
  rw [int?_eq q2] at p2
  obtain ⟨c, xs, rfl, hs, hr, hf⟩ := base_seq g1 p1 (by intro z hz; simp [hz]) q1
  obtain ⟨v, hv, rv⟩ := atI_rep hr q3
  have out : Q v H := by
    refine ans g1 h (inO_rep rv fun n => ?_)
    obtain ⟨v2, hv2, rv2⟩ := atI_rep (hf n) q3
    rw [hv] at hv2
    cases hv2
    exact rv2
  rcases hs with hs | hs
  · exact .inl ⟨c, xs, i, v, rfl, rep_of_int p2, hs, hv, out⟩
  · exact .inr (.inl ⟨c, xs, i, v, rfl, rep_of_int p2, hs, hv, out⟩)
theorem pe_ixM {f g : Mac} {a b : Expr} {pos : Pos} {o : VOp} (fit : Fit2 k (rIx k.K) o) (ha : PE X a (tM k W f)) (hb : PE X b (tM k W g)) (hs : PlainIx b) (hK : X.K = k.K := by rfl) : PE X (.Subscript a b pos) (tM k W (e2 f g o)) := by
  have hx : IxR X (rIx k.K) := hK ▸ ix_seq
  exact pe_mono (pe_ix hx ha hb hs) fun σ H Q h => tM_mono (fun v H1 h => tM_mono (fun u H2 h => fit W σ Q v u H2 h) h) (read2 h)
/-! ### displays -/
def anyBo (as : List Val) : Bool := as.any fun a => decide (a.o = .bo)
def allAl (as : List Val) : Bool := as.all fun a => decide (a.o = .al)
def dsOf (as : List Val) : List D := as.map (·.d)
theorem RepOL.free {F : Hp} (f : Same F (fz P w H)) (q : Keep A H (fz P w H)) : ∀ {as : List Val} {A' : List Addr} {vs : List V}, RepOL k m F H as A' vs → (∀ a ∈ A', a ∈ A) → anyBo as = false → RepL k m (fz P w H) vs (dsOf as)
  | _, _, _, .nil, _, _ => .nil
  | _, _, _, .cons (a := a) h r, l, n => by
    have n2 : (decide (a.o = .bo) || anyBo _) = false := n
    obtain ⟨n3, n4⟩ := Bool.or_eq_false_iff.mp n2
    exact .cons (h.rep f (q.sub fun a z => l a (by simp [z])) fun z => absurd z (of_decide_eq_false n3)) (RepOL.free f q r (fun a z => l a (by simp [z])) n4)
theorem RepOL.als {F H' : Hp} (q : Keep A H H') : ∀ {as : List Val} {A' : List Addr} {vs : List V}, RepOL k m F H as A' vs → (∀ a ∈ A', a ∈ A) → allAl as = true → RepAL k m H' A' vs (dsOf as)
  | _, _, _, .nil, _, _ => .nil
  | _, _, _, .cons (a := a) h r, l, n => by
    have n2 : (decide (a.o = .al) && allAl _) = true := n
    obtain ⟨n3, n4⟩ := Bool.and_eq_true_iff.mp n2
    have e := of_decide_eq_true n3
    rw [e] at h
    cases h with
    | al h => exact .cons (h.keep (q.sub fun a z => l a (by simp [z])) Pre.refl) (RepOL.als q r (fun a z => l a (by simp [z])) n4)
theorem Keep.up {p : Addr} {ob : HO} (n : H p = none) : Keep A H (upd H p ob) := Keep.of_same (same_new n)
/-- [a, b, ..] -/
def opLst : VOp := fun as s => bif anyBo as || decide (1000 < as.length) then .bad else .ok ⟨bif allAl as then .al else .sp, .lst (dsOf as)⟩ s false
/-- (a, b, ..) -/
def opTup : VOp := fun as s => bif anyBo as || decide (1000 < as.length) then .bad else .ok ⟨bif allAl as then .al else .sh, .tup (dsOf as)⟩ s false
theorem fit_lst : Fit k (fun xs H Q => xs.length ≤ sizeLine ∧ ∀ p, H p = none → Q (.ref p) (upd H p (.lst xs))) opLst := fun W σ Q xs H h => by
  obtain ⟨P, w0, m0, H0, w, m, s, as, A, e, g1, p, h⟩ := h
  unfold opLst at h
  cases c : (anyBo as || decide (1000 < as.length)) with
  | true =>
    rw [c] at h
    exact h.elim
  | false =>
    rw [c] at h
    obtain ⟨c1, c2⟩ := Bool.or_eq_false_iff.mp c
    have ln := p.len
    refine ⟨GB.sz _ (by rw [← ln]; have := of_decide_eq_false c2; omega), fun q nq => ?_⟩
    have g2 := g1.laid (ob := .lst xs) nq trivial
    cases c3 : allAl as with
    | true =>
      rw [c3] at h
      refine h (.ref q) _ _ _ _ (g2.ef fun z => by rw [Bool.or_false] at z; exact z) ?_
      exact .al (.lst upd_same (p.als (Keep.up nq) (fun _ z => z) c3))
    | false =>
      rw [c3] at h
      have g3 : Stg k P σ w0 m0 H0 [q] w m (upd H q (.lst xs)) s e := g2.less (by simp) (by simp)
      refine h (.ref q) _ _ _ _ (g3.ef fun z => by rw [Bool.or_false] at z; exact z) ?_
      refine .spl upd_same ((p.free g1.fzl (g1.give fun _ z => z) (fun _ z => z) c1).mono ?_ Pre.refl)
      exact fz_step fun a u z1 z2 z3 => ⟨same_new nq _ _ z1, fun z4 => z4.elim (fun z5 => by obtain rfl := List.mem_singleton.mp z5; rw [nq] at z1; cases z1) z2, z3⟩
theorem fit_tup : Fit k (fun xs H Q => xs.length ≤ sizeLine ∧ ∀ p, H p = none → Q (.ref p) (upd H p (.tup xs))) opTup := fun W σ Q xs H h => by
  obtain ⟨P, w0, m0, H0, w, m, s, as, A, e, g1, p, h⟩ := h
  unfold opTup at h
  cases c : (anyBo as || decide (1000 < as.length)) with
  | true =>
    rw [c] at h
    exact h.elim
  | false =>
    rw [c] at h
    obtain ⟨c1, c2⟩ := Bool.or_eq_false_iff.mp c
    have ln := p.len
    refine ⟨GB.sz _ (by rw [← ln]; have := of_decide_eq_false c2; omega), fun q nq => ?_⟩
    have g2 := g1.laidT (ob := .tup xs) nq
    cases c3 : allAl as with
    | true =>
      rw [c3] at h
      refine h (.ref q) _ _ _ _ (g2.ef fun z => by rw [Bool.or_false] at z; exact z) ?_
      exact .al (.tup upd_same (p.als (Keep.up nq) (fun _ z => z) c3))
    | false =>
      rw [c3] at h
      refine h (.ref q) _ _ _ _ (g2.bare.ef fun z => by rw [Bool.or_false] at z; exact z) ?_
      rw [plus_nil]
      have f : Same (fz P w H) (fz P w (upd H q (.tup xs))) := fz_step fun a u z1 z2 z3 => ⟨same_new nq _ _ z1, z2, z3⟩
      refine .sh (.tup (.inl (.inl ?_)) ((p.free g1.fzl (g1.give fun _ z => z) (fun _ z => z) c1).mono f Pre.refl))
      have z := g2.sr.notree q _ upd_same (by intro z; exact z)
      rw [fz_at (fun y => z.1 (.inr y)) z.2]
      exact upd_same
theorem pe_lstM {fs : Macs} {es : List Expr} {pos : Pos} (h : PA X es (tMA k W fs)) : PE X (.List es pos) (tM k W (eN fs opLst)) := pe_mono (pe_lst h) fun σ H Q h => tMA_mono (fun xs H1 h => fit_lst W σ Q xs H1 h) (tMA_bind h)
theorem pe_tupM {fs : Macs} {es : List Expr} {x1} {pos : Pos} (h : PA X es (tMA k W fs)) : PE X (.Tuple es x1 pos) (tM k W (eN fs opTup)) := pe_mono (pe_tup h) fun σ H Q h => tMA_mono (fun xs H1 h => fit_tup W σ Q xs H1 h) (tMA_bind h)
/-! ### calls of builtins -/
theorem pe_callM {x : Str} {p pos : Pos} {e : Expr} {es : List Expr} {fs : Macs} {id : String} {r : List V → Hp → VK → Prop} {op : VOp} (hc : CallR X (.builtin id) r) (fit : Fit k r op) (hg : Gl X x) (hm : X.mg x = none) (hv : bootBuiltins x = some (.builtin id)) (ha : PA X (e :: es) (tMA k W fs))
    (hn : x ≠ "__name__" := by decide) (hdb : (x == ("__debug__" : Str)) = false := by decide) (he : starEach (e :: es) X.env = (false, eval e X.env) :: starEach es X.env := by rfl) (hpl : (backTo pos (starEach es X.env)).any (·.1) = false := by rfl) :
    PE X (.Call (.Name x p) (e :: es) [] pos) (tM k W (eN fs op)) := pe_mono (pe_callB hc hg hm hv ha hn hdb he hpl) fun σ H Q h => tMA_mono (fun xs H1 h => fit W σ Q xs H1 h) (tMA_bind h)
theorem pe_callTyM {x : Str} {p pos : Pos} {e : Expr} {es : List Expr} {fs : Macs} {T : String} {r : List V → Hp → VK → Prop} {op : VOp} (hc : CallR X (.type T) r) (fit : Fit k r op) (hg : Gl X x) (hm : X.mg x = none) (hv : bootBuiltins x = some (.type T)) (ha : PA X (e :: es) (tMA k W fs))
    (hn : x ≠ "__name__" := by decide) (hdb : (x == ("__debug__" : Str)) = false := by decide) (he : starEach (e :: es) X.env = (false, eval e X.env) :: starEach es X.env := by rfl) (hpl : (backTo pos (starEach es X.env)).any (·.1) = false := by rfl) :
    PE X (.Call (.Name x p) (e :: es) [] pos) (tM k W (eN fs op)) := pe_mono (pe_callTy hc hg hm hv ha hn hdb he hpl) fun σ H Q h => tMA_mono (fun xs H1 h => fit W σ Q xs H1 h) (tMA_bind h)
/-- how long -/
def lenD : D → Option Nat
  | .lst l => some l.length | .fls l => some l.length | .tup l => some l.length | .dct ks _ => some ks.length
  | .str z => bif decide (z.length ≤ sizeLine) then some z.length else none
  | _ => none
def opLen : VOp := fun as s => match as with
  | [a] => match (der s a.d).bind lenD with
    | some n => .ok ⟨.al, .int n⟩ s false
    | none => .bad
  | _ => .bad
def rLenR (K : PySem.W.Frag) : List V → Hp → VK → Prop := fun xs H Q => ∃ x n, xs = [x] ∧ (LenV K x H n ∨ ∃ a kvs, x = .ref a ∧ Rd H a (.dK kvs) ∧ n = kvs.length) ∧ Q (.int n) H
theorem fit_len : Fit k (rLenR k.K) opLen := fun W σ Q xs H h => by
  obtain ⟨P, w0, m0, H0, w, m, s, as, A, e, g1, p, h⟩ := h
  unfold opLen at h
  rcases as with _ | ⟨a, _ | ⟨b, as⟩⟩
  · exact h.elim
  rotate_left
  · exact h.elim
  obtain ⟨x, rfl⟩ : ∃ x, xs = [x] := by
    have z := p.len
    match xs, z with
    | [x], _ => exact ⟨x, rfl⟩
  obtain ⟨a', ea, p1⟩ := p.one_inv
  cases ea
  dsimp only at h
  obtain ⟨n, q1⟩ : ∃ zz, (der s a.d).bind lenD = some zz := by
    cases q : (der s a.d).bind lenD with
    | none => exfalso; simp only [q] at h; exact h
    | some z => exact ⟨z, rfl⟩
  simp only [q1] at h
  obtain ⟨d, q4, q5⟩ := Option.bind_eq_some_iff.mp q1
  have r := der_rep g1 p1 (Same.trans g1.fzl fz_same) q4
  refine ⟨_, n, rfl, ?_, ansI g1 h⟩
  cases r with
  | lst h1 r => cases q5; exact .inl (.inl ⟨_, .inl (.inl h1), r.len.symm⟩)
  | fls h1 r => cases q5; exact .inl (.inl ⟨_, h1.sq, r.len.symm⟩)
  | tup h1 r => cases q5; exact .inl (.inr ⟨_, h1, r.len.symm⟩)
  | dct h1 n r => cases q5; exact .inr ⟨_, _, rfl, h1, by rw [List.length_zip, n, Nat.min_self]⟩
  | str z =>
    unfold lenD at q5
    by_cases hz : z.length ≤ sizeLine
    · dsimp only at q5
      rw [decide_eq_true hz] at q5
      cases q5
      exact .inl ⟨hz, rfl⟩
    · dsimp only at q5
      rw [decide_eq_false hz] at q5
      cases q5
  | _ => cases q5
theorem cr_len (hK : X.K = k.K := by rfl) : CallR X (.builtin "len") (rLenR k.K) := by
  rw [← hK]
  intro pins s σ H xs us Q I r q
  obtain ⟨x, n, rfl, q | ⟨a, kvs, rfl, ha, rfl⟩, z⟩ := q
  · exact call_len pins s σ H [x] us Q I r ⟨x, n, rfl, q, z⟩
  · obtain ⟨u, rfl, ru⟩ := vals1 r
    cases ru
    exact d_len I ha fun t s' I' => ⟨.int kvs.length, H, I', ⟨t, rfl⟩, z⟩
def opII' (g : Int → Int → Int) : VOp := opII (gI g)
def opAbs : VOp := opI fun i => .int (if i < 0 then -i else i)
theorem fit_abs : Fit k (fun xs H Q => ∃ i, xs = [V.int i] ∧ Q (.int (if i < 0 then -i else i)) H) opAbs := fun W σ Q xs H h => by
  unfold opAbs at h
  obtain ⟨P, w0, m0, H0, w, m, s, as, A, e, g1, p, h⟩ := h
  unfold opI at h
  rcases as with _ | ⟨a, _ | ⟨b, as⟩⟩
  · exact h.elim
  rotate_left
  · exact h.elim
  obtain ⟨x, rfl⟩ : ∃ x, xs = [x] := by
    have z := p.len
    match xs, z with
    | [x], _ => exact ⟨x, rfl⟩
  obtain ⟨a', ea, p1⟩ := p.one_inv
  cases ea
  dsimp only at h
  obtain ⟨i, q1⟩ : ∃ zz, a.d.int? = some zz := by
    cases q : a.d.int? with
    | none => exfalso; simp only [q] at h; exact h
    | some z => exact ⟨z, rfl⟩
  simp only [q1] at h
  rw [int?_eq q1] at p1
  exact ⟨i, by rw [rep_of_int p1], ansI g1 h⟩
theorem fit_max2 : Fit k (fun xs H Q => ∃ i j, xs = [V.int i, V.int j] ∧ Q (.int (if j > i then j else i)) H) (opII (gI fun i j => if j > i then j else i)) := fun W σ Q xs H h => by
  obtain ⟨P, w0, m0, H0, w, m, s, as, A, e, g1, p, h⟩ := h
  unfold opII gI at h
  rcases as with _ | ⟨a, _ | ⟨b, _ | ⟨c, as⟩⟩⟩
  · exact h.elim
  · exact h.elim
  rotate_left
  · exact h.elim
  obtain ⟨x, y, rfl⟩ : ∃ x y, xs = [x, y] := by
    have z := p.len
    match xs, z with
    | [x, y], _ => exact ⟨x, y, rfl⟩
  obtain ⟨a', b', A1, A2, ea, rfl, p1, p2⟩ := p.two_inv
  cases ea
  dsimp only at h
  obtain ⟨i, q1⟩ : ∃ zz, a.d.int? = some zz := by
    cases q : a.d.int? with
    | none => exfalso; simp only [q] at h; exact h
    | some z => exact ⟨z, rfl⟩
  simp only [q1] at h
  obtain ⟨j, q2⟩ : ∃ zz, b.d.int? = some zz := by
    cases q : b.d.int? with
    | none => exfalso; simp only [q] at h; exact h
    | some z => exact ⟨z, rfl⟩
  simp only [q2] at h
  rw [int?_eq q1] at p1
  rw [int?_eq q2] at p2
  exact ⟨i, j, by rw [rep_of_int p1, rep_of_int p2], ansI g1 h⟩
theorem fit_min2 : Fit k (fun xs H Q => ∃ i j, xs = [V.int i, V.int j] ∧ Q (.int (if j < i then j else i)) H) (opII (gI fun i j => if j < i then j else i)) := fun W σ Q xs H h => by
  obtain ⟨P, w0, m0, H0, w, m, s, as, A, e, g1, p, h⟩ := h
  unfold opII gI at h
  rcases as with _ | ⟨a, _ | ⟨b, _ | ⟨c, as⟩⟩⟩
  · exact h.elim
  · exact h.elim
  rotate_left
  · exact h.elim
  obtain ⟨x, y, rfl⟩ : ∃ x y, xs = [x, y] := by
    have z := p.len
    match xs, z with
    | [x, y], _ => exact ⟨x, y, rfl⟩
  obtain ⟨a', b', A1, A2, ea, rfl, p1, p2⟩ := p.two_inv
  cases ea
  dsimp only at h
  obtain ⟨i, q1⟩ : ∃ zz, a.d.int? = some zz := by
    cases q : a.d.int? with
    | none => exfalso; simp only [q] at h; exact h
    | some z => exact ⟨z, rfl⟩
  simp only [q1] at h
  obtain ⟨j, q2⟩ : ∃ zz, b.d.int? = some zz := by
    cases q : b.d.int? with
    | none => exfalso; simp only [q] at h; exact h
    | some z => exact ⟨z, rfl⟩
  simp only [q2] at h
  rw [int?_eq q1] at p1
  rw [int?_eq q2] at p2
  exact ⟨i, j, by rw [rep_of_int p1, rep_of_int p2], ansI g1 h⟩
/-- rows of numbers, of truths, of texts -/
def intsOf : List D → Option (List Int)
  | [] => some []
  | d :: r => match d.int?, intsOf r with
    | some i, some l => some (i :: l)
    | _, _ => none
def blsOf : List D → Option (List Bool)
  | [] => some []
  | d :: r => match d.bl?, blsOf r with
    | some i, some l => some (i :: l)
    | _, _ => none
def strsOf : List D → Option (List Str)
  | [] => some []
  | d :: r => match d.str?, strsOf r with
    | some i, some l => some (i :: l)
    | _, _ => none
theorem intsOf_map : ∀ l : List Int, intsOf (l.map D.int) = some l
  | [] => rfl
  | i :: l => by
    show (match some i, intsOf (l.map D.int) with | some i, some l => some (i :: l) | _, _ => none) = _
    rw [intsOf_map l]
theorem blsOf_map : ∀ l : List Bool, blsOf (l.map D.bl) = some l
  | [] => rfl
  | i :: l => by
    show (match some i, blsOf (l.map D.bl) with | some i, some l => some (i :: l) | _, _ => none) = _
    rw [blsOf_map l]
theorem strsOf_map : ∀ l : List Str, strsOf (l.map D.str) = some l
  | [] => rfl
  | i :: l => by
    show (match some i, strsOf (l.map D.str) with | some i, some l => some (i :: l) | _, _ => none) = _
    rw [strsOf_map l]
theorem intsOf_rep {F : Hp} : ∀ {vs : List V} {ds : List D} {l : List Int}, RepL k m F vs ds → intsOf ds = some l → vs = l.map V.int
  | _, _, _, .nil, e => by cases e; rfl
  | _, _, _, .cons (d := d) (ds := ds) h r, e => by
    unfold intsOf at e
    cases q1 : d.int? with
    | none =>
      rw [q1] at e
      cases e
    | some i =>
      cases q2 : intsOf ds with
      | none =>
        rw [q1, q2] at e
        cases e
      | some l =>
        rw [q1, q2] at e
        cases e
        rw [int?_eq q1] at h
        cases h
        rw [intsOf_rep r q2]
        rfl
theorem blsOf_rep {F : Hp} : ∀ {vs : List V} {ds : List D} {l : List Bool}, RepL k m F vs ds → blsOf ds = some l → vs = l.map V.bl
  | _, _, _, .nil, e => by cases e; rfl
  | _, _, _, .cons (d := d) (ds := ds) h r, e => by
    unfold blsOf at e
    cases q1 : d.bl? with
    | none =>
      rw [q1] at e
      cases e
    | some i =>
      cases q2 : blsOf ds with
      | none =>
        rw [q1, q2] at e
        cases e
      | some l =>
        rw [q1, q2] at e
        cases e
        rw [bl?_eq q1] at h
        cases h
        rw [blsOf_rep r q2]
        rfl
theorem strsOf_rep {F : Hp} : ∀ {vs : List V} {ds : List D} {l : List Str}, RepL k m F vs ds → strsOf ds = some l → vs = l.map V.str
  | _, _, _, .nil, e => by cases e; rfl
  | _, _, _, .cons (d := d) (ds := ds) h r, e => by
    unfold strsOf at e
    cases q1 : d.str? with
    | none =>
      rw [q1] at e
      cases e
    | some i =>
      cases q2 : strsOf ds with
      | none =>
        rw [q1, q2] at e
        cases e
      | some l =>
        rw [q1, q2] at e
        cases e
        rw [str?_eq q1] at h
        cases h
        rw [strsOf_rep r q2]
        rfl
def opInts (g : List Int → Option D) : VOp := fun as s => match as with
  | [a] => match ((der s a.d).bind D.lst?).bind intsOf with
    | some l => match g l with
      | some d => .ok ⟨.al, d⟩ s false
      | none => .bad
    | none => .bad
  | _ => .bad
def opBls (g : List Bool → Bool) : VOp := fun as s => match as with
  | [a] => match ((der s a.d).bind D.lst?).bind blsOf with
    | some l => .ok ⟨.al, .bl (g l)⟩ s false
    | none => .bad
  | _ => .bad
def minL : List Int → Option D
  | [] => none
  | i :: l => some (.int (l.foldl min i))
def maxL : List Int → Option D
  | [] => none
  | i :: l => some (.int (l.foldl max i))
theorem ints_base {a : Val} {x : V} {l : List Int} (g : Stg k P σ w m H A w1 m1 H1 s1 e) (r : RepO k m1 (fz (plus A P) w1 H1) H1 a.o B x a.d) (sub : ∀ a ∈ B, a ∈ A) (h : ((der s1 a.d).bind D.lst?).bind intsOf = some l) : ∃ c, x = .ref c ∧ SqL k.K H1 c (l.map V.int) := by
  obtain ⟨ds, q1, q2⟩ := Option.bind_eq_some_iff.mp h
  obtain ⟨c, xs, rfl, hs, hr, _⟩ := base_lst g r sub q1
  rw [intsOf_rep hr q2] at hs
  exact ⟨c, rfl, hs⟩
theorem bls_base {a : Val} {x : V} {l : List Bool} (g : Stg k P σ w m H A w1 m1 H1 s1 e) (r : RepO k m1 (fz (plus A P) w1 H1) H1 a.o B x a.d) (sub : ∀ a ∈ B, a ∈ A) (h : ((der s1 a.d).bind D.lst?).bind blsOf = some l) : ∃ c, x = .ref c ∧ SqL k.K H1 c (l.map V.bl) := by
  obtain ⟨ds, q1, q2⟩ := Option.bind_eq_some_iff.mp h
  obtain ⟨c, xs, rfl, hs, hr, _⟩ := base_lst g r sub q1
  rw [blsOf_rep hr q2] at hs
  exact ⟨c, rfl, hs⟩
theorem fit_sum : Fit k (rSum k.K) (opInts fun l => some (.int l.sum)) := fun W σ Q xs H h => by
  obtain ⟨P, w0, m0, H0, w, m, s, as, A, e, g1, p, h⟩ := h
  unfold opInts at h
  rcases as with _ | ⟨a, _ | ⟨b, as⟩⟩
  · exact h.elim
  rotate_left
  · exact h.elim
  obtain ⟨x, rfl⟩ : ∃ x, xs = [x] := by
    have z := p.len
    match xs, z with
    | [x], _ => exact ⟨x, rfl⟩
  obtain ⟨a', ea, p1⟩ := p.one_inv
  cases ea
  dsimp only at h
  obtain ⟨l, q1⟩ : ∃ zz, ((der s a.d).bind D.lst?).bind intsOf = some zz := by
    cases q : ((der s a.d).bind D.lst?).bind intsOf with
    | none => exfalso; simp only [q] at h; exact h
    | some z => exact ⟨z, rfl⟩
  simp only [q1] at h
  obtain ⟨c, rfl, hs⟩ := ints_base g1 p1 (fun _ z => z) q1
  exact ⟨c, l, rfl, hs, ansI g1 h⟩
theorem fold_min : ∀ (l : List Int) (i : Int), l.foldl min i ≤ i ∧ (∀ x ∈ l, l.foldl min i ≤ x) ∧ (l.foldl min i = i ∨ l.foldl min i ∈ l)
  | [], i => ⟨Int.le_refl _, fun _ z => by simp at z, .inl rfl⟩
  | x :: l, i => by
    obtain ⟨h1, h2, h3⟩ := fold_min l (min i x)
    rw [List.foldl_cons]
    refine ⟨by omega, fun y hy => ?_, ?_⟩
    · rcases List.mem_cons.mp hy with rfl | hy
      · omega
      · exact h2 y hy
    · rcases h3 with h3 | h3
      · by_cases c : i ≤ x
        · exact .inl (by omega)
        · exact .inr (List.mem_cons.mpr (.inl (by omega)))
      · exact .inr (List.mem_cons_of_mem _ h3)
theorem fold_max : ∀ (l : List Int) (i : Int), i ≤ l.foldl max i ∧ (∀ x ∈ l, x ≤ l.foldl max i) ∧ (l.foldl max i = i ∨ l.foldl max i ∈ l)
  | [], i => ⟨Int.le_refl _, fun _ z => by simp at z, .inl rfl⟩
  | x :: l, i => by
    obtain ⟨h1, h2, h3⟩ := fold_max l (max i x)
    rw [List.foldl_cons]
    refine ⟨by omega, fun y hy => ?_, ?_⟩
    · rcases List.mem_cons.mp hy with rfl | hy
      · omega
      · exact h2 y hy
    · rcases h3 with h3 | h3
      · by_cases c : x ≤ i
        · exact .inl (by omega)
        · exact .inr (List.mem_cons.mpr (.inl (by omega)))
      · exact .inr (List.mem_cons_of_mem _ h3)
theorem fit_minL : Fit k (rMin k.K) (opInts minL) := fun W σ Q xs H h => by
  obtain ⟨P, w0, m0, H0, w, m, s, as, A, e, g1, p, h⟩ := h
  unfold opInts at h
  rcases as with _ | ⟨a, _ | ⟨b, as⟩⟩
  · exact h.elim
  rotate_left
  · exact h.elim
  obtain ⟨x, rfl⟩ : ∃ x, xs = [x] := by
    have z := p.len
    match xs, z with
    | [x], _ => exact ⟨x, rfl⟩
  obtain ⟨a', ea, p1⟩ := p.one_inv
  cases ea
  dsimp only at h
  obtain ⟨l, q1⟩ : ∃ zz, ((der s a.d).bind D.lst?).bind intsOf = some zz := by
    cases q : ((der s a.d).bind D.lst?).bind intsOf with
    | none => exfalso; simp only [q] at h; exact h
    | some z => exact ⟨z, rfl⟩
  simp only [q1] at h
  obtain ⟨c, rfl, hs⟩ := ints_base g1 p1 (fun _ z => z) q1
  cases l with
  | nil => exact h.elim
  | cons i l =>
    obtain ⟨f1, f2, f3⟩ := fold_min l i
    refine ⟨c, i :: l, rfl, hs, by simp, fun n hn hall => ?_⟩
    have en : n = l.foldl min i := by
      have z1 : n ≤ l.foldl min i := by
        rcases f3 with f3 | f3
        · rw [f3]; exact hall i (by simp)
        · exact hall _ (List.mem_cons_of_mem _ f3)
      have z2 : l.foldl min i ≤ n := by
        rcases List.mem_cons.mp hn with rfl | hn
        · exact f1
        · exact f2 n hn
      omega
    subst en
    exact ansI g1 h
theorem fit_maxL : Fit k (rMax k.K) (opInts maxL) := fun W σ Q xs H h => by
  obtain ⟨P, w0, m0, H0, w, m, s, as, A, e, g1, p, h⟩ := h
  unfold opInts at h
  rcases as with _ | ⟨a, _ | ⟨b, as⟩⟩
  · exact h.elim
  rotate_left
  · exact h.elim
  obtain ⟨x, rfl⟩ : ∃ x, xs = [x] := by
    have z := p.len
    match xs, z with
    | [x], _ => exact ⟨x, rfl⟩
  obtain ⟨a', ea, p1⟩ := p.one_inv
  cases ea
  dsimp only at h
  obtain ⟨l, q1⟩ : ∃ zz, ((der s a.d).bind D.lst?).bind intsOf = some zz := by
    cases q : ((der s a.d).bind D.lst?).bind intsOf with
    | none => exfalso; simp only [q] at h; exact h
    | some z => exact ⟨z, rfl⟩
  simp only [q1] at h
  obtain ⟨c, rfl, hs⟩ := ints_base g1 p1 (fun _ z => z) q1
  cases l with
  | nil => exact h.elim
  | cons i l =>
    obtain ⟨f1, f2, f3⟩ := fold_max l i
    refine ⟨c, i :: l, rfl, hs, by simp, fun n hn hall => ?_⟩
    have en : n = l.foldl max i := by
      have z1 : l.foldl max i ≤ n := by
        rcases f3 with f3 | f3
        · rw [f3]; exact hall i (by simp)
        · exact hall _ (List.mem_cons_of_mem _ f3)
      have z2 : n ≤ l.foldl max i := by
        rcases List.mem_cons.mp hn with rfl | hn
        · exact f1
        · exact f2 n hn
      omega
    subst en
    exact ansI g1 h
theorem fit_all : Fit k (rAll k.K) (opBls fun l => l.all id) := fun W σ Q xs H h => by
  obtain ⟨P, w0, m0, H0, w, m, s, as, A, e, g1, p, h⟩ := h
  unfold opBls at h
  rcases as with _ | ⟨a, _ | ⟨b, as⟩⟩
  · exact h.elim
  rotate_left
  · exact h.elim
  obtain ⟨x, rfl⟩ : ∃ x, xs = [x] := by
    have z := p.len
    match xs, z with
    | [x], _ => exact ⟨x, rfl⟩
  obtain ⟨a', ea, p1⟩ := p.one_inv
  cases ea
  dsimp only at h
  obtain ⟨l, q1⟩ : ∃ zz, ((der s a.d).bind D.lst?).bind blsOf = some zz := by
    cases q : ((der s a.d).bind D.lst?).bind blsOf with
    | none => exfalso; simp only [q] at h; exact h
    | some z => exact ⟨z, rfl⟩
  simp only [q1] at h
  obtain ⟨c, rfl, hs⟩ := bls_base g1 p1 (fun _ z => z) q1
  exact ⟨c, l, rfl, hs, ansB g1 h⟩
theorem fit_any : Fit k (rAny k.K) (opBls fun l => l.any id) := fun W σ Q xs H h => by
  obtain ⟨P, w0, m0, H0, w, m, s, as, A, e, g1, p, h⟩ := h
  unfold opBls at h
  rcases as with _ | ⟨a, _ | ⟨b, as⟩⟩
  · exact h.elim
  rotate_left
  · exact h.elim
  obtain ⟨x, rfl⟩ : ∃ x, xs = [x] := by
    have z := p.len
    match xs, z with
    | [x], _ => exact ⟨x, rfl⟩
  obtain ⟨a', ea, p1⟩ := p.one_inv
  cases ea
  dsimp only at h
  obtain ⟨l, q1⟩ : ∃ zz, ((der s a.d).bind D.lst?).bind blsOf = some zz := by
    cases q : ((der s a.d).bind D.lst?).bind blsOf with
    | none => exfalso; simp only [q] at h; exact h
    | some z => exact ⟨z, rfl⟩
  simp only [q1] at h
  obtain ⟨c, rfl, hs⟩ := bls_base g1 p1 (fun _ z => z) q1
  exact ⟨c, l, rfl, hs, ansB g1 h⟩
end
end MM

/-! Comparisons, tests, slices, kinds, texts. -/
namespace MM
open PySem PySem.Spec PyProof.Rows L2 GB
section
variable {k : Ks} {W : WX} {P : Addr → Prop} {w w1 : Ow} {m m1 : List Addr} {σ : L2.St} {H H1 : Hp} {A B : List Addr} {e : Bool} {Q : VK} {s s1 : MSt} {X : Cx}
/-! ### == -/
def D.v? : D → Option V
  | .non => some .non | .bl b => some (.bl b) | .int i => some (.int i) | .str z => some (.str z) | _ => none
theorem v?_rep {F : Hp} {o : Own} {v u : V} {d : D} (h : RepO k m F H o A v d) (f : Same F H) (e : d.v? = some u) : v = u := by
  have see := h.see f
  cases see <;> first | (cases e; rfl) | cases e
def eqS : D → D → Option Bool
  | .non, .non => some true | .non, .int _ => some false | .int _, .non => some false | .non, .bl _ => some false | .bl _, .non => some false | .non, .str _ => some false | .str _, .non => some false
  | .int i, .int j => some (decide (i = j)) | .bl i, .bl j => some (decide (i = j)) | .str i, .str j => some (decide (i = j))
  | .int _, .str _ => some false | .str _, .int _ => some false | .bl _, .str _ => some false | .str _, .bl _ => some false
  | _, _ => none
theorem eqS_scal {a b : D} {r : Bool} (h : eqS a b = some r) : ∃ x y, a.v? = some x ∧ b.v? = some y ∧ scal x y = true ∧ decide (x = y) = r := by
  cases a <;> cases b <;> first | (cases h; done) | skip
  all_goals refine ⟨_, _, rfl, rfl, rfl, ?_⟩
  all_goals first
    | (cases h; simp; done)
    | (cases h; rfl)
def opEqS : VOp := fun as s => match as with
  | [a, b] => match eqS a.d b.d with
    | some r => .ok ⟨.al, .bl r⟩ s false
    | none => .bad
  | _ => .bad
def opNeS : VOp := fun as s => match as with
  | [a, b] => match eqS a.d b.d with
    | some r => .ok ⟨.al, .bl (!r)⟩ s false
    | none => .bad
  | _ => .bad
theorem fit_eqS : Fit2 k rEq opEqS := fun W σ Q x y H h => by
  obtain ⟨P, w0, m0, H0, w, m, s, as, A, e, g1, p, h⟩ := h
  obtain ⟨a, b, A1, A2, rfl, rfl, p1, p2⟩ := p.two_inv
  unfold opEqS at h
  dsimp only at h
  obtain ⟨r, q1⟩ : ∃ zz, eqS a.d b.d = some zz := by
    cases q : eqS a.d b.d with
    | none => exfalso; simp only [q] at h; exact h
    | some z => exact ⟨z, rfl⟩
  simp only [q1] at h
  obtain ⟨x', y', v1, v2, sc, dc⟩ := eqS_scal q1
  obtain rfl := v?_rep p1 (Same.trans g1.fzl fz_same) v1
  obtain rfl := v?_rep p2 (Same.trans g1.fzl fz_same) v2
  exact ⟨sc, by rw [dc]; exact ansB g1 h⟩
theorem fit_neS : Fit2 k rNe opNeS := fun W σ Q x y H h => by
  obtain ⟨P, w0, m0, H0, w, m, s, as, A, e, g1, p, h⟩ := h
  obtain ⟨a, b, A1, A2, rfl, rfl, p1, p2⟩ := p.two_inv
  unfold opNeS at h
  dsimp only at h
  obtain ⟨r, q1⟩ : ∃ zz, eqS a.d b.d = some zz := by
    cases q : eqS a.d b.d with
    | none => exfalso; simp only [q] at h; exact h
    | some z => exact ⟨z, rfl⟩
  simp only [q1] at h
  obtain ⟨x', y', v1, v2, sc, dc⟩ := eqS_scal q1
  obtain rfl := v?_rep p1 (Same.trans g1.fzl fz_same) v1
  obtain rfl := v?_rep p2 (Same.trans g1.fzl fz_same) v2
  exact ⟨sc, by rw [dc]; exact ansB g1 h⟩
mutual
/-- as the kit's own data -/
def D.pd : D → Option PyData
  | .non => some .none | .bl b => some (.bool b) | .int i => some (.int i) | .str z => some (.str z)
  | .lst l => (pdL l).map .list | .fls l => (pdL l).map .list | .tup l => (pdL l).map .tuple
  | _ => none
def pdL : List D → Option (List PyData)
  | [] => some []
  | d :: r => match D.pd d, pdL r with
    | some x, some y => some (x :: y)
    | _, _ => none
end
theorem pdL_cons {d : D} {r : List D} {l : List PyData} (h : pdL (d :: r) = some l) : ∃ x y, l = x :: y ∧ d.pd = some x ∧ pdL r = some y := by
  unfold pdL at h
  cases q1 : d.pd with
  | none =>
    rw [q1] at h
    cases h
  | some x =>
    cases q2 : pdL r with
    | none =>
      rw [q1, q2] at h
      cases h
    | some y =>
      rw [q1, q2] at h
      cases h
      exact ⟨x, y, rfl, rfl, rfl⟩
mutual
theorem Rep.dp {F : Hp} : ∀ {v : V} {d : D} {p : PyData}, Rep k m F v d → d.pd = some p → Dp k.K F v p
  | _, _, _, .non, e => by cases e; exact .non
  | _, _, _, .bl b, e => by cases e; exact .bl b
  | _, _, _, .int i, e => by cases e; exact .int i
  | _, _, _, .str z, e => by cases e; exact .str z
  | _, _, _, .lst (l := l) h r, e => by
    obtain ⟨y, e1, e2⟩ := Option.map_eq_some_iff.mp e
    cases e2
    exact .lst (.inl (.inl h)) (RepL.dp r e1)
  | _, _, _, .fls (l := l) h r, e => by
    obtain ⟨y, e1, e2⟩ := Option.map_eq_some_iff.mp e
    cases e2
    exact .lst h.sq (RepL.dp r e1)
  | _, _, _, .tup (l := l) h r, e => by
    obtain ⟨y, e1, e2⟩ := Option.map_eq_some_iff.mp e
    cases e2
    exact .tup h (RepL.dp r e1)
  | _, _, _, .dct h n r, e => nomatch e
  | _, _, _, .obj c h n r, e => nomatch e
  | _, _, _, .exc c h n r, e => nomatch e
  | _, _, _, .ref h, e => nomatch e
  | _, _, _, .vv v, e => nomatch e
theorem RepL.dp {F : Hp} : ∀ {vs : List V} {ds : List D} {l : List PyData}, RepL k m F vs ds → pdL ds = some l → DpAll k.K F vs l
  | _, _, _, .nil, e => by cases e; exact .nil
  | _, _, _, .cons h r, e => by
    obtain ⟨x, y, rfl, e1, e2⟩ := pdL_cons e
    exact .cons (Rep.dp h e1) (RepL.dp r e2)
end
def shp (p : PyData) : Option PyData := bif SeqAt.shaped p then some p else none
def pdOf (s : MSt) (a : Val) : Option PyData := ((der s a.d).bind D.pd).bind shp
theorem pdOf_dp {a : Val} {x : V} {p : PyData} {F : Hp} (g : Stg k P σ w m H A w1 m1 H1 s1 e) (r : RepO k m1 F H1 a.o B x a.d) (f : Same F H1) (h : pdOf s1 a = some p) : Dp k.K H1 x p ∧ SeqAt.shaped p = true := by
  obtain ⟨p1, q1, q2⟩ := Option.bind_eq_some_iff.mp h
  obtain ⟨d, q3, q4⟩ := Option.bind_eq_some_iff.mp q1
  unfold shp at q2
  cases z : SeqAt.shaped p1 with
  | false =>
    rw [z] at q2
    cases q2
  | true =>
    rw [z] at q2
    cases q2
    exact ⟨(der_rep g r f q3).dp q4, z⟩
def opEqD (n : Bool) : VOp := fun as s => match as with
  | [a, b] => match pdOf s a, pdOf s b with
    | some p, some q => .ok ⟨.al, .bl (n != PyData.eqv p q)⟩ s false
    | _, _ => .bad
  | _ => .bad
theorem fit_eqD : Fit2 k (rEqD k.K) (opEqD false) := fun W σ Q x y H h => by
  obtain ⟨P, w0, m0, H0, w, m, s, as, A, e, g1, p, h⟩ := h
  obtain ⟨a, b, A1, A2, rfl, rfl, p1, p2⟩ := p.two_inv
  unfold opEqD at h
  dsimp only at h
  obtain ⟨p', q1⟩ : ∃ zz, pdOf s a = some zz := by
    cases q : pdOf s a with
    | none => exfalso; simp only [q] at h; exact h
    | some z => exact ⟨z, rfl⟩
  simp only [q1] at h
  obtain ⟨q', q2⟩ : ∃ zz, pdOf s b = some zz := by
    cases q : pdOf s b with
    | none => exfalso; simp only [q] at h; exact h
    | some z => exact ⟨z, rfl⟩
  simp only [q2] at h
  obtain ⟨d1, s1⟩ := pdOf_dp g1 p1 (Same.trans g1.fzl fz_same) q1
  obtain ⟨d2, s2⟩ := pdOf_dp g1 p2 (Same.trans g1.fzl fz_same) q2
  exact ⟨_, _, d1, d2, s1, s2, by rw [show (PyData.eqv p' q') = (false != PyData.eqv p' q') by simp]; exact ansB g1 h⟩
theorem fit_neD : Fit2 k (rNeD k.K) (opEqD true) := fun W σ Q x y H h => by
  obtain ⟨P, w0, m0, H0, w, m, s, as, A, e, g1, p, h⟩ := h
  obtain ⟨a, b, A1, A2, rfl, rfl, p1, p2⟩ := p.two_inv
  unfold opEqD at h
  dsimp only at h
  obtain ⟨p', q1⟩ : ∃ zz, pdOf s a = some zz := by
    cases q : pdOf s a with
    | none => exfalso; simp only [q] at h; exact h
    | some z => exact ⟨z, rfl⟩
  simp only [q1] at h
  obtain ⟨q', q2⟩ : ∃ zz, pdOf s b = some zz := by
    cases q : pdOf s b with
    | none => exfalso; simp only [q] at h; exact h
    | some z => exact ⟨z, rfl⟩
  simp only [q2] at h
  obtain ⟨d1, s1⟩ := pdOf_dp g1 p1 (Same.trans g1.fzl fz_same) q1
  obtain ⟨d2, s2⟩ := pdOf_dp g1 p2 (Same.trans g1.fzl fz_same) q2
  exact ⟨_, _, d1, d2, s1, s2, by rw [show (!PyData.eqv p' q') = (true != PyData.eqv p' q') by simp]; exact ansB g1 h⟩
/-! ### in -/
def vsOf : List D → Option (List V)
  | [] => some []
  | d :: r => match d.v?, vsOf r with
    | some i, some l => some (i :: l)
    | _, _ => none
theorem v?_flat {d : D} {v : V} (h : d.v? = some v) : flatV v = true := by cases d <;> first | (cases h; rfl) | cases h
theorem vsOf_rep {F : Hp} : ∀ {vs : List V} {ds : List D} {l : List V}, RepL k m F vs ds → vsOf ds = some l → vs = l ∧ l.all flatV = true
  | _, _, _, .nil, e => by cases e; exact ⟨rfl, rfl⟩
  | _, _, _, .cons (v := v) (d := d) (ds := ds) h r, e => by
    unfold vsOf at e
    cases q1 : d.v? with
    | none =>
      rw [q1] at e
      cases e
    | some i =>
      cases q2 : vsOf ds with
      | none =>
        rw [q1, q2] at e
        cases e
      | some l =>
        rw [q1, q2] at e
        cases e
        obtain ⟨e1, e2⟩ := vsOf_rep r q2
        have e3 : v = i := v?_rep (.sh h) (fun _ _ z => z) q1
        subst e1 e3
        refine ⟨rfl, ?_⟩
        rw [List.all_cons, v?_flat q1, e2]
        rfl
def opIn (n : Bool) : VOp := fun as s => match as with
  | [a, b] => match a.d.v?, ((der s b.d).bind D.seq?).bind vsOf with
    | some x, some l => .ok ⟨.al, .bl (n != inV x l)⟩ s false
    | _, _ => .bad
  | _ => .bad
theorem fit_in {n : Bool} : Fit2 k (rIn k.K n) (opIn n) := fun W σ Q x y H h => by
  obtain ⟨P, w0, m0, H0, w, m, s, as, A, e, g1, p, h⟩ := h
  obtain ⟨a, b, A1, A2, rfl, rfl, p1, p2⟩ := p.two_inv
  unfold opIn at h
  dsimp only at h
  obtain ⟨x', q1⟩ : ∃ zz, a.d.v? = some zz := by
    cases q : a.d.v? with
    | none => exfalso; simp only [q] at h; exact h
    | some z => exact ⟨z, rfl⟩
  simp only [q1] at h
  obtain ⟨l, q2⟩ : ∃ zz, ((der s b.d).bind D.seq?).bind vsOf = some zz := by
    cases q : ((der s b.d).bind D.seq?).bind vsOf with
    | none => exfalso; simp only [q] at h; exact h
    | some z => exact ⟨z, rfl⟩
  simp only [q2] at h
  obtain rfl := v?_rep p1 (Same.trans g1.fzl fz_same) q1
  obtain ⟨ds, q3, q4⟩ := Option.bind_eq_some_iff.mp q2
  obtain ⟨c, xs, rfl, hs, hr, _⟩ := base_seq g1 p2 (by intro z hz; simp [hz]) q3
  obtain ⟨rfl, fl⟩ := vsOf_rep hr q4
  refine ⟨c, xs, rfl, hs, v?_flat q1, fl, ?_⟩
  have e : (if n = true then !inV x xs else inV x xs) = (n != inV x xs) := by cases n <;> simp
  rw [e]
  exact ansB g1 h
/-- one sign of a text -/
def opInS (n : Bool) : VOp := fun as s => match as with
  | [a, b] => match a.d.str?, b.d.str? with
    | some x, some z => match x.cps.toList with
      | [c] => .ok ⟨.al, .bl (n != decide (c ∈ z.cps.toList))⟩ s false
      | _ => .bad
    | _, _ => .bad
  | _ => .bad
theorem fit_inS : Fit2 k (fun x y H Q => ∃ (c : Nat) (z : Str), x = .str ⟨#[c]⟩ ∧ y = .str z ∧ Q (.bl (decide (c ∈ z.cps.toList))) H) (opInS false) := fun W σ Q x y H h => by
  obtain ⟨P, w0, m0, H0, w, m, s, as, A, e, g1, p, h⟩ := h
  obtain ⟨a, b, A1, A2, rfl, rfl, p1, p2⟩ := p.two_inv
  unfold opInS at h
  dsimp only at h
  obtain ⟨x', q1⟩ : ∃ zz, a.d.str? = some zz := by
    cases q : a.d.str? with
    | none => exfalso; simp only [q] at h; exact h
    | some z => exact ⟨z, rfl⟩
  simp only [q1] at h
  obtain ⟨z, q2⟩ : ∃ zz, b.d.str? = some zz := by
    cases q : b.d.str? with
    | none => exfalso; simp only [q] at h; exact h
    | some z => exact ⟨z, rfl⟩
  simp only [q2] at h
  rw [str?_eq q1] at p1
  rw [str?_eq q2] at p2
  obtain ⟨⟨c⟩⟩ := x'
  rcases c with _ | ⟨c, _ | ⟨c2, r⟩⟩
  · exact h.elim
  · refine ⟨c, z, rep_of_str p1, rep_of_str p2, ?_⟩
    have z2 : (false != decide (c ∈ z.cps.toList)) = decide (c ∈ z.cps.toList) := by simp
    rw [← z2]
    exact ansB g1 h
  · exact h.elim
/-! ### is -/
def D.isNon : D → Option Bool
  | .non => some true | .vv _ => none | .ref _ => some false | _ => some false
theorem isNon_rep {F : Hp} {x : V} {d : D} {b : Bool} (h : Rep k m F x d) (e : d.isNon = some b) : decide (x = .non) = b := by
  cases h <;> first | (cases e; rfl) | cases e
def opIsN (n : Bool) : VOp := fun as s => match as with
  | [a, b] => match a.d.isNon, b.d with
    | some r, .non => .ok ⟨.al, .bl (n != r)⟩ s false
    | _, _ => .bad
  | _ => .bad
theorem rep_of_non {F G : Hp} {o : Own} {v : V} (h : RepO k m F G o A v .non) : v = .non := by
  cases h with
  | sh h => cases h; rfl
  | bo h => cases h; rfl
  | al h => cases h with | imm h => cases h; rfl
theorem opIsN_inv {n : Bool} {x y : V} (h : Pend k W σ Q (opIsN n) [x, y] H) : y = .non ∧ Q (.bl (n != decide (x = .non))) H := by
  obtain ⟨P, w0, m0, H0, w, m, s, as, A, e, g1, p, h⟩ := h
  obtain ⟨a, b, A1, A2, rfl, rfl, p1, p2⟩ := p.two_inv
  unfold opIsN at h
  dsimp only at h
  obtain ⟨r, q1⟩ : ∃ zz, a.d.isNon = some zz := by
    cases q : a.d.isNon with
    | none => exfalso; simp only [q] at h; exact h
    | some z => exact ⟨z, rfl⟩
  simp only [q1] at h
  cases q2 : b.d with
  | non =>
    rw [q2] at h p2
    refine ⟨rep_of_non p2, ?_⟩
    rw [isNon_rep (p1.see (Same.trans g1.fzl fz_same)) q1]
    exact ansB g1 h
  | _ =>
    rw [q2] at h
    exact h.elim
theorem fit_isN : Fit2 k (fun x y H Q => y = .non ∧ Q (.bl (decide (x = .non))) H) (opIsN false) := fun W σ Q x y H h => by
  obtain ⟨h1, h2⟩ := opIsN_inv h
  exact ⟨h1, by rw [show (false != decide (x = .non)) = decide (x = .non) by simp] at h2; exact h2⟩
theorem fit_notN : Fit2 k (fun x y H Q => y = .non ∧ Q (.bl (!decide (x = .non))) H) (opIsN true) := fun W σ Q x y H h => by
  obtain ⟨h1, h2⟩ := opIsN_inv h
  exact ⟨h1, by rw [show (true != decide (x = .non)) = !decide (x = .non) by simp] at h2; exact h2⟩
def opIsB (n : Bool) : VOp := fun as s => match as with
  | [a, b] => match a.d.bl?, b.d.bl? with
    | some x, some y => .ok ⟨.al, .bl (n != decide (x = y))⟩ s false
    | _, _ => .bad
  | _ => .bad
theorem fit_isB : Fit2 k (fun x y H Q => ∃ a b, x = .bl a ∧ y = .bl b ∧ Q (.bl (decide (a = b))) H) (opIsB false) := fun W σ Q x y H h => by
  obtain ⟨P, w0, m0, H0, w, m, s, as, A, e, g1, p, h⟩ := h
  obtain ⟨a, b, A1, A2, rfl, rfl, p1, p2⟩ := p.two_inv
  unfold opIsB at h
  dsimp only at h
  obtain ⟨x', q1⟩ : ∃ zz, a.d.bl? = some zz := by
    cases q : a.d.bl? with
    | none => exfalso; simp only [q] at h; exact h
    | some z => exact ⟨z, rfl⟩
  simp only [q1] at h
  obtain ⟨y', q2⟩ : ∃ zz, b.d.bl? = some zz := by
    cases q : b.d.bl? with
    | none => exfalso; simp only [q] at h; exact h
    | some z => exact ⟨z, rfl⟩
  simp only [q2] at h
  rw [bl?_eq q1] at p1
  rw [bl?_eq q2] at p2
  refine ⟨x', y', rep_of_bl p1, rep_of_bl p2, ?_⟩
  rw [show decide (x' = y') = (false != decide (x' = y')) by simp]
  exact ansB g1 h
/-! ### truth -/
def truD (s : MSt) (d : D) : Option Bool := match der s d with
  | some .non => some false | some (.bl b) => some b | some (.int i) => some (i != 0)
  | some (.str z) => bif decide (z.length ≤ sizeLine) then some ((z.length : Int) != 0) else none
  | some (.lst l) => some !l.isEmpty | some (.fls l) => some !l.isEmpty | some (.tup l) => some !l.isEmpty 
  | _ => none
theorem empty_len {α β : Type} {a : List α} {b : List β} (h : a.length = b.length) : a.isEmpty = b.isEmpty := by
  cases a <;> cases b <;> first | rfl | cases h
theorem truD_rep {a : Val} {x : V} {F : Hp} {b : Bool} (g : Stg k P σ w m H A w1 m1 H1 s1 e) (r : RepO k m1 F H1 a.o B x a.d) (f : Same F H1) (h : truD s1 a.d = some b) : TruV k.K x H1 b := by
  unfold truD at h
  cases q : der s1 a.d with
  | none =>
    rw [q] at h
    cases h
  | some d =>
    rw [q] at h
    have r2 := der_rep g r f q
    cases r2 with
    | non => cases h; rfl
    | bl b => cases h; rfl
    | int i => cases h; rfl
    | str z =>
      dsimp only at h
      by_cases hz : z.length ≤ sizeLine
      · rw [decide_eq_true hz] at h
        cases h
        exact ⟨hz, rfl⟩
      · rw [decide_eq_false hz] at h
        cases h
    | lst h1 rr => cases h; exact .inl ⟨_, .inl (.inl h1), by rw [empty_len rr.len]⟩
    | fls h1 rr => cases h; exact .inl ⟨_, h1.sq, by rw [empty_len rr.len]⟩
    | tup h1 rr => cases h; exact .inr (.inl ⟨_, h1, by rw [empty_len rr.len]⟩)
    | _ => cases h
/-- a value's truth, as a test -/
def tTru (f : Mac) : Mab := fun s => (f s).bind fun a s1 => match truD s1 a.d with
  | some b => .ok b s1 false
  | none => .bad
theorem ansT {Q : Bool → Hp → Prop} {b : Bool} (g : Stg k P σ w m H A w1 m1 H1 s1 e) (h : PostT k W P w m σ H Q ((Res.ok b s1 false).ef e)) : Q b H1 := h H1 w1 m1 (g.bare.ef fun z => by rw [Bool.or_false] at z; exact z)
theorem tTru_read {f : Mac} {Q : Bool → Hp → Prop} (h : tMT k W (tTru f) σ H Q) : tM k W f σ H fun x H' => ∃ b, TruV k.K x H' b ∧ Q b H' := by
  refine tM_mono ?_ (tM_bindT h)
  rintro x H1 ⟨P, w0, m0, H0, w, m, s, as, A, e, g1, p, h⟩
  obtain ⟨a, rfl, p1⟩ := p.one_inv
  have h : PostT k W P w0 m0 σ H0 Q ((match truD s a.d with | some b => Res.ok b s false | none => .bad).ef e) := h
  cases q : truD s a.d with
  | none =>
    rw [q] at h
    exact h.elim
  | some b =>
    rw [q] at h
    exact ⟨b, truD_rep g1 p1 (Same.trans g1.fzl fz_same) q, ansT g1 h⟩
theorem pt_truM {f : Mac} {a : Expr} (ha : PE X a (tM k W f)) (ht : ∀ whole : Sem Value, isTrue a X.env whole = (do let v ← whole; standAt a.pos; holding [v] (truthy v)) := by intro _; rfl) (hK : X.K = k.K := by rfl) : PT X a (tMT k W (tTru f)) := by
  refine pt_mono (pt_truth ha ht) fun σ H Q h => ?_
  rw [hK]
  exact tTru_read h
/-- a truth value as a test -/
def tBl (f : Mac) : Mab := fun s => (f s).bind fun a s1 => match a.d.bl? with
  | some b => .ok b s1 false
  | none => .bad
theorem tBl_read {f : Mac} {Q : Bool → Hp → Prop} (h : tMT k W (tBl f) σ H Q) : tM k W f σ H fun x H' => ∃ b, x = .bl b ∧ Q b H' := by
  refine tM_mono ?_ (tM_bindT h)
  rintro x H1 ⟨P, w0, m0, H0, w, m, s, as, A, e, g1, p, h⟩
  obtain ⟨a, rfl, p1⟩ := p.one_inv
  have h : PostT k W P w0 m0 σ H0 Q ((match a.d.bl? with | some b => Res.ok b s false | none => .bad).ef e) := h
  cases q : a.d.bl? with
  | none =>
    rw [q] at h
    exact h.elim
  | some b =>
    rw [q] at h
    rw [bl?_eq q] at p1
    exact ⟨b, rep_of_bl p1, ansT g1 h⟩
theorem pt_cmpM {op : CmpOp} {r : R2} {o : VOp} {f g : Mac} {a b : Expr} {pos : Pos} (ho : OpR X (compareOp op) r) (fit : Fit2 k r o) (ha : PE X a (tM k W f)) (hb : PE X b (tM k W g)) (hm : behindInMarks op b = false) : PT X (.Compare a [op] [b] pos) (tMT k W (tBl (e2 f g o))) :=
  pt_mono (pt_cmpR ho ha hb hm) fun σ H Q h => tM_mono (fun v H1 h => tM_mono (fun u H2 h => fit W σ _ v u H2 h) h) (read2 (tBl_read h))
/-! ### and, or, not -/
def tAndM (t u : Mab) : Mab := fun s => (t s).bind fun b s1 => bif b then u s1 else .ok false s1 false
def tOrM (t u : Mab) : Mab := fun s => (t s).bind fun b s1 => bif b then .ok true s1 false else u s1
def tNotM (t : Mab) : Mab := fun s => (t s).bind fun b s1 => .ok (!b) s1 false
theorem tC_T {b : Bool} {Q : Bool → Hp → Prop} (h : tMT k W (fun s1 => .ok b s1 false) σ H Q) : Q b H := by
  obtain ⟨P, w, m, s, r, h⟩ := h
  exact h H w m (.refl r)
theorem tMT_mono {f : Mab} {Q Q' : Bool → Hp → Prop} (i : ∀ v H, Q v H → Q' v H) (h : tMT k W f σ H Q) : tMT k W f σ H Q' := by
  obtain ⟨P, w, m, s, r, h⟩ := h
  refine ⟨P, w, m, s, r, ?_⟩
  cases q : f s with
  | ok a s1 e1 =>
    rw [q] at h
    intro H1 w1 m1 g1
    exact i _ _ (h H1 w1 m1 g1)
  | err c ns l s' =>
    rw [q] at h
    exact h
  | bad =>
    rw [q] at h
    exact h
theorem pt_and1M {t : Mab} {a : Expr} {pos : Pos} (ha : PT X a (tMT k W t)) : PW X (.BoolOp .And [a] pos) (tMT k W t) := pw_and1 ha
theorem pt_or1M {t : Mab} {a : Expr} {pos : Pos} (ha : PT X a (tMT k W t)) : PW X (.BoolOp .Or [a] pos) (tMT k W t) := pw_or1 ha
theorem pt_andM {t u : Mab} {a b : Expr} {rest : List Expr} {pos : Pos} (ha : PT X a (tMT k W t)) (hb : PW X (.BoolOp .And (b :: rest) pos) (tMT k W u)) : PW X (.BoolOp .And (a :: b :: rest) pos) (tMT k W (tAndM t u)) :=
  pw_mono (pw_and ha hb) fun σ H Q h => tMT_mono (fun c H1 h => by
    cases c with
    | true => rw [if_pos rfl]; exact h
    | false => rw [if_neg Bool.false_ne_true]; exact tC_T h) (tMT_bindT h)
theorem pt_orM {t u : Mab} {a b : Expr} {rest : List Expr} {pos : Pos} (ha : PT X a (tMT k W t)) (hb : PW X (.BoolOp .Or (b :: rest) pos) (tMT k W u)) : PW X (.BoolOp .Or (a :: b :: rest) pos) (tMT k W (tOrM t u)) :=
  pw_mono (pw_or ha hb) fun σ H Q h => tMT_mono (fun c H1 h => by
    cases c with
    | true => rw [if_pos rfl]; exact tC_T h
    | false => rw [if_neg Bool.false_ne_true]; exact h) (tMT_bindT h)
theorem pt_notM {t : Mab} {a : Expr} {pos : Pos} (ha : PT X a (tMT k W t)) : PT X (.UnaryOp .Not a pos) (tMT k W (tNotM t)) :=
  pt_mono (pt_not ha) fun σ H Q h => tMT_mono (fun c H1 h => tC_T h) (tMT_bindT h)
/-- .. as values -/
def eAnd (f g : Mac) : Mac := fun s => (tBl f s).bind fun b s1 => bif b then g s1 else .ok ⟨.al, .bl false⟩ s1 false
def eOr (f g : Mac) : Mac := fun s => (tBl f s).bind fun b s1 => bif b then .ok ⟨.al, .bl true⟩ s1 false else g s1
def eNot (f : Mac) : Mac := fun s => (tBl f s).bind fun b s1 => .ok ⟨.al, .bl (!b)⟩ s1 false
def eIf (t : Mab) (f g : Mac) : Mac := fun s => (t s).bind fun b s1 => bif b then f s1 else g s1
theorem tC_B {b : Bool} (h : tM k W (fun s1 => .ok ⟨.al, .bl b⟩ s1 false) σ H Q) : Q (.bl b) H := by
  obtain ⟨P, w, m, s, r, h⟩ := h
  refine h (.bl b) H [] w m (.refl r) (.al (.imm (.bl b) rfl))
theorem pe_oneM {f : Mac} {a : Expr} {op} {pos : Pos} (h : PE X a (tM k W f)) : PE X (.BoolOp op [a] pos) (tM k W f) := pe_one h
theorem pe_andM {f g : Mac} {a b : Expr} {rest : List Expr} {pos : Pos} (ha : PE X a (tM k W f)) (hb : PE X (.BoolOp .And (b :: rest) pos) (tM k W g)) : PE X (.BoolOp .And (a :: b :: rest) pos) (tM k W (eAnd f g)) :=
  pe_mono (pe_and ha hb) fun σ H Q h => tM_mono (fun x H1 ⟨c, e, h⟩ => ⟨c, e, by
    cases c with
    | true => rw [if_pos rfl]; exact h
    | false => rw [if_neg Bool.false_ne_true]; exact tC_B h⟩) (tBl_read (tMT_bind h))
theorem pe_orM {f g : Mac} {a b : Expr} {rest : List Expr} {pos : Pos} (ha : PE X a (tM k W f)) (hb : PE X (.BoolOp .Or (b :: rest) pos) (tM k W g)) : PE X (.BoolOp .Or (a :: b :: rest) pos) (tM k W (eOr f g)) :=
  pe_mono (pe_or ha hb) fun σ H Q h => tM_mono (fun x H1 ⟨c, e, h⟩ => ⟨c, e, by
    cases c with
    | true => rw [if_pos rfl]; exact tC_B h
    | false => rw [if_neg Bool.false_ne_true]; exact h⟩) (tBl_read (tMT_bind h))
theorem pe_notM {f : Mac} {a : Expr} {pos : Pos} (ha : PE X a (tM k W f)) : PE X (.UnaryOp .Not a pos) (tM k W (eNot f)) :=
  pe_mono (pe_not ha) fun σ H Q h => tM_mono (fun x H1 ⟨c, e, h⟩ => ⟨c, e, tC_B h⟩) (tBl_read (tMT_bind h))
theorem pe_ifM {t : Mab} {f g : Mac} {a b c : Expr} {pos : Pos} (hc : PT X c (tMT k W t)) (ha : PE X a (tM k W f)) (hb : PE X b (tM k W g)) : PE X (.IfExp c a b pos) (tM k W (eIf t f g)) :=
  pe_mono (pe_ifExp hc ha hb) fun σ H Q h => tMT_mono (fun c H1 h => by
    cases c with
    | true => rw [if_pos rfl]; exact h
    | false => rw [if_neg Bool.false_ne_true]; exact h) (tMT_bind h)
/-! ### a < b < c -/
def eChain (f g h : Mac) (o o' : VOp) : Mac := fun s => (aCons f (aCons g aNil) s).bind fun as s1 =>
  (o as s1).bind fun c s2 => match c.d with
    | .bl true => match h s2 with
      | .ok z s3 false => o' (as.tail ++ [z]) s3
      | _ => .bad
    | .bl false => .ok ⟨.al, .bl false⟩ s2 false
    | _ => .bad
/-! ### isinstance -/
def D.tyS : D → Option String
  | .non => some "NoneType" | .bl _ => some "bool" | .int _ => some "int" | .str _ => some "str" | .lst _ => some "list" | .fls _ => some "list" | .tup _ => some "tuple" | .dct _ _ => some "dict"
  | _ => none
theorem tyS_rep {F : Hp} {x : V} {d : D} {n : String} (h : Rep k m F x d) (e : d.tyS = some n) : TyX k.K F x (.type n) := by
  cases h with
  | non => cases e; exact .base .non
  | bl b => cases e; exact .base (.bl b)
  | int i => cases e; exact .base (.int i)
  | str z => cases e; exact .base (.str z)
  | lst h r => cases e; exact .base (.lst h)
  | fls h r =>
    cases e
    rcases h with ⟨o, h⟩ | ⟨o, its, n, h, c, _⟩
    · exact .base (.frz h)
    · exact .kList h c
  | tup h r =>
    cases e
    rcases h with (h | ⟨o, h⟩) | ⟨o, its, n, h, c, _⟩
    · exact .base (.tup h)
    · exact .fTuple h
    · exact .kTuple h c
  | dct h n r =>
    cases e
    rcases h with h | ⟨o, h⟩
    · exact .base (.dK h)
    · exact .fDict h
  | _ => cases e
inductive Ty where
  | int | bool | str | list | tuple | dict
def Ty.nm : Ty → String | .int => "int" | .bool => "bool" | .str => "str" | .list => "list" | .tuple => "tuple" | .dict => "dict"
def D.isA : D → Ty → Bool
  | .int _, .int => true | .bl _, .int => true | .bl _, .bool => true | .str _, .str => true | .lst _, .list => true | .fls _, .list => true | .tup _, .tuple => true | .dct _ _, .dict => true
  | _, _ => false
theorem isA_kit {d : D} {n : String} (t : Ty) (h : d.tyS = some n) : kitB n t.nm = some (d.isA t) := by
  cases d <;> first | (cases h; done) | (cases h; cases t <;> dsimp only [D.isA, Ty.nm] <;> decide +kernel)
def opIsi (t : Ty) : VOp := fun as s => match as with
  | [a] => match der s a.d with
    | some d => match d.tyS with
      | some _ => .ok ⟨.al, .bl (d.isA t)⟩ s false
      | none => .bad
    | none => .bad
  | _ => .bad
def opIsiQ (t u : Ty) : VOp := fun as s => match as with
  | [a] => match der s a.d with
    | some d => match d.tyS with
      | some _ => .ok ⟨.al, .bl (d.isA t || d.isA u)⟩ s false
      | none => .bad
    | none => .bad
  | _ => .bad
theorem fit_isi {t : Ty} : Fit1 k (fun x H Q => ∃ n b, TyX k.K H x (.type n) ∧ kitB n t.nm = some b ∧ Q (.bl b) H) (opIsi t) := fun W σ Q x H h => by
  obtain ⟨P, w0, m0, H0, w, m, s, as, A, e, g1, p, h⟩ := h
  obtain ⟨a, rfl, p1⟩ := p.one_inv
  unfold opIsi at h
  dsimp only at h
  obtain ⟨d, q1⟩ : ∃ zz, der s a.d = some zz := by
    cases q : der s a.d with
    | none => exfalso; simp only [q] at h; exact h
    | some z => exact ⟨z, rfl⟩
  simp only [q1] at h
  obtain ⟨n, q2⟩ : ∃ zz, d.tyS = some zz := by
    cases q : d.tyS with
    | none => exfalso; simp only [q] at h; exact h
    | some z => exact ⟨z, rfl⟩
  simp only [q2] at h
  exact ⟨n, _, tyS_rep (der_rep g1 p1 (Same.trans g1.fzl fz_same) q1) q2, isA_kit t q2, ansB g1 h⟩
theorem fit_isiQ {t u : Ty} : Fit1 k (fun x H Q => ∃ n b c, TyX k.K H x (.type n) ∧ kitB n t.nm = some b ∧ kitB n u.nm = some c ∧ ∀ p, H p = none → Q (.bl (b || c)) (upd H p (.tup [.ty t.nm, .ty u.nm]))) (opIsiQ t u) := fun W σ Q x H h => by
  obtain ⟨P, w0, m0, H0, w, m, s, as, A, e, g1, p, h⟩ := h
  obtain ⟨a, rfl, p1⟩ := p.one_inv
  unfold opIsiQ at h
  dsimp only at h
  obtain ⟨d, q1⟩ : ∃ zz, der s a.d = some zz := by
    cases q : der s a.d with
    | none => exfalso; simp only [q] at h; exact h
    | some z => exact ⟨z, rfl⟩
  simp only [q1] at h
  obtain ⟨n, q2⟩ : ∃ zz, d.tyS = some zz := by
    cases q : d.tyS with
    | none => exfalso; simp only [q] at h; exact h
    | some z => exact ⟨z, rfl⟩
  simp only [q2] at h
  exact ⟨n, _, _, tyS_rep (der_rep g1 p1 (Same.trans g1.fzl fz_same) q1) q2, isA_kit t q2, isA_kit u q2, fun p np => ansB (g1.laidT np) h⟩
theorem TyX.mono {F G : Hp} {K : PySem.W.Frag} {x : V} {t : Value} {p : Addr} {ob : HO} (n : F p = none) (h : TyX K F x t) : TyX K (upd F p ob) x t := by
  have sm : Same F (upd F p ob) := same_new n
  cases h with
  | base b =>
    cases b with
    | non => exact .base .non
    | bl y => exact .base (.bl y)
    | int i => exact .base (.int i)
    | str y => exact .base (.str y)
    | flt y => exact .base (.flt y)
    | lst e => exact .base (.lst (sm _ _ e))
    | frz e => exact .base (.frz (sm _ _ e))
    | tup e => exact .base (.tup (sm _ _ e))
    | dK e => exact .base (.dK (sm _ _ e))
    | dT e => exact .base (.dT (sm _ _ e))
    | ins e c1 c2 c3 c4 c5 => exact .base (.ins (sm _ _ e) c1 c2 c3 c4 c5)
  | byt b => exact .byt b
  | set e => exact .set (sm _ _ e)
  | kList e c => exact .kList e c
  | kTuple e c => exact .kTuple e c
  | kDict e c => exact .kDict e c
  | fTuple e => exact .fTuple (sm _ _ e)
  | fDict e => exact .fDict (sm _ _ e)
theorem pe_isiM {f : Mac} {t : Ty} {p pos pt : Pos} {e : Expr} {tn : Str} (hK : X.K = k.K) (hg : Gl X "isinstance") (hm : X.mg "isinstance" = none) (ha : PE X e (tM k W f)) (ht : PE X (.Name tn pt) (tC (.ty t.nm)))
    (he : starEach [e, .Name tn pt] X.env = (false, eval e X.env) :: starEach [.Name tn pt] X.env := by rfl) (he2 : starEach [.Name tn pt] X.env = (false, eval (.Name tn pt) X.env) :: starEach [] X.env := by rfl) (hpl : (backTo pos (starEach [.Name tn pt] X.env)).any (·.1) = false := by rfl) :
    PE X (.Call (.Name "isinstance" p) [e, .Name tn pt] [] pos) (tM k W (e1 f (opIsi t))) := by
  have hc : CallR X (.builtin "isinstance") (rIsi k.K) := hK ▸ call_isi
  refine pe_mono (pe_callB hc hg hm (by decide +kernel) (pa_cons ha (pa_cons ht pa_nil he2) he) (by decide) (by decide) he hpl) fun σ H Q h => ?_
  refine tM_mono (fun x H1 h => ?_) (read1 h)
  obtain ⟨n, b, h1, h2, h3⟩ := fit_isi W σ Q x H1 h
  exact ⟨x, .ty t.nm, _, _, b, rfl, .ty _, h1, kit_ty h2, h3⟩
theorem pe_isiQM {f : Mac} {t u : Ty} {p pos pt pu pp : Pos} {x1} {e : Expr} {tn un : Str} (hK : X.K = k.K) (hg : Gl X "isinstance") (hm : X.mg "isinstance" = none) (ha : PE X e (tM k W f)) (ht : PE X (.Name tn pt) (tC (.ty t.nm))) (hu : PE X (.Name un pu) (tC (.ty u.nm)))
    (he : starEach [e, .Tuple [.Name tn pt, .Name un pu] x1 pp] X.env = (false, eval e X.env) :: starEach [.Tuple [.Name tn pt, .Name un pu] x1 pp] X.env := by rfl)
    (he2 : starEach [.Tuple [.Name tn pt, .Name un pu] x1 pp] X.env = (false, eval (.Tuple [.Name tn pt, .Name un pu] x1 pp) X.env) :: starEach [] X.env := by rfl)
    (he3 : starEach [.Name tn pt, .Name un pu] X.env = (false, eval (.Name tn pt) X.env) :: starEach [.Name un pu] X.env := by rfl) (he4 : starEach [.Name un pu] X.env = (false, eval (.Name un pu) X.env) :: starEach [] X.env := by rfl)
    (hpl : (backTo pos (starEach [.Tuple [.Name tn pt, .Name un pu] x1 pp] X.env)).any (·.1) = false := by rfl) :
    PE X (.Call (.Name "isinstance" p) [e, .Tuple [.Name tn pt, .Name un pu] x1 pp] [] pos) (tM k W (e1 f (opIsiQ t u))) := by
  have hc : CallR X (.builtin "isinstance") (rIsiT k.K) := hK ▸ call_isiT
  refine pe_mono (pe_callB hc hg hm (by decide +kernel) (pa_cons ha (pa_cons (pe_tup (pa_cons ht (pa_cons hu pa_nil he4) he3)) pa_nil he2) he) (by decide) (by decide) he hpl) fun σ H Q h => ?_
  refine tM_mono (fun x H1 h => ?_) (read1 h)
  obtain ⟨n, b, c, h1, h2, h3, h4⟩ := fit_isiQ W σ Q x H1 h
  refine ⟨by show 2 ≤ sizeLine; decide, fun p np => ?_⟩
  refine ⟨x, p, _, _, [.type t.nm, .type u.nm], b || c, rfl, upd_same, .cons (.ty _) (.cons (.ty _) .nil), TyX.mono (G := H1) np h1, ?_, h4 p np⟩
  refine kitAny_cons (kit_ty h2) (fun e => ?_) (fun e => by rw [e] <;> rfl)
  refine kitAny_cons (kit_ty h3) (fun e2 => ?_) (fun e2 => by rw [e, e2] <;> rfl)
  rw [e, e2]
  rfl
/-! ### slices -/
def oNone : MSt → Option (Option Int) := fun _ => some none
/-- a bound of a slice: nothing is changed by it -/
def oSome (f : Mac) : MSt → Option (Option Int) := fun s => match f s with
  | .ok a _ false => a.d.int?.map some
  | _ => none
def cutD (xs : List D) (lo hi : Option Int) : List D := (xs.drop (HT.sIx xs.length 0 lo)).take (HT.sIx xs.length xs.length hi - HT.sIx xs.length 0 lo)
theorem cut_rep {F : Hp} {vs : List V} {ds : List D} {lo hi : Option Int} (h : RepL k m F vs ds) : RepL k m F (cutV vs lo hi) (cutD ds lo hi) := by
  unfold cutV cutD
  rw [h.len]
  exact (h.drop _).take _
theorem immL_drop : ∀ {ds : List D} (n : Nat), immL ds = true → immL (ds.drop n) = true
  | _, 0, h => h
  | [], _ + 1, h => rfl
  | d :: ds, n + 1, h => immL_drop n (Bool.and_eq_true_iff.mp h).2
theorem immL_take : ∀ {ds : List D} (n : Nat), immL ds = true → immL (ds.take n) = true
  | _, 0, h => rfl
  | [], _ + 1, h => rfl
  | d :: ds, n + 1, h => by
    obtain ⟨h1, h2⟩ := Bool.and_eq_true_iff.mp h
    show (imm d && immL (ds.take n)) = true
    rw [h1, immL_take n h2]
    rfl
theorem immL_app : ∀ {ds es : List D}, immL ds = true → immL es = true → immL (ds ++ es) = true
  | [], _, _, h => h
  | d :: ds, es, h, h' => by
    obtain ⟨h1, h2⟩ := Bool.and_eq_true_iff.mp h
    show (imm d && immL (ds ++ es)) = true
    rw [h1, immL_app h2 h']
    rfl
/-- a new row, of parts of a value at hand -/
def rowO (a : Val) (l : List D) : Option Own := bif immL l then some .al else bif nb a then some .sp else none
end
end MM

/-! Statements of the machine: blocks, stores to names, ends. -/
namespace MM
open PySem PySem.Spec PyProof.Rows L2 GB
inductive Fl where
  | nx | bk | ct | rt (a : Val)
abbrev Mas := MSt → Res Fl
section
variable (k : Ks) (W : WX) (P : Addr → Prop) (w : Ow) (m : List Addr) (H : Hp)
def PostS (D : Ends) : Res Fl → Prop
  | .ok .nx s' _ => ∀ σ' H' w' m', Stg k P σ' w m H [] w' m' H' s' true → D.nx σ' H'
  | .ok .bk s' _ => ∀ σ' H' w' m', Stg k P σ' w m H [] w' m' H' s' true → D.bk σ' H'
  | .ok .ct s' _ => ∀ σ' H' w' m', Stg k P σ' w m H [] w' m' H' s' true → D.ct σ' H'
  | .ok (.rt a) s' _ => ∀ σ' v H' A w' m', Stg k P σ' w m H A w' m' H' s' true → RepO k m' (fz (plus A P) w' H') H' a.o A v a.d → D.rt v H'
  | .err c ns l s' => ∀ σ', PErr k W P w m σ' H c ns l s'
  | .bad => False
end
def tMS (k : Ks) (W : WX) (f : Mas) : TS := fun D σ H => ∃ P w m s, SR k P w m σ H s ∧ PostS k W P w m H D (f s)
/-- the owners' entries -/
def ent (s : MSt) : Nat ⊕ Nat → Option Val
  | .inl i => (s.env[i]?).bind id
  | .inr n => (s.cells[n]?).bind id
def valAt (σ : L2.St) (m : List Addr) : Nat ⊕ Nat → Option V
  | .inl i => (σ[i]?).bind id
  | .inr n => (m[n]?).map V.ref
def put (s : MSt) (q : Nat ⊕ Nat) (x : Option Val) : MSt := match q with
  | .inl i => ⟨s.env.set i x, s.cells⟩
  | .inr n => ⟨s.env, s.cells.set n x⟩
section
variable {k : Ks} {W : WX} {P : Addr → Prop} {w w1 w2 : Ow} {m m1 m2 : List Addr} {σ σ1 : L2.St} {H H1 H2 : Hp} {A B : List Addr} {e e2 : Bool} {s s1 : MSt} {X : Cx} {D : Ends}
theorem SR.ent (r : SR k P w m σ H s) {q : Nat ⊕ Nat} {x : Val} (h : MM.ent s q = some x) : ∃ v A, valAt σ m q = some v ∧ RepO k m (fz P w H) H x.o A v x.d ∧ A.Nodup ∧ (∀ a ∈ A, w a = some q) ∧ x.o ≠ .bo := by
  cases q with
  | inl i =>
    have h1 : s.env[i]? = some (some x) := by
      unfold MM.ent at h
      dsimp only at h
      cases q : s.env[i]? with
      | none =>
        rw [q] at h
        cases h
      | some y =>
        rw [q] at h
        have h : y = some x := h
        rw [h]
    obtain ⟨v, A, h2, h3, h4, h5, h6⟩ := r.env i x.o x.d h1
    refine ⟨v, A, ?_, h3, h4, h5, h6⟩
    show (σ[i]?).bind id = some v
    rw [h2]
    rfl
  | inr n =>
    have h1 : s.cells[n]? = some (some x) := by
      unfold MM.ent at h
      dsimp only at h
      cases q : s.cells[n]? with
      | none =>
        rw [q] at h
        cases h
      | some y =>
        rw [q] at h
        have h : y = some x := h
        rw [h]
    obtain ⟨a, A, h2, h3, h4, h5, h6⟩ := r.cel n x.o x.d h1
    refine ⟨.ref a, A, ?_, h3, h4, h5, h6⟩
    show (m[n]?).map V.ref = some (.ref a)
    rw [h2]
    rfl
/-- an owner's new belongings -/
def own (w : Ow) (q : Nat ⊕ Nat) (A : List Addr) : Ow := fun a => if a ∈ A then some q else if w a = some q then none else w a
theorem own_in {q : Nat ⊕ Nat} {a : Addr} (h : a ∈ A) : own w q A a = some q := if_pos h
theorem own_out {q : Nat ⊕ Nat} {a : Addr} (h : a ∉ A) : own w q A a = if w a = some q then none else w a := if_neg h
theorem own_none {q : Nat ⊕ Nat} {a : Addr} (h : a ∉ A) (n : w a = none) : own w q A a = none := by
  rw [own_out h, n]
  rfl
theorem own_other {q q' : Nat ⊕ Nat} {a : Addr} (h : a ∉ A) (n : w a = some q') (d : q' ≠ q) : own w q A a = some q' := by
  rw [own_out h, n, if_neg]
  intro z
  exact d (Option.some.inj z)
theorem own_inv {q q' : Nat ⊕ Nat} {a : Addr} (h : own w q A a = some q') (d : q' ≠ q) : w a = some q' ∧ a ∉ A := by
  by_cases z : a ∈ A
  · rw [own_in z] at h
    exact absurd (Option.some.inj h).symm d
  · rw [own_out z] at h
    by_cases y : w a = some q
    · rw [if_pos y] at h
      cases h
    · rw [if_neg y] at h
      exact ⟨h, z⟩
/-- THE STORE: the owner q gets a new entry; the object at a (its own, or none) is changed -/
theorem SR.put {q : Nat ⊕ Nat} {A' : List Addr} {σ' : L2.St} {H' : Hp} {x : Option Val} (r : SR k (plus A P) w m σ H s)
    (off : ∀ a ∈ A, ¬ P a) (ch : ∀ b u, H b = some u → w b ≠ some q → H' b = some u) (wr : ∀ b, (b ∈ A' ∨ b ∈ B ∨ w b = some q) → ∃ u, H' b = some u ∧ Wr u)
    (inA : ∀ b ∈ A', b ∈ A ∨ w b = some q ∨ H b = none) (inB : ∀ b ∈ B, (b ∈ A ∨ w b = some q ∨ H b = none) ∧ b ∉ A')
    (ls : σ'.length = σ.length) (os : ∀ j, q ≠ .inl j → σ'[j]? = σ[j]?) (om : ∀ j, q = .inr j → m[j]? ≠ none)
    (new : ∀ y, x = some y → ∃ v, valAt σ' m q = some v ∧ RepO k m (fz (plus B P) (own w q A') H') H' y.o A' v y.d ∧ A'.Nodup ∧ y.o ≠ .bo) : SR k (plus B P) (own w q A') m σ' H' (MM.put s q x) := by
  have pn : ∀ b, P b → w b = none ∧ b ∉ A' ∧ b ∉ B := fun b pb => by
    have wb := r.dis b (.inr pb)
    obtain ⟨u, hu, _⟩ := r.wr b (.inl (.inr pb))
    have no : ¬ (b ∈ A ∨ w b = some q ∨ H b = none) := by
      rintro (z | z | z)
      · exact off b z pb
      · rw [wb] at z; cases z
      · rw [hu] at z; cases z
    exact ⟨wb, fun z => no (inA b z), fun z => no (inB b z).1⟩
  have f : Same (fz (plus A P) w H) (fz (plus B P) (own w q A') H') := fz_step fun b u hu n1 n2 => by
    have nA : b ∉ A := fun z => n1 (.inl z)
    have nP : ¬ P b := fun z => n1 (.inr z)
    have no : ¬ (b ∈ A ∨ w b = some q ∨ H b = none) := by
      rintro (z | z | z)
      · exact nA z
      · rw [n2] at z; cases z
      · rw [hu] at z; cases z
    refine ⟨ch b u hu (by rw [n2]; simp), ?_, own_none (fun z => no (inA b z)) n2⟩
    rintro (z | z)
    · exact no (inB b z).1
    · exact nP z
  have ks : ∀ (q' : Nat ⊕ Nat) (C : List Addr), q' ≠ q → (∀ b ∈ C, w b = some q') → Keep C H H' := fun q' C d hc b u hu z => by
    refine ch b u hu ?_
    rcases z with z | z
    · rw [hc b z]
      intro y
      exact d (Option.some.inj y)
    · rw [(r.notree b u hu z).2]
      simp
  have others : ∀ (q' : Nat ⊕ Nat) (C : List Addr), q' ≠ q → (∀ b ∈ C, w b = some q') → ∀ b ∈ C, own w q A' b = some q' := fun q' C d hc b hb => by
    refine own_other (fun z => ?_) (hc b hb) d
    rcases inA b z with y | y | y
    · have := r.dis b (.inl y)
      rw [hc b hb] at this
      cases this
    · rw [hc b hb] at y
      exact d (Option.some.inj y)
    · obtain ⟨u, hu, _⟩ := r.wr b (.inr (by rw [hc b hb]; simp))
      rw [y] at hu
      cases hu
  refine ⟨?_, ?_, ?_, ?_, ?_, ?_⟩
  · rintro b ((z | z) | z)
    · exact wr b (.inr (.inl z))
    · obtain ⟨u, hu, q1⟩ := r.wr b (.inl (.inr z))
      exact ⟨u, ch b u hu (by rw [(pn b z).1]; simp), q1⟩
    · by_cases y : b ∈ A'
      · exact wr b (.inl y)
      · rw [own_out y] at z
        by_cases y2 : w b = some q
        · rw [if_pos y2] at z
          exact absurd rfl z
        · rw [if_neg y2] at z
          obtain ⟨u, hu, q1⟩ := r.wr b (.inr z)
          exact ⟨u, ch b u hu y2, q1⟩
  · rintro b (z | z)
    · obtain ⟨i1, i2⟩ := inB b z
      rw [own_out i2]
      rcases i1 with i1 | i1 | i1
      · rw [r.dis b (.inl i1)]
        rfl
      · rw [if_pos i1]
      · by_cases y : w b = some q
        · rw [if_pos y]
        · rw [if_neg y]
          cases q1 : w b with
          | none => rfl
          | some q2 =>
            obtain ⟨u, hu, _⟩ := r.wr b (.inr (by rw [q1]; simp))
            rw [i1] at hu
            cases hu
    · exact own_none (pn b z).2.1 (pn b z).1
  · cases q with
    | inl i => show (s.env.set i x).length = _; rw [List.length_set, ls]; exact r.len
    | inr n => show s.env.length = _; rw [ls]; exact r.len
  · cases q with
    | inl i => exact r.mlen
    | inr n => show (s.cells.set n x).length = _; rw [List.length_set]; exact r.mlen
  · intro i o d h
    by_cases c : (.inl i : Nat ⊕ Nat) = q
    · subst c
      have h2 : (s.env.set i x)[i]? = some (some ⟨o, d⟩) := h
      have lt : i < s.env.length := by
        have z := (List.getElem?_eq_some_iff.mp h2).1
        rw [List.length_set] at z
        exact z
      rw [List.getElem?_set_self lt] at h2
      obtain ⟨v, n1, n2, n3, n4⟩ := new ⟨o, d⟩ (Option.some.inj h2)
      refine ⟨v, A', ?_, n2, n3, fun b hb => own_in hb, n4⟩
      cases q2 : σ'[i]? with
      | none =>
        have n1 : (σ'[i]?).bind id = some v := n1
        rw [q2] at n1
        cases n1
      | some y =>
        have n1 : (σ'[i]?).bind id = some v := n1
        rw [q2] at n1
        have n1 : y = some v := n1
        rw [n1]
    · have h2 : s.env[i]? = some (some ⟨o, d⟩) := by
        cases q with
        | inl j =>
          have h2 : (s.env.set j x)[i]? = some (some ⟨o, d⟩) := h
          rw [List.getElem?_set_ne (fun z => c (by rw [z]))] at h2
          exact h2
        | inr n => exact h
      obtain ⟨v, C, e1, e2, e3, e4, e5⟩ := r.env i o d h2
      refine ⟨v, C, by rw [os i (fun z => c z.symm)]; exact e1, e2.move f (ks _ C c e4) Pre.refl (fun z => absurd z e5), e3, others _ C c e4, e5⟩
  · intro j o d h
    by_cases c : (.inr j : Nat ⊕ Nat) = q
    · subst c
      have h2 : (s.cells.set j x)[j]? = some (some ⟨o, d⟩) := h
      have lt : j < s.cells.length := by
        have z := (List.getElem?_eq_some_iff.mp h2).1
        rw [List.length_set] at z
        exact z
      rw [List.getElem?_set_self lt] at h2
      obtain ⟨v, n1, n2, n3, n4⟩ := new ⟨o, d⟩ (Option.some.inj h2)
      obtain ⟨a, ea, ev⟩ := Option.map_eq_some_iff.mp (show (m[j]?).map V.ref = some v from n1)
      subst ev
      exact ⟨a, A', ea, n2, n3, fun b hb => own_in hb, n4⟩
    · have h2 : s.cells[j]? = some (some ⟨o, d⟩) := by
        cases q with
        | inl i => exact h
        | inr n =>
          have h2 : (s.cells.set n x)[j]? = some (some ⟨o, d⟩) := h
          rw [List.getElem?_set_ne (fun z => c (by rw [z]))] at h2
          exact h2
      obtain ⟨a, C, e1, e2, e3, e4, e5⟩ := r.cel j o d h2
      exact ⟨a, C, e1, e2.move f (ks _ C c e4) Pre.refl (fun z => absurd z e5), e3, others _ C c e4, e5⟩
/-- behind a store -/
theorem Stg.put {q : Nat ⊕ Nat} {A' : List Addr} {σ' : L2.St} {H' : Hp} {x : Option Val} {w0 : Ow} {m0 : List Addr} {H0 : Hp} (g : Stg k P σ w0 m0 H0 A w m H s e)
    (ch : ∀ b u, H b = some u → w b ≠ some q → H' b = some u) (wr : ∀ b, (b ∈ A' ∨ b ∈ B ∨ w b = some q) → ∃ u, H' b = some u ∧ Wr u)
    (inA : ∀ b ∈ A', b ∈ A ∨ w b = some q ∨ H b = none) (inB : ∀ b ∈ B, (b ∈ A ∨ w b = some q ∨ H b = none) ∧ b ∉ A') (nB : B.Nodup)
    (ls : σ'.length = σ.length) (os : ∀ j, q ≠ .inl j → σ'[j]? = σ[j]?) (om : ∀ j, q = .inr j → m[j]? ≠ none)
    (new : ∀ y, x = some y → ∃ v, valAt σ' m q = some v ∧ RepO k m (MM.fz (plus B P) (own w q A') H') H' y.o A' v y.d ∧ A'.Nodup ∧ y.o ≠ .bo) : Stg k P σ' w0 m0 H0 B (own w q A') m H' (MM.put s q x) true := by
  have old : ∀ b u, H0 b = some u → w0 b = none → ¬ (b ∈ A ∨ w b = some q ∨ H b = none) := fun b u hu n => by
    obtain ⟨h1, h2, h3⟩ := g.st.keep b u hu n
    rintro (z | z | z)
    · exact h3 z
    · rw [h2] at z; cases z
    · rw [h1] at z; cases z
  refine ⟨g.sr.put g.off ch wr inA inB ls os om new, ⟨fun b u hu n => ?_, g.st.pre⟩, nB, fun z => (nomatch z), fun b hb pb => ?_⟩
  · obtain ⟨h1, h2, h3⟩ := g.st.keep b u hu n
    have no := old b u hu n
    exact ⟨ch b u h1 (by rw [h2]; simp), own_none (fun z => no (inA b z)) h2, fun z => no (inB b z).1⟩
  · rcases (inB b hb).1 with z | z | z
    · exact g.off b z pb
    · have := g.sr.dis b (.inr pb)
      rw [z] at this
      cases this
    · obtain ⟨u, hu, _⟩ := g.sr.wr b (.inl (.inr pb))
      rw [z] at hu
      cases hu
/-- a value is given to a slot -/
theorem Stg.set {i : Nat} {w0 : Ow} {m0 : List Addr} {H0 : Hp} {a : Val} {v : V} (g : Stg k P σ w0 m0 H0 A w m H s e) (p : RepO k m (MM.fz (plus A P) w H) H a.o A v a.d) (nb : a.o ≠ .bo) (hi : i < s.env.length) :
    Stg k P (σ.set i (some v)) w0 m0 H0 [] (own w (.inl i) A) m H (MM.put s (.inl i) (some a)) true := by
  refine g.put (B := []) (A' := A) (fun _ _ h _ => h) ?_ (fun b hb => .inl hb) (by simp) List.nodup_nil (by rw [List.length_set]) (fun j hj => by rw [List.getElem?_set_ne (fun z => hj (by rw [z]))]) (fun j z => nomatch z) ?_
  · rintro b (z | z | z)
    · exact p.wr b z
    · simp at z
    · exact g.sr.wr b (.inr (by rw [z]; simp))
  · intro y hy
    cases hy
    refine ⟨v, ?_, p.move ?_ (fun _ _ z _ => z) Pre.refl (fun z => absurd z nb), g.nd, nb⟩
    · show ((σ.set i (some v))[i]?).bind id = some v
      rw [List.getElem?_set_self (by rw [← g.sr.len]; exact hi)]
      rfl
    · exact fz_step fun b u hu n1 n2 => ⟨hu, fun z => z.elim (by simp) (fun y => n1 (.inr y)), own_none (fun z => n1 (.inl z)) n2⟩
/-- a slot is forgotten -/
theorem Stg.wipe {i : Nat} {w0 : Ow} {m0 : List Addr} {H0 : Hp} (g : Stg k P σ w0 m0 H0 [] w m H s e) : Stg k P σ w0 m0 H0 [] (own w (.inl i) []) m H (MM.put s (.inl i) none) true := by
  refine g.put (B := []) (A' := []) (fun _ _ h _ => h) ?_ (by simp) (by simp) List.nodup_nil rfl (fun j hj => rfl) (fun j z => nomatch z) (fun y z => nomatch z)
  rintro b (z | z | z)
  · simp at z
  · simp at z
  · exact g.sr.wr b (.inr (by rw [z]; simp))
/-! ### the wish behind a statement -/
theorem PErr.base {c : Str} {ns : List Str} {l : List MM.D} {s' : MSt} (g : Stg k P σ1 w m H [] w1 m1 H1 s1 e) (h : PErr k W P w m σ H c ns l s') : PErr k W P w1 m1 σ H1 c ns l s' := by
  intro C dd xs H' w' m' e1 e2 e3 e4 e5 e6
  exact h C dd xs H' w' m' e1 e2 e3 e4 e5 ((g.st.trans e6).less (by simp))
theorem Stg.behind {σ2 : L2.St} {s2 : MSt} (g : Stg k P σ1 w m H [] w1 m1 H1 s1 e) (h : Stg k P σ2 w1 m1 H1 A w2 m2 H2 s2 e2) : Stg k P σ2 w m H A w2 m2 H2 s2 true :=
  ⟨h.sr, (g.st.trans h.st).less (by simp), h.nd, fun z => (nomatch z), h.off⟩
theorem PostS.base {r : Res Fl} (g : Stg k P σ1 w m H [] w1 m1 H1 s1 e) (h : PostS k W P w m H D r) : PostS k W P w1 m1 H1 D r := by
  cases r with
  | ok f s' e2 =>
    cases f with
    | nx => exact fun σ' H' w' m' g2 => h σ' H' w' m' (g.behind g2)
    | bk => exact fun σ' H' w' m' g2 => h σ' H' w' m' (g.behind g2)
    | ct => exact fun σ' H' w' m' g2 => h σ' H' w' m' (g.behind g2)
    | rt a => exact fun σ' v H' A w' m' g2 p => h σ' v H' A w' m' (g.behind g2) p
  | err c ns l s' => exact fun σ' => PErr.base g (h σ')
  | bad => exact h
theorem Stg.srn (g : Stg k P σ1 w m H [] w1 m1 H1 s1 e) : SR k P w1 m1 σ1 H1 s1 := by
  have z := g.sr
  rw [plus_nil] at z
  exact z
/-! ### blocks -/
def mNext : Mas := fun s => .ok .nx s true
def mSeq (f g : Mas) : Mas := fun s => match f s with
  | .ok .nx s1 _ => g s1
  | r => r
theorem seq_read {f g : Mas} (h : tMS k W (mSeq f g) D σ H) : tMS k W f { D with nx := tMS k W g D } σ H := by
  obtain ⟨P, w, m, s, r, h⟩ := h
  refine ⟨P, w, m, s, r, ?_⟩
  unfold mSeq at h
  cases q : f s with
  | ok fl s1 e1 =>
    rw [q] at h
    cases fl with
    | nx => exact fun σ' H' w' m' g2 => ⟨P, w', m', s1, g2.srn, h.base g2⟩
    | bk => exact h
    | ct => exact h
    | rt a => exact h
  | err c ns l s' =>
    rw [q] at h
    exact h
  | bad =>
    rw [q] at h
    exact h
theorem next_read (h : tMS k W mNext D σ H) : D.nx σ H := by
  obtain ⟨P, w, m, s, r, h⟩ := h
  exact h σ H w m ((Stg.refl r).ef fun z => nomatch z)
theorem pss_nilM : PSs X [] (tMS k W mNext) := pss_mono pss_nil fun D σ H h => next_read h
theorem pss_consM {st : Stmt} {rest : List Stmt} {f g : Mas} (h1 : PS X st (tMS k W f)) (h2 : PSs X rest (tMS k W g)) : PSs X (st :: rest) (tMS k W (mSeq f g)) := pss_mono (pss_cons h1 h2) fun D σ H h => seq_read h
theorem pss_oneM {st : Stmt} {f : Mas} (h1 : PS X st (tMS k W f)) : PSs X [st] (tMS k W f) := pss_one h1
theorem ps_passM {pos : Pos} : PS X (.Pass pos) (tMS k W mNext) := ps_mono ps_pass fun D σ H h => next_read h
def mBreak : Mas := fun s => .ok .bk s true
def mCont : Mas := fun s => .ok .ct s true
theorem ps_breakM {pos : Pos} : PS X (.Break pos) (tMS k W mBreak) := ps_mono ps_break fun D σ H h => by
  obtain ⟨P, w, m, s, r, h⟩ := h
  exact h σ H w m ((Stg.refl r).ef fun z => nomatch z)
theorem ps_contM {pos : Pos} : PS X (.Continue pos) (tMS k W mCont) := ps_mono ps_continue fun D σ H h => by
  obtain ⟨P, w, m, s, r, h⟩ := h
  exact h σ H w m ((Stg.refl r).ef fun z => nomatch z)
/-- what a statement does ahead of its text: slots forgotten, slots given up -/
def wipes : List Nat → MSt → MSt
  | [], s => s
  | i :: l, s => wipes l (put s (.inl i) none)
def mWipe (l : List Nat) (f : Mas) : Mas := fun s => f (wipes l s)
theorem Stg.wipes {w0 : Ow} {m0 : List Addr} {H0 : Hp} : ∀ (l : List Nat) {w : Ow} {s : MSt} {e : Bool}, Stg k P σ w0 m0 H0 [] w m H s e → ∃ w', Stg k P σ w0 m0 H0 [] w' m H (MM.wipes l s) true
  | [], _, _, _, g => ⟨_, g.ef fun z => nomatch z⟩
  | i :: l, _, _, _, g => Stg.wipes l (g.wipe (i := i))
theorem wipe_read {l : List Nat} {f : Mas} (h : tMS k W (mWipe l f) D σ H) : tMS k W f D σ H := by
  obtain ⟨P, w, m, s, r, h⟩ := h
  obtain ⟨w', g⟩ := Stg.wipes l (Stg.refl r)
  exact ⟨P, w', m, _, g.srn, PostS.base g h⟩
theorem ps_wipeM {st : Stmt} {f : Mas} (l : List Nat) (h : PS X st (tMS k W f)) : PS X st (tMS k W (mWipe l f)) := ps_mono h fun D σ H h => wipe_read h
/-! ### ends -/
def mRet (f : Mac) : Mas := fun s => match f s with
  | .ok a s1 e => .ok (.rt a) s1 e
  | .err c ns l s' => .err c ns l s'
  | .bad => .bad
def mRetN : Mas := fun s => .ok (.rt ⟨.al, .non⟩) s true
/-- the slot's own value goes out -/
def mRetV (i : Nat) : Mas := fun s => match s.env[i]? with
  | some (some a) => .ok (.rt a) (put s (.inl i) none) true
  | _ => .bad
/-- an expression whose wish stands with the slots -/
theorem PErr.any {c : Str} {ns : List Str} {l : List MM.D} {s' : MSt} (h : ∀ σ', PErr k W P w m σ' H c ns l s') : PErr k W P w m σ H c ns l s' := h σ
theorem ret_read {f : Mac} (h : tMS k W (mRet f) D σ H) : tM k W f σ H D.rt := by
  obtain ⟨P, w, m, s, r, h⟩ := h
  refine ⟨P, w, m, s, r, ?_⟩
  unfold mRet at h
  cases q : f s with
  | ok a s1 e1 =>
    rw [q] at h
    exact fun v H' A w' m' g p => h σ v H' A w' m' (g.ef fun z => nomatch z) p
  | err c ns l s' =>
    rw [q] at h
    exact h σ
  | bad =>
    rw [q] at h
    exact h
theorem ps_retM {e : Expr} {f : Mac} {pos : Pos} (he : PE X e (tM k W f)) : PS X (.Return (some e) pos) (tMS k W (mRet f)) := ps_mono (ps_ret he) fun D σ H h => ret_read h
theorem ps_retNM {pos : Pos} : PS X (.Return none pos) (tMS k W mRetN) := ps_mono ps_retN fun D σ H h => by
  obtain ⟨P, w, m, s, r, h⟩ := h
  exact h σ .non H [] w m ((Stg.refl r).ef fun z => nomatch z) (.al (.imm .non rfl))
/-- a slot's own value is taken out of it -/
theorem Stg.take {i : Nat} {a : Val} (r : SR k P w m σ H s) (h : s.env[i]? = some (some a)) : ∃ v A w', σ[i]? = some (some v) ∧ Stg k P σ w m H A w' m H (MM.put s (.inl i) none) true ∧ RepO k m (MM.fz (plus A P) w' H) H a.o A v a.d ∧ a.o ≠ .bo := by
  obtain ⟨v, A, h1, h2, h3, h4, h5⟩ := r.env i a.o a.d h
  refine ⟨v, A, own w (.inl i) [], h1, ?_, ?_, h5⟩
  · refine (Stg.refl r).put (B := A) (A' := []) (fun _ _ h _ => h) ?_ (by simp) (fun b hb => ⟨.inr (.inl (h4 b hb)), by simp⟩) h3 rfl (fun j hj => rfl) (fun j z => nomatch z) (fun y z => nomatch z)
    rintro b (z | z | z)
    · simp at z
    · exact h2.wr b z
    · exact r.wr b (.inr (by rw [z]; simp))
  · refine h2.move ?_ (fun _ _ z _ => z) Pre.refl (fun z => absurd z h5)
    refine fz_step fun b u hu n1 n2 => ⟨hu, ?_, own_none (by simp) n2⟩
    rintro (z | z)
    · rw [h4 b z] at n2; cases n2
    · exact n1 z
theorem ps_retVM {i : Nat} {x : Str} {pos p2 : Pos} (hN : X.N[i]? = some x) (hv : Vis X.env.scope x) (hd : (x == ("__debug__" : Str)) = false := by decide) (hcd : (x == ("__classdict__" : Str)) = false := by decide) : PS X (.Return (some (.Name x p2)) pos) (tMS k W (mRetV i)) :=
  ps_mono (ps_ret (pe_var hN hv hd hcd)) fun D σ H h => by
    obtain ⟨P, w, m, s, r, h⟩ := h
    unfold mRetV at h
    cases q : s.env[i]? with
    | none =>
      rw [q] at h
      exact h.elim
    | some y =>
      cases y with
      | none =>
        rw [q] at h
        exact h.elim
      | some a =>
        rw [q] at h
        obtain ⟨v, A, w', h1, g, p, _⟩ := Stg.take r q
        exact ⟨v, h1, h σ v H A w' m g p⟩
/-! ### stores to names -/
def stO (fr : Bool) (a : Val) : Val := bif fr then ⟨.sh, a.d⟩ else a
/-- name = value; fr: given up at once -/
def mSet (fr : Bool) (i : Nat) (f : Mac) : Mas := fun s => match f s with
  | .ok a s1 _ => bif decide (a.o = .bo) || decide (s1.env.length ≤ i) then .bad else .ok .nx (put s1 (.inl i) (some (stO fr a))) true
  | .err c ns l s' => .err c ns l s'
  | .bad => .bad
/-- a value at hand is stored, as it is or given up -/
theorem Stg.sto {i : Nat} {fr : Bool} {w0 : Ow} {m0 : List Addr} {H0 : Hp} {a : Val} {v : V} (g : Stg k P σ w0 m0 H0 A w m H s e) (p : RepO k m (MM.fz (plus A P) w H) H a.o A v a.d) (nb : a.o ≠ .bo) (hi : i < s.env.length) :
    ∃ w', Stg k P (σ.set i (some v)) w0 m0 H0 [] w' m H (MM.put s (.inl i) (some (stO fr a))) true := by
  cases fr with
  | false => exact ⟨_, g.set p nb hi⟩
  | true =>
    have q : Rep k m (MM.fz P w H) v a.d := p.rep g.fzl (g.give fun _ z => z) fun z => absurd z nb
    exact ⟨_, g.bare.set (a := ⟨.sh, a.d⟩) (by rw [plus_nil]; exact .sh q) (by intro z; cases z) hi⟩
theorem set_read {fr : Bool} {i : Nat} {f : Mac} (h : tMS k W (mSet fr i f) D σ H) : tM k W f σ H fun v H1 => D.nx (σ.set i (some v)) H1 := by
  obtain ⟨P, w, m, s, r, h⟩ := h
  refine ⟨P, w, m, s, r, ?_⟩
  unfold mSet at h
  cases q : f s with
  | ok a s1 e1 =>
    rw [q] at h
    dsimp only at h
    intro v H' A w' m' g p
    cases c : (decide (a.o = .bo) || decide (s1.env.length ≤ i)) with
    | true =>
      rw [c] at h
      exact h.elim
    | false =>
      rw [c] at h
      obtain ⟨c1, c2⟩ := Bool.or_eq_false_iff.mp c
      obtain ⟨w2, g2⟩ := g.sto (fr := fr) (i := i) p (of_decide_eq_false c1) (by have := of_decide_eq_false c2; omega)
      exact h _ _ w2 m' g2
  | err c ns l s' =>
    rw [q] at h
    exact h σ
  | bad =>
    rw [q] at h
    exact h
theorem ps_setM (fr : Bool) {i : Nat} {x : Str} {e : Expr} {f : Mac} {pos pos' : Pos} (hN : X.N.Nodup) (hi : X.N[i]? = some x) (hx : Loc X.env.scope x) (he : PE X e (tM k W f)) (hs : swapsWith e (some (.Name x pos')) pos.line X.env = pure false := by rfl) (hf : X.fn x = true ∨ X.env.scope.names.lookup x = some .local := by first | exact .inl rfl | exact .inr rfl | assumption) :
    PS X (.Assign [.Name x pos'] e pos) (tMS k W (mSet fr i f)) := ps_mono (ps_set hN hi hx he hs hf) fun D σ H h => set_read h
/-- x = y, y's own value taken -/
def mMove (i j : Nat) : Mas := fun s => match s.env[j]? with
  | some (some a) => bif decide (s.env.length ≤ i) then .bad else .ok .nx (put (put s (.inl j) none) (.inl i) (some a)) true
  | _ => .bad
theorem ps_moveM {i j : Nat} {x y : Str} {pos pos' p2 : Pos} (hN : X.N.Nodup) (hi : X.N[i]? = some x) (hx : Loc X.env.scope x) (hj : X.N[j]? = some y) (hv : Vis X.env.scope y) (hs : swapsWith (.Name y p2) (some (.Name x pos')) pos.line X.env = pure false := by rfl) (hd : (y == ("__debug__" : Str)) = false := by decide) (hcd : (y == ("__classdict__" : Str)) = false := by decide) (hf : X.fn x = true ∨ X.env.scope.names.lookup x = some .local := by first | exact .inl rfl | exact .inr rfl | assumption) :
    PS X (.Assign [.Name x pos'] (.Name y p2) pos) (tMS k W (mMove i j)) := ps_mono (ps_set hN hi hx (pe_var hj hv hd hcd) hs hf) fun D σ H h => by
  obtain ⟨P, w, m, s, r, h⟩ := h
  unfold mMove at h
  cases q : s.env[j]? with
  | none =>
    rw [q] at h
    exact h.elim
  | some y =>
    cases y with
    | none =>
      rw [q] at h
      exact h.elim
    | some a =>
      rw [q] at h
      dsimp only at h
      cases c : decide (s.env.length ≤ i) with
      | true =>
        rw [c] at h
        exact h.elim
      | false =>
        rw [c] at h
        obtain ⟨v, A, w', h1, g, p, nb⟩ := Stg.take r q
        refine ⟨v, h1, h _ _ _ _ (g.set p nb ?_)⟩
        show i < (s.env.set j none).length
        rw [List.length_set]
        have := of_decide_eq_false c
        omega
/-- an expression for its effect -/
def mExpr (f : Mac) : Mas := fun s => match f s with
  | .ok _ s1 _ => .ok .nx s1 true
  | .err c ns l s' => .err c ns l s'
  | .bad => .bad
theorem expr_read {f : Mac} (h : tMS k W (mExpr f) D σ H) : tM k W f σ H fun _ H1 => D.nx σ H1 := by
  obtain ⟨P, w, m, s, r, h⟩ := h
  refine ⟨P, w, m, s, r, ?_⟩
  unfold mExpr at h
  cases q : f s with
  | ok a s1 e1 =>
    rw [q] at h
    intro v H' A w' m' g p
    exact h σ H' w' m' (g.bare.ef fun z => nomatch z)
  | err c ns l s' =>
    rw [q] at h
    exact h σ
  | bad =>
    rw [q] at h
    exact h
theorem ps_exprM {e : Expr} {f : Mac} {pos : Pos} (he : PE X e (tM k W f)) (hs : swapsWith e none pos.line X.env = pure false := by rfl) : PS X (.Expr e pos) (tMS k W (mExpr f)) := ps_mono (ps_expr he hs) fun D σ H h => expr_read h
/-! ### if -/
def mIf (t : Mab) (f g : Mas) : Mas := fun s => match t s with
  | .ok b s1 _ => bif b then f s1 else g s1
  | .err c ns l s' => .err c ns l s'
  | .bad => .bad
theorem if_read {t : Mab} {f g : Mas} (h : tMS k W (mIf t f g) D σ H) : tMT k W t σ H fun b H1 => if b = true then tMS k W f D σ H1 else tMS k W g D σ H1 := by
  obtain ⟨P, w, m, s, r, h⟩ := h
  refine ⟨P, w, m, s, r, ?_⟩
  unfold mIf at h
  cases q : t s with
  | ok b s1 e1 =>
    rw [q] at h
    intro H' w' m' g2
    have h2 := PostS.base g2 h
    cases b with
    | true => rw [if_pos rfl]; exact ⟨P, w', m', s1, g2.srn, h2⟩
    | false => rw [if_neg Bool.false_ne_true]; exact ⟨P, w', m', s1, g2.srn, h2⟩
  | err c ns l s' =>
    rw [q] at h
    exact h σ
  | bad =>
    rw [q] at h
    exact h
theorem ps_ifM {c : Expr} {a b : List Stmt} {t : Mab} {f g : Mas} {pos : Pos} (hc : PT X c (tMT k W t)) (ha : PSs X a (tMS k W f)) (hb : PSs X b (tMS k W g)) : PS X (.If c a b pos) (tMS k W (mIf t f g)) := ps_mono (ps_if hc ha hb) fun D σ H h => if_read h
end
end MM

/-! Targets and loops of the machine. -/
namespace MM
open PySem PySem.Spec PyProof.Rows L2 GB
abbrev Tgt := Val → MSt → Option MSt
/-- only what is named may come to be owned -/
def OwS (A : List Addr) (w w' : Ow) : Prop := ∀ b, w b = none → b ∉ A → w' b = none
/-- all but some slots as they were -/
def Upto (js : List Nat) (σ σ' : L2.St) : Prop := σ'.length = σ.length ∧ ∀ j, j ∉ js → σ'[j]? = σ[j]?
def tMG (k : Ks) (js : List Nat) (T : Tgt) : TG := fun v σ H Q => ∃ P w m s a A, SR k (plus A P) w m σ H s ∧ (∀ b ∈ A, ¬ P b) ∧ A.Nodup ∧ RepO k m (fz (plus A P) w H) H a.o A v a.d ∧ ∃ s', T a s = some s' ∧ ∀ σ' w', SR k P w' m σ' H s' → OwS A w w' → Upto js σ σ' → Q σ' H
def tMGs (k : Ks) (js : List Nat) (T : List Val → MSt → Option MSt) : TGs := fun vs σ H Q => ∃ P w m s as A, SR k (plus A P) w m σ H s ∧ (∀ b ∈ A, ¬ P b) ∧ A.Nodup ∧ RepOL k m (fz (plus A P) w H) H as A vs ∧ ∃ s', T as s = some s' ∧ ∀ σ' w', SR k P w' m σ' H s' → OwS A w w' → Upto js σ σ' → Q σ' H
def tgName (fr : Bool) (i : Nat) : Tgt := fun a s => bif decide (a.o = .bo) || decide (s.env.length ≤ i) then none else some (put s (.inl i) (some (stO fr a)))
def tgNil : List Val → MSt → Option MSt := fun as s => match as with
  | [] => some s
  | _ => none
def tgCons (T : Tgt) (Ts : List Val → MSt → Option MSt) : List Val → MSt → Option MSt := fun as s => match as with
  | a :: r => (T a s).bind (Ts r)
  | [] => none
/-- a part of a tuple at hand -/
def partV (a : Val) (d : D) : Val := ⟨bif decide (a.o = .al) || imm d then .al else a.o, d⟩
def tgTup (Ts : List Val → MSt → Option MSt) : Tgt := fun a s => match a.d with
  | .tup l => Ts (l.map (partV a)) s
  | _ => none
section
variable {k : Ks} {W : WX} {P : Addr → Prop} {w w1 w2 w0 : Ow} {m m1 m2 m0 : List Addr} {σ σ1 : L2.St} {H H1 H2 H0 : Hp} {A B : List Addr} {e e2 : Bool} {s s1 : MSt} {X : Cx} {D : Ends}
theorem pg_mono {tg : Expr} {t u : TG} (h : PG X tg t) (i : ∀ v σ H Q, u v σ H Q → t v σ H Q) : PG X tg u := ⟨fun pins s σ H v x Q I r q => h.run pins s σ H v x Q I r (i v σ H Q q)⟩
theorem pgs_mono {tg : List Expr} {t u : TGs} (h : PGs X tg t) (i : ∀ v σ H Q, u v σ H Q → t v σ H Q) : PGs X tg u := ⟨fun pins s σ H v x Q I r q => h.run pins s σ H v x Q I r (i v σ H Q q)⟩
/-- from now on as a base -/
theorem SR.stg (r : SR k (plus A P) w m σ H s) (off : ∀ b ∈ A, ¬ P b) (nd : A.Nodup) : ∃ w0, Stg k P σ w0 m H A w m H s true ∧ ∀ b, w b = none → b ∉ A → w0 b = none := by
  refine ⟨fun b => if b ∈ A then some (.inl 0) else w b, ⟨r, ⟨fun a u h n => ?_, Pre.refl⟩, nd, fun z => (nomatch z), off⟩, fun b n h => ?_⟩
  · by_cases q : a ∈ A
    · rw [if_pos q] at n
      cases n
    · rw [if_neg q] at n
      exact ⟨h, n, q⟩
  · show (if b ∈ A then _ else w b) = none
    rw [if_neg h]
    exact n
theorem Upto.set {i : Nat} {v : Option V} : Upto [i] σ (σ.set i v) := ⟨by rw [List.length_set], fun j h => by rw [List.getElem?_set_ne (fun z => h (by simp [z]))]⟩
theorem Upto.refl {js : List Nat} : Upto js σ σ := ⟨rfl, fun _ _ => rfl⟩
theorem Upto.trans {js js' : List Nat} {σ2 : L2.St} (h : Upto js σ σ1) (g : Upto js' σ1 σ2) : Upto (js ++ js') σ σ2 := ⟨g.1.trans h.1, fun j n => (g.2 j fun z => n (by simp [z])).trans (h.2 j fun z => n (by simp [z]))⟩
theorem name_read {fr : Bool} {i : Nat} {v : V} {Q : L2.St → Hp → Prop} (h : tMG k [i] (tgName fr i) v σ H Q) : gName i v σ H Q := by
  obtain ⟨P, w, m, s, a, A, r, off, nd, p, s', e, h⟩ := h
  unfold tgName at e
  cases c : (decide (a.o = .bo) || decide (s.env.length ≤ i)) with
  | true =>
    rw [c] at e
    cases e
  | false =>
    rw [c] at e
    cases e
    obtain ⟨c1, c2⟩ := Bool.or_eq_false_iff.mp c
    obtain ⟨w0, g, hw⟩ := r.stg off nd
    cases fr with
    | false =>
      have g2 := g.set (i := i) p (of_decide_eq_false c1) (by have := of_decide_eq_false c2; omega)
      exact h _ _ g2.srn (fun b n q => own_none q n) Upto.set
    | true =>
      have q : Rep k m (fz P w H) v a.d := p.rep g.fzl (g.give fun _ z => z) fun z => absurd z (of_decide_eq_false c1)
      have g2 := g.bare.set (i := i) (a := ⟨.sh, a.d⟩) (by rw [plus_nil]; exact .sh q) (by intro z; cases z) (by have := of_decide_eq_false c2; omega)
      exact h _ _ g2.srn (fun b n q => own_none (by simp) n) Upto.set
theorem pg_nameM (fr : Bool) {i : Nat} {x : Str} {pos : Pos} (hN : X.N.Nodup) (hi : X.N[i]? = some x) (hx : Loc X.env.scope x) (hf : X.fn x = true ∨ X.env.scope.names.lookup x = some .local := by first | exact .inl rfl | exact .inr rfl | assumption) : PG X (.Name x pos) (tMG k [i] (tgName fr i)) :=
  pg_mono (pg_name hN hi hx hf) fun v σ H Q h => name_read h
theorem pgs_nilM : PGs X [] (tMGs k [] tgNil) := pgs_mono pgs_nil fun vs σ H Q h => by
  obtain ⟨P, w, m, s, as, A, r, off, nd, p, s', e, h⟩ := h
  cases as with
  | nil =>
    cases p
    cases e
    exact ⟨rfl, h _ _ r.drop (fun b n _ => n) Upto.refl⟩
  | cons a as => cases e
theorem pgs_consM {e : Expr} {es : List Expr} {js js' : List Nat} {T : Tgt} {Ts : List Val → MSt → Option MSt} (h1 : PG X e (tMG k js T)) (h2 : PGs X es (tMGs k js' Ts)) (hs : (assignEach (e :: es) X.env).map (·.2) = assign e X.env :: (assignEach es X.env).map (·.2) := by rfl) : PGs X (e :: es) (tMGs k (js ++ js') (tgCons T Ts)) :=
  pgs_mono (pgs_cons h1 h2 hs) fun vs σ H Q h => by
    obtain ⟨P, w, m, s, as, A, r, off, nd, p, s', e, h⟩ := h
    cases p with
    | nil => cases e
    | @cons a as A1 A2 v vs p1 p2 =>
      refine ⟨v, vs, rfl, ?_⟩
      obtain ⟨s1, e1, e2⟩ := Option.bind_eq_some_iff.mp e
      obtain ⟨n1, n2, n3⟩ := List.nodup_append.mp nd
      have pl : plus A1 (plus A2 P) = plus (A1 ++ A2) P := by
        funext b
        apply propext
        constructor
        · rintro (z | z | z)
          · exact .inl (by simp [z])
          · exact .inl (by simp [z])
          · exact .inr z
        · rintro (z | z)
          · rcases List.mem_append.mp z with z | z
            · exact .inl z
            · exact .inr (.inl z)
          · exact .inr (.inr z)
      refine ⟨plus A2 P, w, m, s, a, A1, by rw [pl]; exact r, ?_, n1, by rw [pl]; exact p1, s1, e1, ?_⟩
      · rintro b hb (z | z)
        · exact n3 b hb b z rfl
        · exact off b (by simp [hb]) z
      · intro σ' w' r' ow up
        refine ⟨P, w', m, s1, as, A2, r', fun b hb => off b (by simp [hb]), n2, ?_, s', e2, ?_⟩
        · refine p2.move ?_ (fun _ _ z _ => z) Pre.refl (fun _ _ _ z => z)
          refine fz_step fun b u hu z1 z2 => ⟨hu, ?_, ow b z2 fun z => z1 (.inl (by simp [z]))⟩
          rintro (z | z)
          · exact z1 (.inl (by simp [z]))
          · exact z1 (.inr z)
        · intro σ2 w2 r2 ow2 up2
          exact h σ2 w2 r2 (fun b n q => ow2 b (ow b n fun z => q (by simp [z])) fun z => q (by simp [z])) (up.trans up2)
theorem parts_al : ∀ {A : List Addr} {vs : List V} {ds : List MM.D} {F : Hp} {a : Val}, RepAL k m H A vs ds → a.o = .al → RepOL k m F H (ds.map (partV a)) A vs
  | _, _, _, _, _, .nil, _ => .nil
  | _, _, _, F, a, .cons (d := d) h r, n => by
    refine .cons (a := partV a d) ?_ (parts_al r n)
    show RepO k m F H (bif decide (a.o = .al) || imm d then .al else a.o) _ _ d
    rw [n]
    exact .al h
theorem parts_sh : ∀ {vs : List V} {ds : List MM.D} {F : Hp} {a : Val}, RepL k m H vs ds → (a.o = .sh → RepL k m F vs ds) → (a.o = .sh ∨ a.o = .bo) → RepOL k m F H (ds.map (partV a)) [] vs
  | _, _, _, _, .nil, _, _ => .nil
  | _, _, F, a, .cons (d := d) h r, f, n => by
    refine .cons (a := partV a d) (A := []) ?_ (parts_sh r (fun z => by cases f z with | cons _ y => exact y) n)
    show RepO k m F H (bif decide (a.o = .al) || imm d then .al else a.o) _ _ d
    have na : decide (a.o = .al) = false := by
      apply decide_eq_false
      intro z
      rcases n with n | n <;> rw [n] at z <;> cases z
    rw [na, Bool.false_or]
    cases i : imm d with
    | true => exact .al (.imm h i)
    | false =>
      rcases n with n | n
      · rw [n]
        cases f n with
        | cons y _ => exact .sh y
      · rw [n]
        exact .bo h
theorem pg_tupM {es : List Expr} {kk : Nat} {pos : Pos} {js : List Nat} {Ts : List Val → MSt → Option MSt} {n : Nat} (hc : X.calm = true) (h : PGs X es (tMGs k js Ts)) (len : ∀ as s s', Ts as s = some s' → as.length = n) (hK : X.K = k.K := by rfl) (hn : (assignEach es X.env).length = n := by rfl) (hst : (assignEach es X.env).findIdx? (·.1) = none := by rfl) :
    PG X (.Tuple es kk pos) (tMG k js (tgTup Ts)) := pg_mono (pg_tup hc h hn hst) fun v σ H Q h => by
  obtain ⟨P, w, m, s, a, A, r, off, nd, p, s', e, h⟩ := h
  unfold tgTup at e
  cases q : a.d with
  | tup l =>
    rw [q] at e p
    dsimp only at e
    have ln := len _ _ _ e
    rw [List.length_map] at ln
    rw [hK]
    have fin : ∀ (c : Addr) (xs : List V), v = .ref c → SqT k.K H c xs → xs.length = l.length → RepOL k m (fz (plus A P) w H) H (l.map (partV a)) A xs → gTup k.K n (tMGs k js Ts) v σ H Q := by
      intro c xs e1 e2 e3 e4
      exact ⟨c, xs, e1, e2, by rw [e3, ln], P, w, m, s, _, A, r, off, nd, e4, s', e, h⟩
    generalize eo : a.o = o at p
    cases p with
    | sh p =>
      cases p with
      | tup h3 h4 => exact fin _ _ rfl (Same.sqt fz_same h3) h4.len (parts_sh (h4.mono fz_same Pre.refl) (fun _ => h4) (.inl eo))
    | bo p =>
      cases p with
      | tup h3 h4 => exact fin _ _ rfl h3 h4.len (parts_sh h4 (fun z => by rw [eo] at z; cases z) (.inr eo))
    | al p =>
      cases p with
      | imm p i =>
        cases p with
        | tup h3 h4 => exact fin _ _ rfl h3 h4.len (parts_al (h4.al i) eo)
      | tup h3 h4 => exact fin _ _ rfl (.inl (.inl h3)) h4.len (parts_al h4 eo)
  | _ =>
    rw [q] at e
    cases e
/-! ### what a loop walks -/
/-- J gives the items l, while Hc holds of what all may read -/
structure Src (k : Ks) (m0 : List Addr) (J : It) (l : List MM.D) (Hc : Hp → Prop) : Prop where
  mono : ∀ F F', Hc F → Same F F' → Hc F'
  go : ∀ (i : Nat) (F H : Hp), Hc F → Same F H → i < l.length → J.go i H
  stop : ∀ (i : Nat) (F H : Hp), Hc F → Same F H → l.length ≤ i → J.stop i H
  yld : ∀ (i : Nat) (F H : Hp) (x : V) (H' : Hp) (d : MM.D), Hc F → Same F H → l[i]? = some d → J.yld i H x H' → Same H H' ∧ ∀ (m : List Addr) (F2 : Hp), Pre m0 m → Same F F2 → (∀ b u, H' b = some u → H b = none → F2 b = some u) → Rep k m F2 x d
/-- an item at hand -/
def itV (d : MM.D) : Val := ⟨bif imm d then .al else .sh, d⟩
theorem itV_rep {F : Hp} {x : V} {d : MM.D} (h : Rep k m F x d) (f : Same F H) : RepO k m F H (itV d).o [] x (itV d).d := by
  unfold itV
  cases i : imm d with
  | true => exact .al (.imm (h.mono f Pre.refl) i)
  | false => exact .sh h
def forS (T : Tgt) (wip : List Nat) (body : Mas) : List MM.D → MSt → Res Fl
  | [], s => .ok .nx s true
  | d :: r, s => match T (itV d) s with
    | none => .bad
    | some s1 => match body s1 with
      | .ok .nx s2 _ => forS T wip body r (wipes wip s2)
      | .ok .ct s2 _ => forS T wip body r (wipes wip s2)
      | .ok .bk s2 _ => .ok .nx s2 true
      | .ok (.rt a) s2 _ => .ok (.rt a) s2 true
      | .err c ns l s2 => .err c ns l s2
      | .bad => .bad
/-- a turn's new tuple is no store's: what is new may be read by all -/
theorem new_free (r : SR k P w m σ H s) {H' : Hp} (sm : Same H H') : ∀ b u, H' b = some u → H b = none → fz P w H' b = some u := fun b u h n => by
  rw [fz_at, h]
  · intro z
    obtain ⟨u', h', _⟩ := r.wr b (.inl z)
    rw [n] at h'
    cases h'
  · cases q : w b with
    | none => rfl
    | some x =>
      obtain ⟨u', h', _⟩ := r.wr b (.inr (by rw [q]; simp))
      rw [n] at h'
      cases h'
theorem for_read {J : It} {l : List MM.D} {Hc : Hp → Prop} {js : List Nat} {T : Tgt} {wip : List Nat} {body : Mas} (src : Src k m0 J l Hc) (pm : Pre m0 m) (r : SR k P w m σ H s) (hc : Hc (fz P w H)) (h : PostS k W P w m H D (forS T wip body l s)) :
    ∃ W' : Nat → Nat → L2.St → Hp → Prop, (∃ n, W' 0 n σ H) ∧ ∀ i n σ H, W' i n σ H →
      (J.stop i H ∧ D.nx σ H) ∨ (J.go i H ∧ ∃ N : L2.St → Hp → Prop, (∀ σ' H', N σ' H' → ∃ n', n' < n ∧ W' (i + 1) n' σ' H') ∧ ∀ x H', J.yld i H x H' → tMG k js T x σ H' fun σ2 H2 => tMS k W body { D with nx := N, ct := N, bk := D.nx } σ2 H2) := by
  refine ⟨fun i n σ H => ∃ P w m s, SR k P w m σ H s ∧ Hc (fz P w H) ∧ Pre m0 m ∧ i ≤ l.length ∧ n = l.length - i ∧ PostS k W P w m H D (forS T wip body (l.drop i) s), ⟨_, P, w, m, s, r, hc, pm, Nat.zero_le _, rfl, h⟩, ?_⟩
  clear r hc pm h
  rintro i n σ H ⟨P, w, m, s, r, hc, pm, hi, rfl, h⟩
  by_cases hlt : i < l.length
  · refine .inr ⟨src.go i _ H hc fz_same hlt, ?_⟩
    have ei : l[i]? = some l[i] := List.getElem?_eq_getElem hlt
    rw [List.drop_eq_getElem_cons hlt] at h
    refine ⟨fun σ H => ∃ P w m s, SR k P w m σ H s ∧ Hc (fz P w H) ∧ Pre m0 m ∧ PostS k W P w m H D (forS T wip body (l.drop (i + 1)) s), fun σ' H' ⟨P', w', m', s', z1, z2, z3, z4⟩ => ⟨l.length - (i + 1), by omega, P', w', m', s', z1, z2, z3, hlt, rfl, z4⟩, fun x H' y => ?_⟩
    obtain ⟨sm, rep⟩ := src.yld i _ H x H' _ hc fz_same ei y
    have g := (Stg.refl r).same sm
    have f1 : Same (fz P w H) (fz P w H') := by
      have z := g.fz
      rw [plus_nil] at z
      exact z
    have rx := rep m (fz P w H') pm f1 (new_free r sm)
    unfold forS at h
    cases q : T (itV l[i]) s with
    | none =>
      rw [q] at h
      exact h.elim
    | some s1 =>
      rw [q] at h
      dsimp only at h
      refine ⟨P, w, m, s, itV l[i], [], g.sr, by simp, List.nodup_nil, by rw [plus_nil]; exact itV_rep rx fz_same, s1, q, ?_⟩
      intro σ2 w2 r2 ow _
      have g2 : Stg k P σ2 w m H [] w2 m H' s1 true := ⟨by rw [plus_nil]; exact r2, ⟨fun b u hu n => ⟨sm b u hu, ow b n (by simp), by simp⟩, Pre.refl⟩, List.nodup_nil, fun z => (nomatch z), by simp⟩
      have h := PostS.base g2 h
      refine ⟨P, w2, m, s1, r2, ?_⟩
      have hc2 : Hc (fz P w2 H') := by
        have z := g2.fz
        rw [plus_nil] at z
        exact src.mono _ _ hc z
      have again : ∀ {σ3 : L2.St} {H3 : Hp} {w3 : Ow} {m3 : List Addr} {s2 : MSt}, PostS k W P w2 m H' D (forS T wip body (l.drop (i + 1)) (wipes wip s2)) → Stg k P σ3 w2 m H' [] w3 m3 H3 s2 true →
          ∃ P w m s, SR k P w m σ3 H3 s ∧ Hc (fz P w H3) ∧ Pre m0 m ∧ PostS k W P w m H3 D (forS T wip body (l.drop (i + 1)) s) := by
        intro σ3 H3 w3 m3 s2 h3 g3
        obtain ⟨w4, g4⟩ := Stg.wipes wip g3
        refine ⟨P, w4, m3, _, g4.srn, ?_, pm.trans g3.st.pre, h3.base g4⟩
        have z := g4.fz
        rw [plus_nil] at z
        exact src.mono _ _ hc2 z
      cases q2 : body s1 with
      | ok fl s2 e2 =>
        rw [q2] at h
        cases fl with
        | nx => exact fun σ3 H3 w3 m3 g3 => again h g3
        | ct => exact fun σ3 H3 w3 m3 g3 => again h g3
        | bk => exact h
        | rt a => exact h
      | err c ns l s2 =>
        rw [q2] at h
        exact h
      | bad =>
        rw [q2] at h
        exact h
  · have e : i = l.length := by omega
    subst e
    rw [List.drop_length] at h
    exact .inl ⟨src.stop _ _ H hc fz_same (Nat.le_refl _), h σ H w m ((Stg.refl r).ef fun z => nomatch z)⟩
/-! ### while -/
def whileN (t : Mab) (wip : List Nat) (body : Mas) : Nat → MSt → Res Fl
  | 0, _ => .bad
  | n + 1, s => match t s with
    | .ok true s1 _ => match body s1 with
      | .ok .nx s2 _ => whileN t wip body n (wipes wip s2)
      | .ok .ct s2 _ => whileN t wip body n (wipes wip s2)
      | .ok .bk s2 _ => .ok .nx s2 true
      | .ok (.rt a) s2 _ => .ok (.rt a) s2 true
      | .err c ns l s2 => .err c ns l s2
      | .bad => .bad
    | .ok false s1 _ => .ok .nx s1 true
    | .err c ns l s2 => .err c ns l s2
    | .bad => .bad
open Classical in
noncomputable def mWhile (t : Mab) (wip : List Nat) (body : Mas) : Mas := fun s => if h : ∃ n, whileN t wip body n s ≠ .bad then whileN t wip body (Classical.choose h) s else .bad
theorem whileN_more {t : Mab} {wip : List Nat} {body : Mas} : ∀ (n : Nat) (s : MSt), whileN t wip body n s ≠ .bad → whileN t wip body (n + 1) s = whileN t wip body n s
  | 0, s, h => absurd rfl h
  | n + 1, s, h => by
    rw [whileN]
    conv => rhs; rw [whileN]
    rw [whileN] at h
    cases q : t s with
    | ok b s1 e =>
      rw [q] at h
      cases b with
      | true =>
        dsimp only at h ⊢
        cases q2 : body s1 with
        | ok fl s2 e2 =>
          rw [q2] at h
          cases fl with
          | nx => exact whileN_more n _ h
          | ct => exact whileN_more n _ h
          | bk => rfl
          | rt a => rfl
        | err c ns l s2 => rfl
        | bad => rfl
      | false => rfl
    | err c ns l s2 => rfl
    | bad => rfl
theorem whileN_le {t : Mab} {wip : List Nat} {body : Mas} {n : Nat} {s : MSt} (h : whileN t wip body n s ≠ .bad) : ∀ j, whileN t wip body (n + j) s = whileN t wip body n s
  | 0 => rfl
  | j + 1 => by
    have z := whileN_le h j
    rw [← Nat.add_assoc, whileN_more (n + j) s (by rw [z]; exact h), z]
theorem mWhile_eq {t : Mab} {wip : List Nat} {body : Mas} {n : Nat} {s : MSt} {x : Res Fl} (h : whileN t wip body n s = x) (nb : x ≠ .bad) : mWhile t wip body s = x := by
  have ex : ∃ n, whileN t wip body n s ≠ .bad := ⟨n, by rw [h]; exact nb⟩
  unfold mWhile
  rw [dif_pos ex]
  have c := Classical.choose_spec ex
  have h2 : whileN t wip body n s ≠ .bad := by rw [h]; exact nb
  have e1 := whileN_le c n
  have e2 := whileN_le h2 (Classical.choose ex)
  rw [Nat.add_comm] at e2
  rw [← e1, e2, h]
theorem while_read {t : Mab} {wip : List Nat} {body : Mas} (h : tMS k W (mWhile t wip body) D σ H) : tWhile (tMT k W t) (tMS k W body) D σ H := by
  obtain ⟨P, w, m, s, r, h⟩ := h
  have h1 : ∃ n, PostS k W P w m H D (whileN t wip body n s) := by
    unfold mWhile at h
    split at h
    · exact ⟨_, h⟩
    · exact h.elim
  refine ⟨fun n σ H => ∃ P w m s, SR k P w m σ H s ∧ PostS k W P w m H D (whileN t wip body n s), h1.imp fun n z => ⟨P, w, m, s, r, z⟩, ?_⟩
  clear r h h1
  rintro n σ H ⟨P, w, m, s, r, h⟩
  cases n with
  | zero => exact h.elim
  | succ n =>
    rw [whileN] at h
    refine ⟨P, w, m, s, r, ?_⟩
    cases q : t s with
    | ok b s1 e =>
      rw [q] at h
      cases b with
      | false =>
        intro H1 w1 m1 g1
        rw [if_neg Bool.false_ne_true]
        exact h σ H1 w1 m1 (g1.ef fun z => nomatch z)
      | true =>
        dsimp only at h
        intro H1 w1 m1 g1
        rw [if_pos rfl]
        have h := PostS.base g1 h
        refine ⟨fun σ H => ∃ P w m s, SR k P w m σ H s ∧ PostS k W P w m H D (whileN t wip body n s), fun σ' H' z => ⟨n, Nat.lt_succ_self n, z⟩, P, w1, m1, s1, g1.srn, ?_⟩
        have again : ∀ {σ3 : L2.St} {H3 : Hp} {w3 : Ow} {m3 : List Addr} {s2 : MSt}, PostS k W P w1 m1 H1 D (whileN t wip body n (wipes wip s2)) → Stg k P σ3 w1 m1 H1 [] w3 m3 H3 s2 true →
            ∃ P w m s, SR k P w m σ3 H3 s ∧ PostS k W P w m H3 D (whileN t wip body n s) := by
          intro σ3 H3 w3 m3 s2 h3 g3
          obtain ⟨w4, g4⟩ := Stg.wipes wip g3
          exact ⟨P, w4, m3, _, g4.srn, h3.base g4⟩
        cases q2 : body s1 with
        | ok fl s2 e2 =>
          rw [q2] at h
          cases fl with
          | nx => exact fun σ3 H3 w3 m3 g3 => again h g3
          | ct => exact fun σ3 H3 w3 m3 g3 => again h g3
          | bk => exact h
          | rt a => exact h
        | err c ns l s2 =>
          rw [q2] at h
          exact h
        | bad =>
          rw [q2] at h
          exact h
    | err c ns l s2 =>
      rw [q] at h
      exact h σ
    | bad =>
      rw [q] at h
      exact h
theorem ps_whileM {c : Expr} {b : List Stmt} {t : Mab} {body : Mas} {pos : Pos} (wip : List Nat) (hp : PassesOwn (model X.prog X.w) X.A X.env X.xe) (hc : PT X c (tMT k W t)) (hb : PSs X b (tMS k W body)) : PS X (.While c b [] pos) (tMS k W (mWhile t wip body)) :=
  ps_mono (ps_while hp hc hb) fun D σ H h => while_read h
end
end MM

/-! What loops walk; comprehensions. -/
namespace MM
open PySem PySem.Spec PyProof.Rows L2 GB
abbrev Itm := MSt → Res (List MM.D)
def PostI (k : Ks) (W : WX) (P : Addr → Prop) (w : Ow) (m : List Addr) (σ : L2.St) (H : Hp) (R : It → Hp → Prop) : Res (List MM.D) → Prop
  | .ok l s' e => ∀ J H' w' m' Hc, Stg k P σ w m H [] w' m' H' s' e → Src k m' J l Hc → Hc (fz P w' H') → R J H'
  | .err c ns l s' => PErr k W P w m σ H c ns l s'
  | .bad => False
def tMI (k : Ks) (W : WX) (f : Itm) : TI := fun σ H R => ∃ P w m s, SR k P w m σ H s ∧ PostI k W P w m σ H R (f s)
def mFor (f : Itm) (T : Tgt) (wip : List Nat) (body : Mas) : Mas := fun s => match f s with
  | .ok l s1 _ => forS T wip body l (wipes wip s1)
  | .err c ns l s' => .err c ns l s'
  | .bad => .bad
def rowOf (a : Val) : Option (List MM.D) := bif decide (a.o = .bo) then none else a.d.seq?
/-- what is walked: it must not change; a cell may be walked while all may read it -/
def rowD (s : MSt) (a : Val) : Option MM.D := match a.d with
  | .ref n => match s.cells[n]? with
    | some (some ⟨.sh, d⟩) => some d
    | _ => none
  | d => bif decide (a.o = .bo) then none else some d
def itRow (f : Mac) : Itm := fun s => match f s with
  | .ok a s1 e => match (rowD s1 a).bind D.seq? with
    | some l => .ok l s1 e
    | none => .bad
  | .err c ns l s' => .err c ns l s'
  | .bad => .bad
def rngD (lo : Int) (n : Nat) : List MM.D := (List.range n).map fun i => MM.D.int (lo + (i : Nat))
open Classical in
noncomputable def fits (i : Int) : Bool := decide (-(2 ^ 62) ≤ i ∧ i < 2 ^ 62)
theorem fits_iff {i : Int} (h : fits i = true) : -(2 ^ 62) ≤ i ∧ i < 2 ^ 62 := by
  unfold fits at h
  exact of_decide_eq_true h
noncomputable def itRng1 (f : Macs) : Itm := fun s => match f s with
  | .ok [a] s1 e => match a.d.int? with
    | some j => bif fits j then .ok (rngD 0 j.toNat) s1 e else .bad
    | none => .bad
  | .err c ns l s' => .err c ns l s'
  | _ => .bad
noncomputable def itRng2 (f : Macs) : Itm := fun s => match f s with
  | .ok [a, b] s1 e => match a.d.int?, b.d.int? with
    | some i, some j => bif fits i && fits j then .ok (rngD i (j - i).toNat) s1 e else .bad
    | _, _ => .bad
  | .err c ns l s' => .err c ns l s'
  | _ => .bad
def enumD (l : List MM.D) : List MM.D := (List.range l.length).map fun i => MM.D.tup [.int (i : Nat), l.getD i .non]
def itEnum (f : Mac) : Itm := fun s => match f s with
  | .ok a s1 e => match rowOf a, a.d.lst? with
    | some l, some _ => .ok (enumD l) s1 e
    | _, _ => .bad
  | .err c ns l s' => .err c ns l s'
  | .bad => .bad
def zipD (l r : List MM.D) : List MM.D := (l.zip r).map fun p => MM.D.tup [p.1, p.2]
def itZip (f : Macs) : Itm := fun s => match f s with
  | .ok [a, b] s1 e => match rowOf a, rowOf b with
    | some l, some r => .ok (zipD l r) s1 e
    | _, _ => .bad
  | .err c ns l s' => .err c ns l s'
  | _ => .bad
def signs (z : Str) : List MM.D := z.cps.toList.map fun c => MM.D.str ⟨#[c]⟩
def itStr (f : Mac) : Itm := fun s => match f s with
  | .ok a s1 e => match a.d.str? with
    | some z => .ok (signs z) s1 e
    | none => .bad
  | .err c ns l s' => .err c ns l s'
  | .bad => .bad
section
variable {k : Ks} {W : WX} {P : Addr → Prop} {w w1 w2 w0 : Ow} {m m1 m2 m0 : List Addr} {σ σ1 : L2.St} {H H1 H2 H0 : Hp} {A B : List Addr} {e e2 : Bool} {s s1 : MSt} {X : Cx} {D : Ends}
theorem pi_mono {tg it : Expr} {t u : TI} (h : PI X tg it t) (i : ∀ σ H R, u σ H R → t σ H R) : PI X tg it u := ⟨fun pins s σ H R I q => h.run pins s σ H R I (i σ H R q)⟩
theorem mfor_read {f : Itm} {js : List Nat} {T : Tgt} {wip : List Nat} {body : Mas} (h : tMS k W (mFor f T wip body) D σ H) : tFor (tMI k W f) (tMG k js T) (tMS k W body) D σ H := by
  obtain ⟨P, w, m, s, r, h⟩ := h
  refine ⟨P, w, m, s, r, ?_⟩
  unfold mFor at h
  cases q : f s with
  | ok l s1 e1 =>
    rw [q] at h
    intro J H' w' m' Hc g src hc
    obtain ⟨w2, g2⟩ := Stg.wipes wip (Stg.refl g.srn)
    refine for_read (P := P) (w := w2) (m := m') src Pre.refl g2.srn ?_ (PostS.base g2 (PostS.base g h))
    have z := g2.fz
    rw [plus_nil] at z
    exact src.mono _ _ hc z
  | err c ns l s' =>
    rw [q] at h
    exact h σ
  | bad =>
    rw [q] at h
    exact h
theorem ps_forM {tg iter : Expr} {b : List Stmt} {f : Itm} {js : List Nat} {T : Tgt} {body : Mas} {pos : Pos} (wip : List Nat) (hp : PassesOwn (model X.prog X.w) X.A X.env X.xe) (hc : X.calm = true) (hi : PI X tg iter (tMI k W f)) (hg : PG X tg (tMG k js T)) (hb : PSs X b (tMS k W body))
    (hs : ∀ x, foldedSetIterable iter X.env x = pure x := by intro _; rfl) : PS X (.For tg iter b [] pos) (tMS k W (mFor f T wip body)) := ps_mono (ps_for hp hc hi hg hb hs) fun D σ H h => mfor_read h
/-! ### rows -/
theorem src_list {a : Addr} {xs : List V} {l : List MM.D} : Src k m (Itl k.K a) l (fun F => SqL k.K F a xs ∧ RepL k m F xs l) where
  mono := fun F F' ⟨h1, h2⟩ sm => ⟨Same.sql sm h1, h2.mono sm Pre.refl⟩
  go := fun i F H ⟨h1, h2⟩ sm hi => ⟨xs, xs[i]'(by rw [h2.len]; exact hi), Same.sql sm h1, by rw [List.getElem?_eq_getElem]⟩
  stop := fun i F H ⟨h1, h2⟩ sm hi => ⟨xs, Same.sql sm h1, by rw [h2.len]; exact hi⟩
  yld := fun i F H x H' d ⟨h1, h2⟩ sm hd ⟨e, hx⟩ => by
    subst e
    obtain ⟨v, hv, rv⟩ := h2.get hd
    have ex := hx xs (Same.sql sm h1)
    rw [hv] at ex
    cases ex
    exact ⟨fun _ _ z => z, fun m' F2 pm s2 _ => rv.mono s2 pm⟩
theorem src_tup {a : Addr} {xs : List V} {l : List MM.D} : Src k m (Itt k.K a) l (fun F => SqT k.K F a xs ∧ RepL k m F xs l) where
  mono := fun F F' ⟨h1, h2⟩ sm => ⟨Same.sqt sm h1, h2.mono sm Pre.refl⟩
  go := fun i F H ⟨h1, h2⟩ sm hi => ⟨xs, xs[i]'(by rw [h2.len]; exact hi), Same.sqt sm h1, by rw [List.getElem?_eq_getElem]⟩
  stop := fun i F H ⟨h1, h2⟩ sm hi => ⟨xs, Same.sqt sm h1, by rw [h2.len]; exact hi⟩
  yld := fun i F H x H' d ⟨h1, h2⟩ sm hd ⟨e, hx⟩ => by
    subst e
    obtain ⟨v, hv, rv⟩ := h2.get hd
    have ex := hx xs (Same.sqt sm h1)
    rw [hv] at ex
    cases ex
    exact ⟨fun _ _ z => z, fun m' F2 pm s2 _ => rv.mono s2 pm⟩
/-- a row at hand, given up -/
theorem row_free {a : Val} {x : V} {l : List MM.D} (g : Stg k P σ w0 m0 H0 A w m H s e) (p : RepO k m (fz (plus A P) w H) H a.o A x a.d) (h : rowOf a = some l) : ∃ c xs, x = .ref c ∧ (SqL k.K (fz P w H) c xs ∧ a.d.lst? = some l ∨ SqT k.K (fz P w H) c xs ∧ a.d.tup? = some l) ∧ RepL k m (fz P w H) xs l := by
  unfold rowOf at h
  by_cases c : a.o = .bo
  · rw [decide_eq_true c] at h
    cases h
  · rw [decide_eq_false c] at h
    have h : a.d.seq? = some l := h
    have r := p.rep g.fzl (g.give fun _ z => z) fun z => absurd z c
    cases q : a.d with
    | lst l2 =>
      rw [q] at h r
      cases h
      cases r with
      | lst h1 h2 => exact ⟨_, _, rfl, .inl ⟨.inl (.inl h1), rfl⟩, h2⟩
    | fls l2 =>
      rw [q] at h r
      cases h
      cases r with
      | fls h1 h2 => exact ⟨_, _, rfl, .inl ⟨h1.sq, rfl⟩, h2⟩
    | tup l2 =>
      rw [q] at h r
      cases h
      cases r with
      | tup h1 h2 => exact ⟨_, _, rfl, .inr ⟨h1, rfl⟩, h2⟩
    | _ =>
      rw [q] at h
      cases h
theorem rowD_free {a : Val} {x : V} {d : MM.D} (g : Stg k P σ w0 m0 H0 A w m H s e) (p : RepO k m (fz (plus A P) w H) H a.o A x a.d) (h : rowD s a = some d) : Rep k m (fz P w H) x d := by
  unfold rowD at h
  have other : (bif decide (a.o = .bo) then none else some a.d) = some d → Rep k m (fz P w H) x d := fun h => by
    by_cases c : a.o = .bo
    · rw [decide_eq_true c] at h
      cases h
    · rw [decide_eq_false c] at h
      cases h
      exact p.rep g.fzl (g.give fun _ z => z) fun z => absurd z c
  cases q : a.d with
  | ref n =>
    rw [q] at h p
    dsimp only at h
    cases q2 : s.cells[n]? with
    | none => rw [q2] at h; cases h
    | some y =>
      cases y with
      | none => rw [q2] at h; cases h
      | some b =>
        obtain ⟨o, d2⟩ := b
        rw [q2] at h
        cases o <;> first | (cases h; done) | skip
        cases h
        obtain ⟨c, C, h1, h2, _⟩ := g.sr.cel n _ _ q2
        have see := p.see fz_same
        cases see with
        | ref z =>
          rw [h1] at z
          cases z
          cases h2 with
          | sh h2 => exact h2.mono g.fzl Pre.refl
  | _ =>
    rw [q] at other
    rw [q] at h
    exact other h
theorem rep_row {F : Hp} {x : V} {d : MM.D} {l : List MM.D} (r : Rep k m F x d) (h : d.seq? = some l) : ∃ c xs, x = .ref c ∧ (SqL k.K F c xs ∧ d.lst? = some l ∨ SqT k.K F c xs ∧ d.tup? = some l) ∧ RepL k m F xs l := by
  cases r with
  | lst h1 h2 => cases h; exact ⟨_, _, rfl, .inl ⟨.inl (.inl h1), rfl⟩, h2⟩
  | fls h1 h2 => cases h; exact ⟨_, _, rfl, .inl ⟨h1.sq, rfl⟩, h2⟩
  | tup h1 h2 => cases h; exact ⟨_, _, rfl, .inr ⟨h1, rfl⟩, h2⟩
  | _ => cases h
theorem plus_fz : fz (plus [] P) w H = fz P w H := by rw [plus_nil]
theorem row_read {f : Mac} {R : It → Hp → Prop} (h : tMI k W (itRow f) σ H R) : iSeq k.K (tM k W f) σ H R := by
  obtain ⟨P, w, m, s, r, h⟩ := h
  unfold itRow at h
  cases q : f s with
  | ok a s1 e1 =>
    rw [q] at h
    dsimp only at h
    cases q0 : rowD s1 a with
    | none =>
      rw [q0] at h
      exact h.elim
    | some d =>
    rw [q0] at h
    cases q2 : d.seq? with
    | none =>
      have h : PostI k W P w m σ H R (match d.seq? with | some l => Res.ok l s1 e1 | none => .bad) := h
      rw [q2] at h
      exact h.elim
    | some l =>
      have h : PostI k W P w m σ H R (match d.seq? with | some l => Res.ok l s1 e1 | none => .bad) := h
      rw [q2] at h
      dsimp only at h
      have sd : d.lst? = some l ∨ d.tup? = some l := by
        cases d <;> first | (cases q2; exact .inl rfl) | (cases q2; exact .inr rfl) | cases q2
      rcases sd with sd | sd
      · refine .mk (.inl ⟨P, w, m, s, r, ?_⟩)
        rw [q]
        intro v H' A w' m' g p
        obtain ⟨c, xs, rfl, hs, hr⟩ := rep_row (rowD_free g p q0) q2
        rcases hs with ⟨hs, _⟩ | ⟨_, sd2⟩
        · exact ⟨c, rfl, ⟨xs, Same.sql fz_same hs⟩, h _ H' w' m' _ g.bare (src_list (xs := xs) (l := l)) ⟨hs, hr⟩⟩
        · exfalso
          cases d <;> first | (cases sd; done) | (cases sd2; done)
      · refine .mk (.inr ⟨P, w, m, s, r, ?_⟩)
        rw [q]
        intro v H' A w' m' g p
        obtain ⟨c, xs, rfl, hs, hr⟩ := rep_row (rowD_free g p q0) q2
        rcases hs with ⟨_, sd2⟩ | ⟨hs, _⟩
        · exfalso
          cases d <;> first | (cases sd; done) | (cases sd2; done)
        · exact ⟨c, rfl, ⟨xs, Same.sqt fz_same hs⟩, h _ H' w' m' _ g.bare (src_tup (xs := xs) (l := l)) ⟨hs, hr⟩⟩
  | err c ns l s' =>
    rw [q] at h
    exact .mk (.inl ⟨P, w, m, s, r, by rw [q]; exact h⟩)
  | bad =>
    rw [q] at h
    exact h.elim
theorem pi_rowM {tg l : Expr} {f : Mac} (hp : PE X l (tM k W f)) (hK : X.K = k.K := by rfl) : PI X tg l (tMI k W (itRow f)) := pi_mono (piQ (X := X) k.K hp hK) fun σ H R h => row_read h
/-! ### ranges -/
theorem src_rng {lo : Int} {n : Nat} : Src k m (Itr lo n) (rngD lo n) (fun _ => True) where
  mono := fun _ _ h _ => h
  go := fun i F H _ _ hi => by
    unfold rngD at hi
    rw [List.length_map, List.length_range] at hi
    exact hi
  stop := fun i F H _ _ hi => by
    unfold rngD at hi
    rw [List.length_map, List.length_range] at hi
    exact hi
  yld := fun i F H x H' d _ sm hd ⟨e1, e2⟩ => by
    subst e1 e2
    refine ⟨fun _ _ z => z, fun m' F2 _ _ _ => ?_⟩
    unfold rngD at hd
    rw [List.getElem?_map] at hd
    obtain ⟨j, h1, h2⟩ := Option.map_eq_some_iff.mp hd
    obtain ⟨lt, h3⟩ := List.getElem?_eq_some_iff.mp h1
    rw [List.getElem_range] at h3
    subst h3
    rw [← h2]
    exact .int _
theorem tMA_at {f : Macs} {P : Addr → Prop} {Q : List V → Hp → Prop} (r : SR k P w m σ H s) (h : PostA k W P w m σ H Q (f s)) : tMA k W f σ H Q := ⟨P, w, m, s, r, h⟩
theorem rng1_read {f : Macs} {R : It → Hp → Prop} (h : tMI k W (itRng1 f) σ H R) : iRng1 (tMA k W f) σ H R := by
  obtain ⟨P, w, m, s, r, h⟩ := h
  refine ⟨P, w, m, s, r, ?_⟩
  unfold itRng1 at h
  cases q : f s with
  | ok as s1 e1 =>
    rw [q] at h
    rcases as with _ | ⟨a, _ | ⟨b, as⟩⟩
    · exact h.elim
    · dsimp only at h
      intro vs H' A w' m' g p
      cases q1 : a.d.int? with
      | none =>
        rw [q1] at h
        exact h.elim
      | some j =>
        rw [q1] at h
        dsimp only at h
        cases q2 : fits j with
        | false =>
          rw [q2] at h
          exact h.elim
        | true =>
          rw [q2] at h
          obtain ⟨b1, b2⟩ := fits_iff q2
          obtain ⟨x, rfl⟩ : ∃ x, vs = [x] := by
            have z := p.len
            match vs, z with
            | [x], _ => exact ⟨x, rfl⟩
          obtain ⟨a', ea, p1⟩ := p.one_inv
          cases ea
          rw [int?_eq q1] at p1
          exact ⟨j, by rw [rep_of_int p1], b1, b2, h _ H' w' m' _ g.bare src_rng trivial⟩
    · exact h.elim
  | err c ns l s' =>
    rw [q] at h
    exact h
  | bad =>
    rw [q] at h
    exact h
theorem rng2_read {f : Macs} {R : It → Hp → Prop} (h : tMI k W (itRng2 f) σ H R) : iRng2 (tMA k W f) σ H R := by
  obtain ⟨P, w, m, s, r, h⟩ := h
  refine ⟨P, w, m, s, r, ?_⟩
  unfold itRng2 at h
  cases q : f s with
  | ok as s1 e1 =>
    rw [q] at h
    rcases as with _ | ⟨a, _ | ⟨b, _ | ⟨c, as⟩⟩⟩
    · exact h.elim
    · exact h.elim
    · dsimp only at h
      intro vs H' A w' m' g p
      cases q1 : a.d.int? with
      | none =>
        rw [q1] at h
        exact h.elim
      | some i =>
        cases q2 : b.d.int? with
        | none =>
          rw [q1, q2] at h
          exact h.elim
        | some j =>
          rw [q1, q2] at h
          dsimp only at h
          cases q3 : (fits i && fits j) with
          | false =>
            rw [q3] at h
            exact h.elim
          | true =>
            rw [q3] at h
            obtain ⟨b1, b2⟩ := Bool.and_eq_true_iff.mp q3
            obtain ⟨b3, b4⟩ := fits_iff b1
            obtain ⟨b5, b6⟩ := fits_iff b2
            obtain ⟨x, y, rfl⟩ : ∃ x y, vs = [x, y] := by
              have z := p.len
              match vs, z with
              | [x, y], _ => exact ⟨x, y, rfl⟩
            obtain ⟨a', b', A1, A2, ea, rfl, p1, p2⟩ := p.two_inv
            cases ea
            rw [int?_eq q1] at p1
            rw [int?_eq q2] at p2
            exact ⟨i, j, by rw [rep_of_int p1, rep_of_int p2], ⟨b3, b4, b5, b6⟩, h _ H' w' m' _ g.bare src_rng trivial⟩
    · exact h.elim
  | err c ns l s' =>
    rw [q] at h
    exact h
  | bad =>
    rw [q] at h
    exact h
theorem pi_rng1M {tg a : Expr} {f : Macs} {p pos : Pos} (hg : Gl X "range") (hm : X.mg "range" = none) (ha : PA X [a] (tMA k W f)) (hs : starEach [a] X.env = [(false, eval a X.env)] := by rfl) : PI X tg (.Call (.Name "range" p) [a] [] pos) (tMI k W (itRng1 f)) := pi_mono (pi_range1 hg hm ha hs) fun σ H R h => rng1_read h
theorem pi_rng2M {tg a b : Expr} {f : Macs} {p pos : Pos} (hg : Gl X "range") (hm : X.mg "range" = none) (ha : PA X [a, b] (tMA k W f)) (hs : starEach [a, b] X.env = [(false, eval a X.env), (false, eval b X.env)] := by rfl) (hs2 : starEach [b] X.env = [(false, eval b X.env)] := by rfl) : PI X tg (.Call (.Name "range" p) [a, b] [] pos) (tMI k W (itRng2 f)) :=
  pi_mono (pi_range2 hg hm ha hs hs2) fun σ H R h => rng2_read h
/-! ### enumerate, zip, texts -/
theorem src_enum {a : Addr} {xs : List V} {l : List MM.D} : Src k m (Ite k.K a) (enumD l) (fun F => SqL k.K F a xs ∧ RepL k m F xs l) where
  mono := fun F F' ⟨h1, h2⟩ sm => ⟨Same.sql sm h1, h2.mono sm Pre.refl⟩
  go := fun i F H ⟨h1, h2⟩ sm hi => by
    unfold enumD at hi
    rw [List.length_map, List.length_range] at hi
    exact ⟨xs, xs[i]'(by rw [h2.len]; exact hi), Same.sql sm h1, by rw [List.getElem?_eq_getElem]⟩
  stop := fun i F H ⟨h1, h2⟩ sm hi => by
    unfold enumD at hi
    rw [List.length_map, List.length_range] at hi
    exact ⟨xs, Same.sql sm h1, by rw [h2.len]; exact hi⟩
  yld := fun i F H v H' d ⟨h1, h2⟩ sm hd ⟨T, x, ev, nT, eH, hx⟩ => by
    subst ev eH
    unfold enumD at hd
    rw [List.getElem?_map] at hd
    obtain ⟨j, h3, h4⟩ := Option.map_eq_some_iff.mp hd
    obtain ⟨lt, h5⟩ := List.getElem?_eq_some_iff.mp h3
    rw [List.getElem_range] at h5
    subst h5
    rw [List.length_range] at lt
    have ei : l[i]? = some (l.getD i .non) := by rw [List.getD_eq_getElem?_getD, List.getElem?_eq_getElem lt]; rfl
    obtain ⟨u, hu, ru⟩ := h2.get ei
    have ex := hx xs (Same.sql sm h1)
    rw [hu] at ex
    cases ex
    refine ⟨same_new nT, fun m' F2 pm s2 nw => ?_⟩
    rw [← h4]
    exact .tup (.inl (.inl (nw T _ upd_same nT))) (.cons (.int _) (.cons (ru.mono s2 pm) .nil))
theorem enum_read {f : Mac} {R : It → Hp → Prop} (h : tMI k W (itEnum f) σ H R) : iEnum k.K (fun σ H Q => tM k W f σ H fun v H1 => Q [v] H1) σ H R := by
  obtain ⟨P, w, m, s, r, h⟩ := h
  refine ⟨P, w, m, s, r, ?_⟩
  unfold itEnum at h
  cases q : f s with
  | ok a s1 e1 =>
    rw [q] at h
    dsimp only at h
    cases q2 : rowOf a with
    | none =>
      rw [q2] at h
      exact h.elim
    | some l =>
      cases q3 : a.d.lst? with
      | none =>
        rw [q2, q3] at h
        exact h.elim
      | some l' =>
        rw [q2, q3] at h
        dsimp only at h
        intro v H' A w' m' g p
        obtain ⟨c, xs, rfl, hs, hr⟩ := row_free g p q2
        rcases hs with ⟨hs, _⟩ | ⟨_, sd2⟩
        · exact ⟨c, xs, rfl, Same.sql fz_same hs, h _ H' w' m' _ g.bare (src_enum (xs := xs) (l := l)) ⟨hs, hr⟩⟩
        · exfalso
          cases q4 : a.d <;> rw [q4] at q3 sd2 <;> first | (cases sd2; done) | (cases q3; done)
  | err c ns l s' =>
    rw [q] at h
    exact h
  | bad =>
    rw [q] at h
    exact h
theorem pi_enumM {e : Expr} {f : Mac} {p pos tpos : Pos} {elts : List Expr} {kk : Nat} (hg : Gl X "enumerate") (hm : X.mg "enumerate" = none) (ha : PE X e (tM k W f)) (he : starEach [e] X.env = [(false, eval e X.env)] := by rfl) (hK : X.K = k.K := by rfl) :
    PI X (.Tuple elts kk tpos) (.Call (.Name "enumerate" p) [e] [] pos) (tMI k W (itEnum f)) :=
  pi_mono (piEnum (X := X) k.K hg hm (pa_cons ha pa_nil he) he hK) fun σ H R h => enum_read h
theorem src_zip {r1 r2 : Rw} {a b : Addr} {xs ys : List V} {l r : List MM.D} : Src k m (ItzM k.K r1 r2 a b) (zipD l r) (fun F => r1.Sq k.K F a xs ∧ r2.Sq k.K F b ys ∧ RepL k m F xs l ∧ RepL k m F ys r) where
  mono := fun F F' ⟨h1, h2, h3, h4⟩ sm => ⟨Rw.same sm h1, Rw.same sm h2, h3.mono sm Pre.refl, h4.mono sm Pre.refl⟩
  go := fun i F H ⟨h1, h2, h3, h4⟩ sm hi => by
    unfold zipD at hi
    rw [List.length_map, List.length_zip] at hi
    have l1 := h3.len
    have l2 := h4.len
    exact ⟨xs, ys, xs[i]'(by omega), ys[i]'(by omega), Rw.same sm h1, Rw.same sm h2, by rw [List.getElem?_eq_getElem], by rw [List.getElem?_eq_getElem]⟩
  stop := fun i F H ⟨h1, h2, h3, h4⟩ sm hi => by
    unfold zipD at hi
    rw [List.length_map, List.length_zip] at hi
    have l1 := h3.len
    have l2 := h4.len
    exact ⟨xs, ys, Rw.same sm h1, Rw.same sm h2, by omega⟩
  yld := fun i F H v H' d ⟨h1, h2, h3, h4⟩ sm hd ⟨T, x, y, ev, nT, eH, hx, hy⟩ => by
    subst ev eH
    unfold zipD at hd
    rw [List.getElem?_map] at hd
    obtain ⟨p, h5, h6⟩ := Option.map_eq_some_iff.mp hd
    obtain ⟨d1, d2⟩ := p
    rw [List.getElem?_zip_eq_some] at h5
    obtain ⟨u, hu, ru⟩ := h3.get h5.1
    obtain ⟨z, hz, rz⟩ := h4.get h5.2
    have ex := hx xs (Rw.same sm h1)
    have ey := hy ys (Rw.same sm h2)
    rw [hu] at ex
    rw [hz] at ey
    cases ex
    cases ey
    refine ⟨same_new nT, fun m' F2 pm s2 nw => ?_⟩
    rw [← h6]
    exact .tup (.inl (.inl (nw T _ upd_same nT))) (.cons (ru.mono s2 pm) (.cons (rz.mono s2 pm) .nil))
/-- one of several rows at hand, given up -/
theorem row_free' {a : Val} {x : V} {l : List MM.D} (g : Stg k P σ w0 m0 H0 A w m H s e) (sub : ∀ b ∈ B, b ∈ A) (p : RepO k m (fz (plus A P) w H) H a.o B x a.d) (h : rowOf a = some l) : ∃ q c xs, x = .ref c ∧ Rw.Sq q k.K (fz P w H) c xs ∧ RepL k m (fz P w H) xs l := by
  unfold rowOf at h
  by_cases c : a.o = .bo
  · rw [decide_eq_true c] at h
    cases h
  · rw [decide_eq_false c] at h
    have h : a.d.seq? = some l := h
    have r := p.rep g.fzl (g.give sub) fun z => absurd z c
    cases q : a.d with
    | lst l2 =>
      rw [q] at h r
      cases h
      cases r with
      | lst h1 h2 => exact ⟨.lst, _, _, rfl, .inl (.inl h1), h2⟩
    | fls l2 =>
      rw [q] at h r
      cases h
      cases r with
      | fls h1 h2 => exact ⟨.lst, _, _, rfl, h1.sq, h2⟩
    | tup l2 =>
      rw [q] at h r
      cases h
      cases r with
      | tup h1 h2 => exact ⟨.tup, _, _, rfl, h1, h2⟩
    | _ =>
      rw [q] at h
      cases h
theorem zip_read {f : Macs} {R : It → Hp → Prop} (h : tMI k W (itZip f) σ H R) : iZipM k.K (tMA k W f) σ H R := by
  obtain ⟨P, w, m, s, r, h⟩ := h
  refine ⟨P, w, m, s, r, ?_⟩
  unfold itZip at h
  cases q : f s with
  | ok as s1 e1 =>
    rw [q] at h
    rcases as with _ | ⟨a, _ | ⟨b, _ | ⟨c, as⟩⟩⟩
    · exact h.elim
    · exact h.elim
    · dsimp only at h
      intro vs H' A w' m' g p
      cases q1 : rowOf a with
      | none =>
        rw [q1] at h
        exact h.elim
      | some l1 =>
        cases q2 : rowOf b with
        | none =>
          rw [q1, q2] at h
          exact h.elim
        | some l2 =>
          rw [q1, q2] at h
          dsimp only at h
          obtain ⟨x, y, rfl⟩ : ∃ x y, vs = [x, y] := by
            have z := p.len
            match vs, z with
            | [x, y], _ => exact ⟨x, y, rfl⟩
          obtain ⟨a', b', A1, A2, ea, rfl, p1, p2⟩ := p.two_inv
          cases ea
          obtain ⟨r1, c1, xs, rfl, hs, hr⟩ := row_free' g (by intro b z; simp [z]) p1 q1
          obtain ⟨r2, c2, ys, rfl, hs2, hr2⟩ := row_free' g (by intro b z; simp [z]) p2 q2
          exact ⟨r1, r2, c1, c2, xs, ys, rfl, Rw.same fz_same hs, Rw.same fz_same hs2, h _ H' w' m' _ g.bare (src_zip (xs := xs) (ys := ys) (l := l1) (r := l2)) ⟨hs, hs2, hr, hr2⟩⟩
    · exact h.elim
  | err c ns l s' =>
    rw [q] at h
    exact h
  | bad =>
    rw [q] at h
    exact h
theorem pi_zipMM {e e2 : Expr} {f : Macs} {p pos tpos : Pos} {elts : List Expr} {kk : Nat} (hg : Gl X "zip") (hm : X.mg "zip" = none) (ha : PA X [e, e2] (tMA k W f)) (hs : starEach [e, e2] X.env = (false, eval e X.env) :: starEach [e2] X.env := by rfl) (hpl : (backTo pos (starEach [e2] X.env)).any (·.1) = false := by rfl) (hK : X.K = k.K := by rfl) :
    PI X (.Tuple elts kk tpos) (.Call (.Name "zip" p) [e, e2] [] pos) (tMI k W (itZip f)) := pi_mono (piZipM (X := X) k.K hg hm ha hs hpl hK) fun σ H R h => zip_read h
theorem src_str {z : Str} : Src k m (Its z) (signs z) (fun _ => True) where
  mono := fun _ _ h _ => h
  go := fun i F H _ _ hi => by
    unfold signs at hi
    rw [List.length_map, Array.length_toList] at hi
    exact hi
  stop := fun i F H _ _ hi => by
    unfold signs at hi
    rw [List.length_map, Array.length_toList] at hi
    exact hi
  yld := fun i F H x H' d _ sm hd ⟨e1, c, hc, e2⟩ => by
    subst e1 e2
    refine ⟨fun _ _ z => z, fun m' F2 _ _ _ => ?_⟩
    unfold signs at hd
    rw [List.getElem?_map, Array.getElem?_toList, hc] at hd
    cases hd
    exact .str _
theorem str_read {f : Mac} {R : It → Hp → Prop} (h : tMI k W (itStr f) σ H R) : iStr (tM k W f) σ H R := by
  obtain ⟨P, w, m, s, r, h⟩ := h
  refine ⟨P, w, m, s, r, ?_⟩
  unfold itStr at h
  cases q : f s with
  | ok a s1 e1 =>
    rw [q] at h
    dsimp only at h
    cases q2 : a.d.str? with
    | none =>
      rw [q2] at h
      exact h.elim
    | some z =>
      rw [q2] at h
      intro v H' A w' m' g p
      rw [str?_eq q2] at p
      exact ⟨z, rep_of_str p, h _ H' w' m' _ g.bare src_str trivial⟩
  | err c ns l s' =>
    rw [q] at h
    exact h
  | bad =>
    rw [q] at h
    exact h
theorem pi_strM {tg l : Expr} {f : Mac} (hp : PE X l (tM k W f)) : PI X tg l (tMI k W (itStr f)) := pi_mono (pi_str hp) fun σ H R h => str_read h
end
end MM

/-! Comprehensions of the machine. -/
namespace MM
open PySem PySem.Spec PyProof.Rows L2 GB
def W0 : WX := fun _ _ _ _ => False
def mYes : Mab := fun s => .ok true s false
def compS (T : Tgt) (t : Mab) (f : Mac) (vs : List Nat) : List MM.D → List Val → MSt → Res (List Val)
  | [], acc, s => .ok acc s true
  | d :: r, acc, s => match T (itV d) s with
    | none => .bad
    | some s1 => match t s1 with
      | .ok true s2 _ => match f s2 with
        | .ok y s3 _ => bif decide (y.o = .bo) then .bad else compS T t f vs r (acc ++ [y]) (wipes vs s3)
        | _ => .bad
      | .ok false s2 _ => compS T t f vs r acc (wipes vs s2)
      | _ => .bad
def finC (r : Res (List Val)) : Res Val := match r with
  | .ok acc s e => .ok ⟨bif allAl acc then .al else .sp, .lst (dsOf acc)⟩ s e
  | .err c ns l s => .err c ns l s
  | .bad => .bad
def mComp (it : Itm) (T : Tgt) (t : Mab) (f : Mac) (vs : List Nat) : Mac := fun s => match it s with
  | .ok l s1 _ => bif decide (l.length ≤ 10000000) then finC (compS T t f vs l [] (wipes vs s1)) else .bad
  | .err c ns l s' => .err c ns l s'
  | .bad => .bad
section
variable {k : Ks} {W : WX} {P : Addr → Prop} {w w1 w2 w0 : Ow} {m m1 m2 m0 : List Addr} {σ σ1 : L2.St} {H H1 H2 H0 : Hp} {A B : List Addr} {e e2 : Bool} {s s1 : MSt} {X : Cx} {Q : VK}
theorem pts_mono {ifs : List Expr} {t u : TT} (h : PTs X ifs t) (i : ∀ σ H Q, u σ H Q → t σ H Q) : PTs X ifs u := ⟨fun pins s σ H Q I q => h.run pins s σ H Q I (i σ H Q q)⟩
theorem pts_nilM : PTs X [] (tMT k W mYes) := pts_mono pts_nil fun σ H Q h => tC_T h
theorem pts_oneM {c : Expr} {t : Mab} (h : PT X c (tMT k W t)) : PTs X [c] (tMT k W t) := pts_one h
/-- other slots, where nothing is said of them -/
theorem SR.sig {σ' : L2.St} (r : SR k P w m σ H s) (l : σ'.length = σ.length) (h : ∀ (i : Nat) (x : Val), s.env[i]? = some (some x) → σ'[i]? = σ[i]?) : SR k P w m σ' H s :=
  ⟨r.wr, r.dis, by rw [l]; exact r.len, r.mlen, fun i o d q => by
    obtain ⟨v, A, h1, h2⟩ := r.env i o d q
    exact ⟨v, A, by rw [h i _ q]; exact h1, h2⟩, r.cel⟩
theorem Stg.sig {σ' : L2.St} (g : Stg k P σ w0 m0 H0 A w m H s e) (l : σ'.length = σ.length) (h : ∀ (i : Nat) (x : Val), s.env[i]? = some (some x) → σ'[i]? = σ[i]?) : Stg k P σ' w0 m0 H0 A w m H s e := ⟨g.sr.sig l h, g.st, g.nd, g.fl, g.off⟩
theorem wipes_env : ∀ {vs : List Nat} {s : MSt} {i : Nat} {x : Val}, (wipes vs s).env[i]? = some (some x) → i ∉ vs ∧ s.env[i]? = some (some x)
  | [], _, _, _, h => ⟨by simp, h⟩
  | v :: vs, s, i, x, h => by
    obtain ⟨h1, h2⟩ := wipes_env (vs := vs) (s := put s (.inl v) none) h
    have h2 : (s.env.set v none)[i]? = some (some x) := h2
    by_cases c : v = i
    · subst c
      exfalso
      have lt : v < s.env.length := by
        have z := (List.getElem?_eq_some_iff.mp h2).1
        rw [List.length_set] at z
        exact z
      rw [List.getElem?_set_self lt] at h2
      cases h2
    · rw [List.getElem?_set_ne c] at h2
      exact ⟨by simp [h1, Ne.symm c], h2⟩
theorem wipe_eq {σ σ' : L2.St} {vs : List Nat} (u : Upto vs σ σ') : wipe σ' vs = wipe σ vs := by
  apply List.ext_getElem?
  intro j
  by_cases c : j ∈ vs
  · have l1 := wipe_length σ vs
    have l2 := wipe_length σ' vs
    have n : ∀ (τ : L2.St), (wipe τ vs)[j]? = if j < τ.length then some none else none := fun τ => by
      by_cases lt : j < τ.length
      · rw [if_pos lt]
        cases q : (wipe τ vs)[j]? with
        | none =>
          have := List.getElem?_eq_none_iff.mp q
          rw [wipe_length] at this
          omega
        | some y =>
          cases y with
          | none => rfl
          | some x => exact absurd c (wipe_some q).2
      · rw [if_neg lt, List.getElem?_eq_none_iff, wipe_length]
        omega
    rw [n, n, u.1]
  · rw [wipe_out c, wipe_out c, u.2 j c]
theorem wipe_upto {vs : List Nat} : Upto vs σ (wipe σ vs) := ⟨wipe_length σ vs, fun j h => wipe_out h⟩
/-- an object that is kept aside is changed -/
theorem SR.chg {a : Addr} {ob : HO} (r : SR k P w m σ H s) (pa : P a) (wo : Wr ob) : SR k P w m σ (upd H a ob) s := by
  have wa := r.dis a pa
  have f : Same (fz P w H) (fz P w (upd H a ob)) := fz_step fun b u h n1 n2 => ⟨by rw [upd_ne (fun z => n1 (by rw [z]; exact pa))]; exact h, n1, n2⟩
  have kp : ∀ (C : List Addr) (q : Nat ⊕ Nat), (∀ b ∈ C, w b = some q) → Keep C H (upd H a ob) := fun C q hc b u h z => by
    rw [upd_ne]
    · exact h
    · intro y
      subst y
      rcases z with z | z
      · rw [hc b z] at wa; cases wa
      · exact (r.notree b u h z).1 pa
  refine ⟨fun b z => ?_, r.dis, r.len, r.mlen, fun i o d h => ?_, fun i o d h => ?_⟩
  · by_cases c : b = a
    · subst c
      exact ⟨_, upd_same, wo⟩
    · obtain ⟨u, h, q⟩ := r.wr b z
      exact ⟨u, by rw [upd_ne c]; exact h, q⟩
  · obtain ⟨v, A, h1, h2, h3, h4, h5⟩ := r.env i o d h
    exact ⟨v, A, h1, h2.move f (kp A _ h4) Pre.refl (fun z => absurd z h5), h3, h4, h5⟩
  · obtain ⟨v, A, h1, h2, h3, h4, h5⟩ := r.cel i o d h
    exact ⟨v, A, h1, h2.move f (kp A _ h4) Pre.refl (fun z => absurd z h5), h3, h4, h5⟩
theorem RepOL.snoc {F : Hp} {as : List Val} {vs : List V} {a : Val} {v : V} (h : RepOL k m F H as A vs) (g : RepO k m F H a.o B v a.d) : RepOL k m F H (as ++ [a]) (A ++ B) (vs ++ [v]) := by
  induction h with
  | nil =>
    have z := RepOL.one g
    exact z
  | cons h1 r ih =>
    rw [List.append_assoc]
    exact .cons h1 ih
theorem finC_inv {r : Res (List Val)} (h : PostE k W P w m σ H Q (finC r)) : r ≠ .bad := by
  intro z
  rw [z] at h
  exact h
theorem comp_noerr {T : Tgt} {t : Mab} {f : Mac} {vs : List Nat} : ∀ {l : List MM.D} {acc : List Val} {s : MSt} {c : Str} {ns : List Str} {l' : List MM.D} {s' : MSt}, compS T t f vs l acc s ≠ .err c ns l' s'
  | [], acc, s, _, _, _, _ => fun h => by cases h
  | d :: r, acc, s, c, ns, l', s' => fun h => by
    unfold compS at h
    cases q : T (itV d) s with
    | none => rw [q] at h; cases h
    | some s1 =>
      rw [q] at h
      dsimp only at h
      cases q2 : t s1 with
      | ok b s2 e2 =>
        rw [q2] at h
        cases b with
        | true =>
          dsimp only at h
          cases q3 : f s2 with
          | ok y s3 e3 =>
            rw [q3] at h
            dsimp only at h
            cases q4 : decide (y.o = .bo) with
            | true => rw [q4] at h; cases h
            | false =>
              rw [q4] at h
              exact comp_noerr h
          | err _ _ _ _ => rw [q3] at h; cases h
          | bad => rw [q3] at h; cases h
        | false => exact comp_noerr h
      | err _ _ _ _ => rw [q2] at h; cases h
      | bad => rw [q2] at h; cases h
theorem comp_read {it : Itm} {js : List Nat} {T : Tgt} {t : Mab} {f : Mac} {vs : List Nat} (sub : ∀ j ∈ js, j ∈ vs) (h : tM k W (mComp it T t f vs) σ H Q) : tLc (tMI k W it) (tMG k js T) (tMT k W0 t) (tM k W0 f) vs σ H Q := by
  obtain ⟨P, w, m, s, r, h⟩ := h
  refine ⟨P, w, m, s, r, ?_⟩
  unfold mComp at h
  cases q : it s with
  | err c ns l s' =>
    rw [q] at h
    exact h
  | bad =>
    rw [q] at h
    exact h
  | ok l s1 e1 =>
    rw [q] at h
    dsimp only at h
    cases ql : decide (l.length ≤ 10000000) with
    | false =>
      rw [ql] at h
      exact h.elim
    | true =>
      rw [ql] at h
      have small := of_decide_eq_true ql
      have h : PostE k W P w m σ H Q (finC (compS T t f vs l [] (wipes vs s1))) := h
      intro J H1 w1 m1 Hc g1 src hc
      intro L nL
      obtain ⟨w2, g2'⟩ := Stg.wipes vs (Stg.refl g1.srn)
      have g2 := g1.behind g2'
      have e0 : ∀ (i : Nat) (x : Val), (wipes vs s1).env[i]? = some (some x) → (wipe σ vs)[i]? = σ[i]? := fun i x hx => wipe_out (wipes_env hx).1
      have g3 : Stg k P (wipe σ vs) w m H [L] w2 m1 (upd H1 L (.lst [])) (wipes vs s1) true := (g2.sig (wipe_length σ vs) e0).laid nL trivial
      refine ⟨fun i n G => ∃ w' m' s' acc A ys, Stg k P (wipe σ vs) w m H (L :: A) w' m' G s' true ∧ G L = some (.lst ys) ∧ RepOL k m' (fz (plus (L :: A) P) w' G) G acc A ys ∧ Hc (fz (plus (L :: A) P) w' G) ∧ Pre m1 m' ∧ i ≤ l.length ∧ n = l.length - i ∧ acc.length ≤ i ∧ anyBo acc = false ∧
          (∀ (i : Nat) (x : Val), s'.env[i]? = some (some x) → i ∉ vs) ∧ PostE k W P w m σ H Q (finC (compS T t f vs (l.drop i) acc s')), ⟨_, w2, m1, _, [], [], [], g3, upd_same, .nil, ?_, Pre.refl, Nat.zero_le _, rfl, Nat.le_refl _, rfl, fun i x hx => (wipes_env hx).1, h⟩, ?_⟩
      · have z1 := g2'.fz
        rw [plus_nil] at z1
        refine src.mono _ _ hc (z1.trans ?_)
        exact fz_step fun b u hu n1 n2 => ⟨same_new nL _ _ hu, fun z => z.elim (fun y => by obtain rfl := List.mem_singleton.mp y; rw [nL] at hu; cases hu) n1, n2⟩
      · clear h g3 e0 g2 g2' hc
        rintro i n G ⟨w', m', s', acc, A, ys, g, gL, p, hc, pm, hi, rfl, al, nbo, clean, h⟩
        by_cases hlt : i < l.length
        · refine .inr ⟨src.go i _ G hc fz_same hlt, fun G => ∃ w' m' s' acc A ys, Stg k P (wipe σ vs) w m H (L :: A) w' m' G s' true ∧ G L = some (.lst ys) ∧ RepOL k m' (fz (plus (L :: A) P) w' G) G acc A ys ∧ Hc (fz (plus (L :: A) P) w' G) ∧ Pre m1 m' ∧ acc.length ≤ i + 1 ∧ anyBo acc = false ∧
            (∀ (i : Nat) (x : Val), s'.env[i]? = some (some x) → i ∉ vs) ∧ PostE k W P w m σ H Q (finC (compS T t f vs (l.drop (i + 1)) acc s')), ?_, ?_⟩
          · rintro G' ⟨w', m', s', acc, A, ys, h1, h2, h3, h4, h5, h6, h7, h8, h9⟩
            exact ⟨l.length - (i + 1), by omega, w', m', s', acc, A, ys, h1, h2, h3, h4, h5, hlt, rfl, h6, h7, h8, h9⟩
          intro x G1 y
          have ei : l[i]? = some l[i] := List.getElem?_eq_getElem hlt
          rw [List.drop_eq_getElem_cons hlt] at h
          obtain ⟨sm, rep⟩ := src.yld i _ G x G1 _ hc fz_same ei y
          have gs := g.same sm
          have fs : Same (fz (plus (L :: A) P) w' G) (fz (plus (L :: A) P) w' G1) := fz_step fun b u hu n1 n2 => ⟨sm _ _ hu, n1, n2⟩
          have rx := rep m' (fz (plus (L :: A) P) w' G1) pm fs (new_free g.sr sm)
          have nb0 := finC_inv h
          unfold compS at h nb0
          cases q1 : T (itV l[i]) s' with
          | none =>
            rw [q1] at nb0
            exact absurd rfl nb0
          | some s1 =>
            rw [q1] at h nb0
            dsimp only at h nb0
            refine ⟨plus (L :: A) P, w', m', s', itV l[i], [], by rw [plus_nil]; exact gs.sr, by simp, List.nodup_nil, by rw [plus_nil]; exact itV_rep rx fz_same, s1, q1, ?_⟩
            intro σ2 w2 r2 ow up
            have uv : Upto vs (wipe σ vs) σ2 := ⟨up.1, fun j hj => up.2 j fun z => hj (sub j z)⟩
            have wq : wipe σ2 vs = wipe σ vs := by
              rw [wipe_eq uv]
              exact wipe_eq (wipe_upto (σ := σ) (vs := vs))
            refine ⟨wq, plus (L :: A) P, w2, m', s1, r2, ?_⟩
            -- the way so far, with L and A kept aside
            have ga : Stg k (plus (L :: A) P) σ2 w' m' G [] w2 m' G1 s1 true := ⟨by rw [plus_nil]; exact r2, ⟨fun b u hu n => ⟨sm b u hu, ow b n (by simp), by simp⟩, Pre.refl⟩, List.nodup_nil, fun z => (nomatch z), by simp⟩
            have kA : ∀ {B : List Addr} {w3 : Ow} {m3 : List Addr} {G3 : Hp} {s3 : MSt}, Stg k (plus (L :: A) P) σ2 w' m' G B w3 m3 G3 s3 true → ∀ (y : Option (Val × V)), (∀ a v, y = some (a, v) → a.o ≠ .bo ∧ RepO k m3 (fz (plus B (plus (L :: A) P)) w3 G3) G3 a.o B v a.d) → (y = none → B = []) →
                PostE k W P w m σ H Q (finC (compS T t f vs (l.drop (i + 1)) (acc ++ (y.map (·.1)).toList) (wipes vs s3))) →
                ∃ w' m' s' acc A ys', Stg k P (wipe σ vs) w m H (L :: A) w' m' (upd G3 L (.lst (ys ++ (y.map (·.2)).toList))) s' true ∧ (upd G3 L (.lst (ys ++ (y.map (·.2)).toList))) L = some (.lst ys') ∧ RepOL k m' (fz (plus (L :: A) P) w' (upd G3 L (.lst (ys ++ (y.map (·.2)).toList)))) (upd G3 L (.lst (ys ++ (y.map (·.2)).toList))) acc A ys' ∧
                  Hc (fz (plus (L :: A) P) w' (upd G3 L (.lst (ys ++ (y.map (·.2)).toList)))) ∧ Pre m1 m' ∧ acc.length ≤ i + 1 ∧ anyBo acc = false ∧ (∀ (i : Nat) (x : Val), s'.env[i]? = some (some x) → i ∉ vs) ∧ PostE k W P w m σ H Q (finC (compS T t f vs (l.drop (i + 1)) acc s')) := by
              intro B w3 m3 G3 s3 gb y hy yn hp
              obtain ⟨w4, g4⟩ := Stg.wipes vs (Stg.refl gb.sr)
              have r4 : SR k (plus B (plus (L :: A) P)) w4 m3 σ2 G3 (wipes vs s3) := g4.srn
              have r5 := r4.chg (a := L) (ob := .lst (ys ++ (y.map (·.2)).toList)) (.inr (.inl (by simp))) trivial
              have cl : ∀ (i : Nat) (x : Val), (wipes vs s3).env[i]? = some (some x) → i ∉ vs := fun i x hx => (wipes_env hx).1
              have r6 : SR k (plus B (plus (L :: A) P)) w4 m3 (wipe σ vs) (upd G3 L (.lst (ys ++ (y.map (·.2)).toList))) (wipes vs s3) := r5.sig (by rw [← wq, wipe_length]) fun j x hx => by rw [← wq, wipe_out (cl j x hx)]
              have st4 := gb.st.trans g4.st
              have offL : ∀ b ∈ L :: A, b ∉ B := gb.st.off g.sr
              have wL := g.sr.dis L (.inl (by simp))
              have pl : plus B (plus (L :: A) P) = plus (L :: (A ++ B)) P := by
                rw [plus_plus]
                rfl
              have H0L : ∀ b u, H b = some u → w b = none → b ≠ L := fun b u hu n => by
                obtain ⟨_, _, z⟩ := g.st.keep b u hu n
                intro y
                exact z (by simp [y])
              have nd2 : (L :: (A ++ B)).Nodup := by
                have z := nodup_app g.nd gb.nd offL
                exact z
              have off2 : ∀ b ∈ L :: (A ++ B), ¬ P b := by
                intro b hb
                rcases List.mem_cons.mp hb with rfl | hb
                · exact g.off _ (by simp)
                · rcases List.mem_append.mp hb with hb | hb
                  · exact g.off b (by simp [hb])
                  · exact fun z => gb.off b hb (.inr z)
              refine ⟨w4, m3, wipes vs s3, acc ++ (y.map (·.1)).toList, A ++ B, _, ⟨by rw [← pl]; exact r6, ⟨fun b u hu n => ?_, g.st.pre.trans st4.pre⟩, nd2, fun z => (nomatch z), off2⟩, upd_same, ?_, ?_, pm.trans st4.pre, ?_, ?_, cl, hp⟩
              · obtain ⟨z1, z2, z3⟩ := g.st.keep b u hu n
                obtain ⟨z4, z5, z6⟩ := st4.keep b u z1 z2
                refine ⟨by rw [upd_ne (H0L b u hu n)]; exact z4, z5, ?_⟩
                intro z
                rcases List.mem_cons.mp z with rfl | z
                · exact z3 (by simp)
                · rcases List.mem_append.mp z with z | z
                  · exact z3 (by simp [z])
                  · exact z6 (by simp [z])
              · -- what is at hand
                rw [← pl]
                have f4 : Same (fz (plus B (plus (L :: A) P)) w3 G3) (fz (plus B (plus (L :: A) P)) w4 (upd G3 L (.lst (ys ++ (y.map (·.2)).toList)))) := by
                  have z := g4.fz
                  rw [plus_nil] at z
                  exact z.trans (fz_step fun b u hu n1 n2 => ⟨by rw [upd_ne (fun q => n1 (by rw [q]; exact .inr (.inl (by simp))))]; exact hu, n1, n2⟩)
                have ndL : L ∉ A := (List.nodup_cons.mp g.nd).1
                have keepC : ∀ C : List Addr, L ∉ C → Keep C G3 (upd G3 L (.lst (ys ++ (y.map (·.2)).toList))) := fun C hC b u hu z => by
                  rw [upd_ne]
                  · exact hu
                  · rintro rfl
                    rcases z with z | z
                    · exact hC z
                    · exact (r4.notree _ _ hu z).1 (.inr (.inl (by simp)))
                have pA : RepOL k m3 (fz (plus B (plus (L :: A) P)) w3 G3) G3 acc A ys := by
                  refine p.move gb.fz ((gb.st.kept g.sr fun b hb => g.sr.dis b (.inl hb)).sub (by intro b hb; simp [hb])) gb.st.pre ?_
                  rintro ⟨a, ha, eb⟩
                  exfalso
                  have z : anyBo acc = true := List.any_eq_true.mpr ⟨a, ha, decide_eq_true eb⟩
                  rw [nbo] at z
                  cases z
                have pA2 := pA.move f4 (keepC A ndL) Pre.refl (by
                  rintro ⟨a, ha, eb⟩
                  exfalso
                  have z : anyBo acc = true := List.any_eq_true.mpr ⟨a, ha, decide_eq_true eb⟩
                  rw [nbo] at z
                  cases z)
                cases y with
                | none =>
                  have eB := yn rfl
                  subst eB
                  show RepOL _ _ _ _ (acc ++ []) (A ++ []) (ys ++ [])
                  rw [List.append_nil, List.append_nil, List.append_nil]
                  exact pA2
                | some y =>
                  obtain ⟨nb, ry⟩ := hy y.1 y.2 rfl
                  exact pA2.snoc (ry.move f4 (keepC B (fun z => offL L (by simp) z)) Pre.refl fun z => absurd z nb)
              · refine src.mono _ _ hc ?_
                rw [← pl]
                have z := g4.fz
                rw [plus_nil] at z
                exact gb.fz.trans (z.trans (fz_step fun b u hu n1 n2 => ⟨by rw [upd_ne (fun q => n1 (by rw [q]; exact .inr (.inl (by simp))))]; exact hu, n1, n2⟩))
              · cases y with
                | none => show (acc ++ []).length ≤ _; rw [List.append_nil]; omega
                | some y => show (acc ++ [y.1]).length ≤ _; rw [List.length_append]; simp; omega
              · cases y with
                | none => show anyBo (acc ++ []) = false; rw [List.append_nil]; exact nbo
                | some y =>
                  show (acc ++ [y.1]).any _ = false
                  rw [List.any_append]
                  have nbo2 : acc.any (fun a => decide (a.o = .bo)) = false := nbo
                  rw [nbo2]
                  simp [(hy y.1 y.2 rfl).1]
            cases q2 : t s1 with
            | err c ns l2 s2 =>
              rw [q2] at nb0
              exact absurd rfl nb0
            | bad =>
              rw [q2] at nb0
              exact absurd rfl nb0
            | ok b s2 e2 =>
              rw [q2] at h nb0
              intro G2 w3 m3 g3
              have gb := ga.trans (by rw [plus_nil]; exact g3)
              have gb : Stg k (plus (L :: A) P) σ2 w' m' G [] w3 m3 G2 s2 true := gb.ef fun z => (nomatch z)
              have kL : G2 L = some (.lst ys) := by
                have z := gb.st.kept g.sr (A := [L]) (by intro b hb; obtain rfl := List.mem_singleton.mp hb; exact g.sr.dis _ (.inl (by simp)))
                exact z L _ gL (.inl (by simp))
              cases b with
              | false =>
                rw [if_neg Bool.false_ne_true]
                have z := kA gb none (by simp) (fun _ => rfl) (by show PostE _ _ _ _ _ _ _ _ (finC (compS T t f vs _ (acc ++ []) _)); rw [List.append_nil]; exact h)
                have e : upd G2 L (.lst (ys ++ [])) = G2 := by
                  funext b
                  rw [List.append_nil]
                  by_cases c : b = L
                  · rw [c, upd_same, kL]
                  · rw [upd_ne c]
                have z : ∃ w' m' s' acc A ys', Stg k P (wipe σ vs) w m H (L :: A) w' m' (upd G2 L (.lst (ys ++ []))) s' true ∧ (upd G2 L (.lst (ys ++ []))) L = some (.lst ys') ∧ RepOL k m' (fz (plus (L :: A) P) w' (upd G2 L (.lst (ys ++ [])))) (upd G2 L (.lst (ys ++ []))) acc A ys' ∧
                  Hc (fz (plus (L :: A) P) w' (upd G2 L (.lst (ys ++ [])))) ∧ Pre m1 m' ∧ acc.length ≤ i + 1 ∧ anyBo acc = false ∧ (∀ (i : Nat) (x : Val), s'.env[i]? = some (some x) → i ∉ vs) ∧ PostE k W P w m σ H Q (finC (compS T t f vs (l.drop (i + 1)) acc s')) := z
                rw [e] at z
                exact z
              | true =>
                rw [if_pos rfl]
                dsimp only at h nb0
                have r3 := g3.sr
                rw [plus_nil] at r3
                refine ⟨plus (L :: A) P, w3, m3, s2, r3, ?_⟩
                cases q3 : f s2 with
                | err c ns l2 s2 =>
                  rw [q3] at nb0
                  exact absurd rfl nb0
                | bad =>
                  rw [q3] at nb0
                  exact absurd rfl nb0
                | ok y s3 e3 =>
                  rw [q3] at h nb0
                  dsimp only at h nb0
                  cases q4 : decide (y.o = .bo) with
                  | true =>
                    rw [q4] at nb0
                    exact absurd rfl nb0
                  | false =>
                    rw [q4] at h
                    intro v G4 B w4 m4 g4 py
                    have gc : Stg k (plus (L :: A) P) σ2 w' m' G B w4 m4 G4 s3 true := by
                      have z := gb.trans (by rw [plus_nil]; exact g4)
                      exact z
                    have kL4 : G4 L = some (.lst ys) := by
                      have z := gc.st.kept g.sr (A := [L]) (by intro b hb; obtain rfl := List.mem_singleton.mp hb; exact g.sr.dis _ (.inl (by simp)))
                      exact z L _ gL (.inl (by simp))
                    have ly : ys.length = acc.length := p.len.symm
                    refine ⟨ys, kL4, by rw [ly, sizeLine_eq]; omega, ?_⟩
                    exact kA gc (some (y, v)) (by rintro a v' ⟨⟩; exact ⟨of_decide_eq_false q4, py⟩) (by simp) h
        · have e : i = l.length := by omega
          subst e
          rw [List.drop_length] at h
          refine .inl ⟨src.stop _ _ G hc fz_same (Nat.le_refl _), ?_⟩
          have h : PostE k W P w m σ H Q (.ok ⟨bif allAl acc then .al else .sp, .lst (dsOf acc)⟩ s' true) := h
          have gq : Stg k P σ w m H (L :: A) w' m' G s' true := g.sig (by rw [wipe_length]) fun j x hx => by rw [wipe_out (clean j x hx)]
          cases c3 : allAl acc with
          | true =>
            rw [c3] at h
            exact h (.ref L) G _ _ _ gq (.al (.lst gL (p.als (Keep.of_same fun _ _ z => z) (fun _ z => z) c3)))
          | false =>
            rw [c3] at h
            have g5 : Stg k P σ w m H [L] w' m' G s' true := gq.less (by simp) (by simp)
            refine h (.ref L) G _ _ _ g5 (.spl gL (p.free (P := plus [L] P) (A := A) ?_ ?_ (fun _ z => z) nbo))
            · exact fz_step fun b u hu n1 n2 => ⟨hu, fun z => n1 (z.imp (fun y => by obtain rfl := List.mem_singleton.mp y; simp) id), n2⟩
            · intro b u hu z
              have nin : ¬ plus [L] P b ∧ w' b = none := by
                rcases z with z | z
                · refine ⟨?_, gq.sr.dis b (.inl (by simp [z]))⟩
                  rintro (y | y)
                  · obtain rfl := List.mem_singleton.mp y
                    exact (List.nodup_cons.mp gq.nd).1 z
                  · exact gq.off b (by simp [z]) y
                · have q := gq.sr.notree b u hu z
                  exact ⟨fun y => q.1 (y.imp (fun y => by obtain rfl := List.mem_singleton.mp y; simp) id), q.2⟩
              rw [fz_at nin.1 nin.2]
              exact hu
theorem pe_lcM {elt tg iter : Expr} {ifs : List Expr} {scope : Scope} {own : List (Str × Nat)} {pos : Pos} {it : Itm} {js : List Nat} {T : Tgt} {t : Mab} {f : Mac} (hc : X.calm = true) (hN : X.N.Nodup) (hi : PI X tg iter (tMI k W it)) (ok : BlkOk X.N X.env.scope scope own)
    (hg : ∀ (s : Shared) (H : Hp) (C : Addr) (cl : List (Str × Addr)) (fp : List Addr), PG (X.blk s H scope (compEnvC scope cl C X.env) fp) tg (tMG k js T)) (ht : ∀ (s : Shared) (H : Hp) (C : Addr) (cl : List (Str × Addr)) (fp : List Addr), PTs (X.blk s H scope (compEnvC scope cl C X.env) fp) ifs (tMT k W0 t))
    (he : ∀ (s : Shared) (H : Hp) (C : Addr) (cl : List (Str × Addr)) (fp : List Addr), PE (X.blk s H scope (compEnvC scope cl C X.env) fp) elt (tM k W0 f)) (sub : ∀ j ∈ js, j ∈ own.map (·.2)) (hs : ∀ x, foldedSetIterable iter X.env x = pure x := by intro _; rfl) :
    PE X (.ListComp elt [⟨tg, iter, ifs, 0⟩] scope pos) (tM k W (mComp it T t f (own.map (·.2)))) := pe_mono (pe_lc hc hN hi ok hg ht he hs) fun σ H Q h => comp_read sub h
end
end MM

/-! Defs and their calls. -/
namespace MM
open PySem PySem.Spec PyProof.Rows L2 GB
/-- what a def reckons: from the arguments and the cells -/
abbrev Fn := List MM.D → List Ent → Res Val
def spM (K : PySem.W.Frag) (mg : Str → Option Value) (n : Nat) (F : Fn) : Sp := fun vs H Q E => ∃ xr P w m ds cs, xr = none ∧ (∀ a i, w a ≠ some (.inl i)) ∧ SR ⟨K, mg, xr⟩ P w m [] H ⟨[], cs⟩ ∧ RepL ⟨K, mg, xr⟩ m (fz P w H) vs ds ∧ ds.length = n ∧
  PostE ⟨K, mg, xr⟩ (fun c d _ H => E c d H) P w m [] H Q (F ds cs)
/-- a body as a def; z: how many slots behind the parameters -/
def fnOf (z : Nat) (body : Mas) : Fn := fun ds cs => match body ⟨ds.map (fun d => some ⟨.sh, d⟩) ++ List.replicate z none, cs⟩ with
  | .ok (.rt a) s _ => bif decide (a.o = .bo) then .bad else .ok a ⟨[], s.cells⟩ true
  | .ok .nx s _ => .ok ⟨.al, .non⟩ ⟨[], s.cells⟩ true
  | .err c ns l s => .err c ns l ⟨[], s.cells⟩
  | _ => .bad
/-- the cells' owners alone -/
def cellW (w : Ow) : Ow := fun a => match w a with
  | some (.inl _) => none
  | x => x
theorem cellW_inl (w : Ow) (a : Addr) (i : Nat) : cellW w a ≠ some (.inl i) := by
  unfold cellW
  split
  · intro z; cases z
  · rename_i h
    intro z
    exact h i z
theorem cellW_none {w : Ow} {a : Addr} (h : w a = none) : cellW w a = none := by
  unfold cellW
  rw [h]
theorem cellW_cell {w : Ow} {a : Addr} {j : Nat} (h : w a = some (.inr j)) : cellW w a = some (.inr j) := by
  unfold cellW
  rw [h]
theorem cellW_some {w : Ow} {a : Addr} (h : cellW w a ≠ none) : cellW w a = w a := by
  unfold cellW at h ⊢
  split
  · rename_i q
    rw [q] at h
    exact absurd rfl h
  · rfl
section
variable {k : Ks} {W : WX} {P : Addr → Prop} {w w1 w2 w0 : Ow} {m m1 m2 m0 : List Addr} {σ σ1 : L2.St} {H H1 H2 H0 : Hp} {A B : List Addr} {e e2 : Bool} {s s1 : MSt} {X : Cx} {Q : VK}
/-- a frame is left: its slots' objects are nobody's -/
theorem Stg.leave (g : Stg k P σ w0 m0 H0 A w m H s e) (n0 : ∀ a i, w0 a ≠ some (.inl i)) : Stg k P [] w0 m0 H0 A (cellW w) m H ⟨[], s.cells⟩ true := by
  have f : Same (MM.fz (plus A P) w H) (MM.fz (plus A P) (cellW w) H) := fz_step fun b u hu z1 z2 => ⟨hu, z1, cellW_none z2⟩
  refine ⟨⟨?_, fun a z => cellW_none (g.sr.dis a z), rfl, g.sr.mlen, fun i o d h => ?_, fun j o d h => ?_⟩, ⟨fun a u h n => ?_, g.st.pre⟩, g.nd, fun z => (nomatch z), g.off⟩
  · rintro a (z | z)
    · exact g.sr.wr a (.inl z)
    · rw [cellW_some z] at z
      exact g.sr.wr a (.inr z)
  · simp at h
  · obtain ⟨a, C, h1, h2, h3, h4, h5⟩ := g.sr.cel j o d h
    exact ⟨a, C, h1, h2.move f (fun _ _ z _ => z) Pre.refl (fun z => absurd z h5), h3, fun b hb => cellW_cell (h4 b hb), h5⟩
  · obtain ⟨h1, h2, h3⟩ := g.st.keep a u h n
    exact ⟨h1, cellW_none h2, h3⟩
theorem start_eq {N : List Str} {vs : List V} {z : Nat} (h : N.length = vs.length + z) : L2.start N vs = vs.map some ++ List.replicate z none := by
  unfold L2.start
  rw [h, Nat.add_sub_cancel_left]
theorem enter {ds : List MM.D} {cs : List Ent} {vs : List V} {z : Nat} (r : SR k P w m [] H ⟨[], cs⟩) (p : RepL k m (MM.fz P w H) vs ds) : SR k P w m (vs.map some ++ List.replicate z none) H ⟨ds.map (fun d => some ⟨.sh, d⟩) ++ List.replicate z none, cs⟩ := by
  refine ⟨r.wr, r.dis, ?_, r.mlen, fun i o d h => ?_, r.cel⟩
  · simp [p.len]
  · have h : (ds.map (fun d => some (⟨.sh, d⟩ : Val)) ++ List.replicate z none)[i]? = some (some ⟨o, d⟩) := h
    by_cases lt : i < ds.length
    · rw [List.getElem?_append_left (by rw [List.length_map]; exact lt), List.getElem?_map] at h
      obtain ⟨d', h1, h2⟩ := Option.map_eq_some_iff.mp h
      cases h2
      obtain ⟨v, hv, rv⟩ := p.get h1
      refine ⟨v, [], ?_, .sh rv, List.nodup_nil, by simp, by intro z; cases z⟩
      have lv : i < vs.length := by rw [p.len]; exact lt
      rw [List.getElem?_append_left (by rw [List.length_map]; exact lv), List.getElem?_map, hv]
      rfl
    · exfalso
      rw [List.getElem?_append_right (by rw [List.length_map]; omega)] at h
      rw [List.getElem?_replicate] at h
      split at h <;> cases h
/-- a def's body keeps its promise -/
theorem body_ok {K : PySem.W.Frag} {mg : Str → Option Value} {N : List Str} {n z : Nat} {body : Mas} {vs : List V} {E : XK} (hN : N.length = n + z) (h : spM K mg n (fnOf z body) vs H Q E) :
    tMS ⟨K, mg, none⟩ (fun c d _ H => E c d H) body { nx := fun _ H' => Q .non H', rt := Q } (L2.start N vs) H := by
  obtain ⟨_, P, w, m, ds, cs, rfl, n0, r, p, ln, h⟩ := h
  refine ⟨P, w, m, _, by rw [start_eq (z := z) (by rw [p.len, ln]; exact hN)]; exact enter r p, ?_⟩
  unfold fnOf at h
  cases q : body ⟨ds.map (fun d => some ⟨.sh, d⟩) ++ List.replicate z none, cs⟩ with
  | ok fl s e =>
    rw [q] at h
    cases fl with
    | nx =>
      intro σ' H' w' m' g
      exact h .non H' [] _ m' (g.leave n0) (.al (.imm .non rfl))
    | rt a =>
      dsimp only at h
      intro σ' v H' A w' m' g pa
      by_cases c : a.o = .bo
      · rw [decide_eq_true c] at h
        exact h.elim
      · rw [decide_eq_false c] at h
        refine h v H' A _ m' (g.leave n0) (pa.move ?_ (fun _ _ z _ => z) Pre.refl fun z => absurd z c)
        exact fz_step fun b u hu z1 z2 => ⟨hu, z1, cellW_none z2⟩
    | bk => exact h.elim
    | ct => exact h.elim
  | err c ns l s =>
    rw [q] at h
    intro σ' C dd xs H' w' m' e1 e2 e3 e4 e5 e6
    have g : Stg ⟨K, mg, none⟩ P σ' w m H [] w' m' H' s true := ⟨by rw [plus_nil]; exact e5, e6, List.nodup_nil, fun z => (nomatch z), by simp⟩
    have g2 := g.leave n0
    refine h C dd xs H' (cellW w') m' e1 e2 e3 (e4.mono (fz_step fun b u hu z1 z2 => ⟨hu, z1, cellW_none z2⟩) Pre.refl) ?_ g2.st
    have z := g2.sr
    rw [plus_nil] at z
    exact z
  | bad =>
    rw [q] at h
    exact h.elim
theorem spM_len {K : PySem.W.Frag} {mg : Str → Option Value} {n : Nat} {F : Fn} {vs : List V} {E : XK} (h : spM K mg n F vs H Q E) : vs.length = n := by
  obtain ⟨xr, P, w, m, ds, cs, hx, n0, r, p, ln, h⟩ := h
  rw [p.len, ln]
/-! ### calls -/
/-- cells are the callee's for the while -/
def callE (F : Fn) (f : Macs) : Mac := fun s => match f s with
  | .ok as s1 _ => bif anyBo as then .bad else match F (dsOf as) s1.cells with
    | .ok a s2 _ => .ok a ⟨s1.env, s2.cells⟩ true
    | .err c ns l s2 => .err c ns l ⟨s1.env, s2.cells⟩
    | .bad => .bad
  | .err c ns l s' => .err c ns l s'
  | .bad => .bad
/-- the callee sees no cell -/
def callP (F : Fn) (f : Macs) : Mac := fun s => match f s with
  | .ok as s1 e => bif anyBo as then .bad else match F (dsOf as) (s1.cells.map fun _ => none) with
    | .ok a s2 _ => bif decide (s2.cells.length = s1.cells.length) then .ok a s1 e else .bad
    | .err c ns l s2 => bif decide (s2.cells.length = s1.cells.length) then .err c ns l s1 else .bad
    | .bad => .bad
  | .err c ns l s' => .err c ns l s'
  | .bad => .bad
def shC (x : Ent) : Ent := x.map fun a => ⟨.sh, a.d⟩
/-- the callee reads all, and gives nothing of it back -/
def callV (F : Fn) (f : Macs) : Mac := fun s => match f s with
  | .ok as s1 e => match F (dsOf as) (s1.cells.map shC) with
    | .ok a s2 _ => bif decide (s2.cells.length = s1.cells.length) && (decide (a.o = .al) || imm a.d) then .ok ⟨.al, a.d⟩ s1 e else .bad
    | _ => .bad
  | .err c ns l s' => .err c ns l s'
  | .bad => .bad
/-- what a callee may not see -/
def hideP (P : Addr → Prop) (w : Ow) : Addr → Prop := fun a => P a ∨ ∃ i, w a = some (.inl i)
theorem hide_fz : fz (hideP P w) (cellW w) H = fz P w H := by
  funext a
  unfold fz
  by_cases c : P a ∨ w a ≠ none
  · rw [if_pos c, if_pos]
    rcases c with c | c
    · exact .inl (.inl c)
    · cases q : w a with
      | none => exact absurd q c
      | some x =>
        cases x with
        | inl i => exact .inl (.inr ⟨i, q⟩)
        | inr j => exact .inr (by rw [cellW_cell q]; simp)
  · rw [if_neg c, if_neg]
    rintro ((z | ⟨i, z⟩) | z)
    · exact c (.inl z)
    · exact c (.inr (by rw [z]; simp))
    · rw [cellW_some z] at z
      exact c (.inr z)
theorem hide_sr (r : SR k (plus A P) w m σ H s) : SR k (hideP P w) (cellW w) m [] H ⟨[], s.cells⟩ := by
  refine ⟨?_, ?_, rfl, r.mlen, fun i o d h => by simp at h, fun j o d h => ?_⟩
  · rintro a ((z | ⟨i, z⟩) | z)
    · exact r.wr a (.inl (.inr z))
    · exact r.wr a (.inr (by rw [z]; simp))
    · rw [cellW_some z] at z
      exact r.wr a (.inr z)
  · rintro a (z | ⟨i, z⟩)
    · exact cellW_none (r.dis a (.inr z))
    · unfold cellW
      rw [z]
  · obtain ⟨a, C, h1, h2, h3, h4, h5⟩ := r.cel j o d h
    refine ⟨a, C, h1, h2.move ?_ (fun _ _ z _ => z) Pre.refl (fun z => absurd z h5), h3, fun b hb => cellW_cell (h4 b hb), h5⟩
    rw [hide_fz]
    exact fz_step fun b u hu z1 z2 => ⟨hu, fun z => z1 (.inr z), z2⟩
/-- whose is what, behind a call -/
def backW (w w' : Ow) : Ow := fun a => match w a with
  | some (.inl i) => some (.inl i)
  | _ => w' a
theorem backW_inl {w w' : Ow} {a : Addr} {i : Nat} (h : w a = some (.inl i)) : backW w w' a = some (.inl i) := by
  unfold backW
  rw [h]
theorem backW_else {w w' : Ow} {a : Addr} (h : ∀ i, w a ≠ some (.inl i)) : backW w w' a = w' a := by
  unfold backW
  split
  · rename_i i q
    exact absurd q (h i)
  · rfl
theorem back_fz {A' : List Addr} {w' : Ow} {H' : Hp} : fz (plus A' (hideP P w)) w' H' = fz (plus A' P) (backW w w') H' := by
  funext a
  unfold fz
  by_cases c : ∃ i, w a = some (.inl i)
  · obtain ⟨i, c⟩ := c
    rw [if_pos (.inl (.inr (.inr ⟨i, c⟩))), if_pos (.inr (by rw [backW_inl c]; simp))]
  · have e : backW w w' a = w' a := backW_else fun i z => c ⟨i, z⟩
    by_cases d : plus A' P a ∨ w' a ≠ none
    · rw [if_pos (d.imp (fun z => z.imp id .inl) id), if_pos (by rw [e]; exact d)]
    · rw [if_neg (by
        rintro ((z | z | z) | z)
        · exact d (.inl (.inl z))
        · exact d (.inl (.inr z))
        · exact c z
        · exact d (.inr z)), if_neg (by rw [e]; exact d)]
theorem Stg.back {A' : List Addr} {w' : Ow} {m' : List Addr} {H' : Hp} {cs : List Ent} (g : Stg k P σ w0 m0 H0 A w m H s e) (h : Stg k (hideP P w) [] (cellW w) m H A' w' m' H' ⟨[], cs⟩ e2) :
    Stg k P σ w0 m0 H0 A' (backW w w') m' H' ⟨s.env, cs⟩ true := by
  have hid : ∀ a i, w a = some (.inl i) → w' a = none ∧ a ∉ A' := fun a i z => by
    have hp : hideP P w a := .inr ⟨i, z⟩
    exact ⟨h.sr.dis a (.inr hp), fun y => h.off a y hp⟩
  have kp : ∀ a u, H a = some u → cellW w a = none → H' a = some u := fun a u z n => (h.st.keep a u z n).1
  have f : Same (MM.fz (plus A P) w H) (MM.fz (plus A' P) (backW w w') H') := fz_step fun b u hu z1 z2 => by
    obtain ⟨h1, h2, h3⟩ := h.st.keep b u hu (cellW_none z2)
    refine ⟨h1, fun z => z.elim h3 fun y => z1 (.inr y), ?_⟩
    rw [backW_else (by intro i z; rw [z2] at z; cases z)]
    exact h2
  refine ⟨⟨?_, ?_, g.sr.len, h.sr.mlen, fun i o d q => ?_, fun j o d q => ?_⟩, ⟨fun a u z n => ?_, g.st.pre.trans h.st.pre⟩, h.nd, fun z => (nomatch z), fun a z y => h.off a z (.inl y)⟩
  · rintro a ((z | z) | z)
    · exact h.sr.wr a (.inl (.inl z))
    · exact h.sr.wr a (.inl (.inr (.inl z)))
    · by_cases c : ∃ i, w a = some (.inl i)
      · exact h.sr.wr a (.inl (.inr (.inr c)))
      · rw [backW_else fun i y => c ⟨i, y⟩] at z
        exact h.sr.wr a (.inr z)
  · rintro a (z | z)
    · have hn : ∀ i, w a ≠ some (.inl i) := fun i y => (hid a i y).2 z
      rw [backW_else hn]
      exact h.sr.dis a (.inl z)
    · rw [backW_else (by intro i y; rw [g.sr.dis a (.inr z)] at y; cases y)]
      exact h.sr.dis a (.inr (.inl z))
  · obtain ⟨v, C, h1, h2, h3, h4, h5⟩ := g.sr.env i o d q
    refine ⟨v, C, h1, h2.move f (fun b u hu z => ?_) h.st.pre (fun z => absurd z h5), h3, fun b hb => backW_inl (h4 b hb), h5⟩
    refine kp b u hu ?_
    rcases z with z | z
    · unfold cellW
      rw [h4 b z]
    · exact cellW_none (g.sr.notree b u hu z).2
  · obtain ⟨a, C, h1, h2, h3, h4, h5⟩ := h.sr.cel j o d q
    refine ⟨a, C, h1, by rw [← back_fz]; exact h2, h3, fun b hb => ?_, h5⟩
    rw [backW_else (by intro i y; have z := h4 b hb; rw [(hid b i y).1] at z; cases z)]
    exact h4 b hb
  · obtain ⟨z1, z2, z3⟩ := g.st.keep a u z n
    obtain ⟨y1, y2, y3⟩ := h.st.keep a u z1 (cellW_none z2)
    refine ⟨y1, ?_, y3⟩
    rw [backW_else (by intro i y; rw [z2] at y; cases y)]
    exact y2
theorem RepOL.seen {F : Hp} (f : Same F H) : ∀ {as : List Val} {A' : List Addr} {vs : List V}, RepOL k m F H as A' vs → RepL k m H vs (dsOf as)
  | _, _, _, .nil => .nil
  | _, _, _, .cons h r => .cons (h.see f) (RepOL.seen f r)
theorem dsOf_len (as : List Val) : (dsOf as).length = as.length := List.length_map ..
theorem callE_read {F : Fn} {f : Macs} {n : Nat} (hx : k.xr = none) (hn : ∀ s as s1 e, f s = .ok as s1 e → as.length = n) (h : tM k W (callE F f) σ H Q) : tMA k W f σ H fun vs H1 => spM k.K k.mg n F vs H1 Q (WE W σ) := by
  obtain ⟨P, w, m, s, r, h⟩ := h
  refine ⟨P, w, m, s, r, ?_⟩
  unfold callE at h
  cases q : f s with
  | err c ns l s' =>
    rw [q] at h
    exact h
  | bad =>
    rw [q] at h
    exact h
  | ok as s1 e1 =>
    rw [q] at h
    dsimp only at h
    cases c : anyBo as with
    | true =>
      rw [c] at h
      exact h.elim
    | false =>
      rw [c] at h
      have h : PostE k W P w m σ H Q (match F (dsOf as) s1.cells with | .ok a s2 _ => .ok a ⟨s1.env, s2.cells⟩ true | .err c ns l s2 => .err c ns l ⟨s1.env, s2.cells⟩ | .bad => .bad) := h
      intro vs H1 A w1 m1 g p
      refine ⟨k.xr, hideP P w1, cellW w1, m1, dsOf as, s1.cells, hx, cellW_inl w1, hide_sr g.sr, ?_, by rw [dsOf_len]; exact hn _ _ _ _ q, ?_⟩
      · rw [hide_fz]
        exact p.free g.fzl (g.give fun _ z => z) (fun _ z => z) c
      · cases q2 : F (dsOf as) s1.cells with
        | bad =>
          rw [q2] at h
          exact h
        | ok a s2 e2 =>
          rw [q2] at h
          intro v H' A' w' m' g2 p2
          have g2 : Stg k (hideP P w1) [] (cellW w1) m1 H1 A' w' m' H' ⟨[], s2.cells⟩ e2 := by
            have ln : s2.env = [] := List.eq_nil_of_length_eq_zero (by have := g2.sr.len; simpa using this)
            have es : s2 = ⟨[], s2.cells⟩ := by cases s2; simp at ln; rw [ln]
            rw [es] at g2
            exact g2
          exact h v H' A' _ m' (g.back g2) (by rw [← back_fz]; exact p2)
        | err c ns l s2 =>
          rw [q2] at h
          intro C dd xs H' w' m' e1 e2 e3 e4 e5 e6
          have ln : s2.env = [] := List.eq_nil_of_length_eq_zero (by have := e5.len; simpa using this)
          have es : s2 = ⟨[], s2.cells⟩ := by cases s2; simp at ln; rw [ln]
          rw [es] at e5
          have g2 : Stg k (hideP P w1) [] (cellW w1) m1 H1 [] w' m' H' ⟨[], s2.cells⟩ true := ⟨by rw [plus_nil]; exact e5, e6, List.nodup_nil, fun z => (nomatch z), by simp⟩
          have g3 := g.back g2
          refine h C dd xs H' (backW w1 w') m' e1 e2 e3 ?_ g3.srn g3.st
          have z := back_fz (P := P) (w := w1) (A' := []) (w' := w') (H' := H')
          rw [plus_nil, plus_nil] at z
          rw [← z]
          exact e4
/-- nothing is the callee's -/
theorem none_sr (P' : Addr → Prop) (r : SR k (plus A P) w m σ H s) (l : ∀ a, P' a → P a ∨ w a ≠ none) : SR k P' (fun _ => none) m [] H ⟨[], s.cells.map fun _ => none⟩ := by
  refine ⟨?_, fun _ _ => rfl, rfl, by rw [List.length_map]; exact r.mlen, fun i o d h => by simp at h, fun j o d h => ?_⟩
  · rintro a (z | z)
    · exact r.wr a ((l a z).imp .inr id)
    · exact absurd rfl z
  · have h : (s.cells.map fun _ => (none : Ent))[j]? = some (some ⟨o, d⟩) := h
    rw [List.getElem?_map] at h
    obtain ⟨_, _, z⟩ := Option.map_eq_some_iff.mp h
    cases z
theorem pre_eq {m m' : List Addr} (p : Pre m m') (l : m'.length = m.length) : m' = m := by
  apply List.ext_getElem?
  intro n
  by_cases c : n < m.length
  · rw [List.getElem?_eq_getElem c]
    exact p n _ (List.getElem?_eq_getElem c)
  · rw [List.getElem?_eq_none (by omega), List.getElem?_eq_none (by omega)]
def hideA (P : Addr → Prop) (w : Ow) : Addr → Prop := fun a => P a ∨ w a ≠ none
theorem hideA_fz : fz (hideA P w) (fun _ => none) H = fz P w H := by
  funext a
  unfold fz
  by_cases c : P a ∨ w a ≠ none
  · rw [if_pos c, if_pos (.inl c)]
  · rw [if_neg c, if_neg]
    rintro (z | z)
    · exact c z
    · exact z rfl
/-- the state as it was, with something new at hand -/
theorem Stg.over {A' : List Addr} {w' : Ow} {m' : List Addr} {H' : Hp} {cs : List Ent} {P' : Addr → Prop} (g : Stg k P σ w0 m0 H0 A w m H s e) (h : Stg k P' [] (fun _ => none) m H A' w' m' H' ⟨[], cs⟩ e2) :
    Stg k P σ w0 m0 H0 A' w m H' s e := by
  have new : ∀ a ∈ A', H a = none := fun a z => by
    cases q : H a with
    | none => rfl
    | some u => exact absurd z (h.st.keep a u q rfl).2.2
  have sm : Same H H' := fun a u z => (h.st.keep a u z rfl).1
  have r := g.bare.sr.same (A := A') sm new (fun a z => h.sr.wr a (.inl (.inl z)))
  rw [plus_nil] at r
  refine ⟨r, ⟨fun a u z n => ?_, g.st.pre⟩, h.nd, fun z => ?_, fun a z y => ?_⟩
  · obtain ⟨h1, h2, h3⟩ := g.st.keep a u z n
    exact ⟨sm a u h1, h2, fun y => by rw [new a y] at h1; cases h1⟩
  · obtain ⟨f1, f2, f3⟩ := g.fl z
    exact ⟨Same.trans f1 sm, f2, f3⟩
  · obtain ⟨u, hu, _⟩ := g.sr.wr a (.inl (.inr y))
    rw [new a z] at hu
    cases hu
theorem callP_read {F : Fn} {f : Macs} {n : Nat} (hx : k.xr = none) (hn : ∀ s as s1 e, f s = .ok as s1 e → as.length = n) (h : tM k W (callP F f) σ H Q) : tMA k W f σ H fun vs H1 => spM k.K k.mg n F vs H1 Q (WE W σ) := by
  obtain ⟨P, w, m, s, r, h⟩ := h
  refine ⟨P, w, m, s, r, ?_⟩
  unfold callP at h
  cases q : f s with
  | err c ns l s' =>
    rw [q] at h
    exact h
  | bad =>
    rw [q] at h
    exact h
  | ok as s1 e1 =>
    rw [q] at h
    dsimp only at h
    cases c : anyBo as with
    | true =>
      rw [c] at h
      exact h.elim
    | false =>
      rw [c] at h
      have h : PostE k W P w m σ H Q (match F (dsOf as) (s1.cells.map fun _ => none) with | .ok a s2 _ => bif decide (s2.cells.length = s1.cells.length) then .ok a s1 e1 else .bad | .err c ns l s2 => bif decide (s2.cells.length = s1.cells.length) then .err c ns l s1 else .bad | .bad => .bad) := h
      intro vs H1 A w1 m1 g p
      refine ⟨k.xr, hideA P w1, fun _ => none, m1, dsOf as, s1.cells.map fun _ => none, hx, by simp, none_sr _ g.sr fun a z => z, ?_, by rw [dsOf_len]; exact hn _ _ _ _ q, ?_⟩
      · rw [hideA_fz]
        exact p.free g.fzl (g.give fun _ z => z) (fun _ z => z) c
      · have fzq : ∀ {A' : List Addr} {w' : Ow} {H' : Hp}, Same (fz (plus A' (hideA P w1)) w' H') (fz (plus A' P) w1 H') := fun {A' w' H'} => fz_step fun b u hu z1 z2 => ⟨hu, fun z => z1 (z.imp id .inl), by
          cases y : w1 b with
          | none => rfl
          | some x => exact absurd (.inr (.inr (by rw [y]; simp))) z1⟩
        cases q2 : F (dsOf as) (s1.cells.map fun _ => none) with
        | bad =>
          rw [q2] at h
          exact h
        | ok a s2 e2 =>
          rw [q2] at h
          dsimp only at h
          intro v H' A' w' m' g2 p2
          by_cases cl : s2.cells.length = s1.cells.length
          · rw [decide_eq_true cl] at h
            have ln : s2.env = [] := List.eq_nil_of_length_eq_zero (by have := g2.sr.len; simpa using this)
            have es : s2 = ⟨[], s2.cells⟩ := by cases s2; simp at ln; rw [ln]
            rw [es] at g2
            have em : m' = m1 := pre_eq g2.st.pre (by rw [← g2.sr.mlen, ← g.sr.mlen]; exact cl)
            have g3 := g.over g2
            subst em
            by_cases bo : a.o = .bo
            · refine h v H' A' w1 m' g3 ?_
              rw [bo] at p2 ⊢
              cases p2 with
              | bo z => exact .bo z
            · exact h v H' A' w1 m' g3 (p2.move fzq (fun _ _ z _ => z) Pre.refl fun z => absurd z bo)
          · rw [decide_eq_false cl] at h
            exact h.elim
        | err c ns l s2 =>
          rw [q2] at h
          dsimp only at h
          intro C dd xs H' w' m' e1 e2 e3 e4 e5 e6
          by_cases cl : s2.cells.length = s1.cells.length
          · rw [decide_eq_true cl] at h
            have ln : s2.env = [] := List.eq_nil_of_length_eq_zero (by have := e5.len; simpa using this)
            have es : s2 = ⟨[], s2.cells⟩ := by cases s2; simp at ln; rw [ln]
            rw [es] at e5
            have em : m' = m1 := pre_eq e6.pre (by rw [← e5.mlen, ← g.sr.mlen]; exact cl)
            subst em
            have g2 : Stg k (hideA P w1) [] (fun _ => none) m' H1 [] w' m' H' ⟨[], s2.cells⟩ true := ⟨by rw [plus_nil]; exact e5, e6, List.nodup_nil, fun z => (nomatch z), by simp⟩
            have g3 := g.over g2
            refine h C dd xs H' w1 m' e1 e2 e3 (e4.mono ?_ Pre.refl) g3.srn g3.st
            have z := fzq (A' := []) (w' := w') (H' := H')
            rw [plus_nil, plus_nil] at z
            exact z
          · rw [decide_eq_false cl] at h
            exact h.elim
theorem seen_sr (r : SR k (plus A P) w m σ H s) : SR k (fun _ => False) (fun _ => none) m [] H ⟨[], s.cells.map shC⟩ := by
  refine ⟨?_, fun _ z => z.elim, rfl, by rw [List.length_map]; exact r.mlen, fun i o d h => by simp at h, fun j o d h => ?_⟩
  · rintro a (z | z)
    · exact z.elim
    · exact absurd rfl z
  · have h : (s.cells.map shC)[j]? = some (some ⟨o, d⟩) := h
    rw [List.getElem?_map] at h
    obtain ⟨x, h1, h2⟩ := Option.map_eq_some_iff.mp h
    cases x with
    | none => cases h2
    | some y =>
      cases h2
      obtain ⟨a, C, e1, e2, e3, e4, e5⟩ := r.cel j y.o y.d h1
      refine ⟨a, [], e1, .sh ?_, List.nodup_nil, by simp, by intro z; cases z⟩
      refine (e2.see fz_same).mono (fun b u hu => ?_) Pre.refl
      rw [fz_at (fun z => z) rfl]
      exact hu
theorem callV_read {F : Fn} {f : Macs} {n : Nat} (hx : k.xr = none) (hn : ∀ s as s1 e, f s = .ok as s1 e → as.length = n) (h : tM k W (callV F f) σ H Q) : tMA k W f σ H fun vs H1 => spM k.K k.mg n F vs H1 Q (WE W σ) := by
  obtain ⟨P, w, m, s, r, h⟩ := h
  refine ⟨P, w, m, s, r, ?_⟩
  unfold callV at h
  cases q : f s with
  | err c ns l s' =>
    rw [q] at h
    exact h
  | bad =>
    rw [q] at h
    exact h
  | ok as s1 e1 =>
    rw [q] at h
    dsimp only at h
    intro vs H1 A w1 m1 g p
    refine ⟨k.xr, fun _ => False, fun _ => none, m1, dsOf as, s1.cells.map shC, hx, by simp, seen_sr g.sr, ?_, by rw [dsOf_len]; exact hn _ _ _ _ q, ?_⟩
    · refine (p.seen fz_same).mono (fun b u hu => ?_) Pre.refl
      rw [fz_at (fun z => z) rfl]
      exact hu
    · cases q2 : F (dsOf as) (s1.cells.map shC) with
      | bad =>
        rw [q2] at h
        exact h
      | err c ns l s2 =>
        rw [q2] at h
        exact h.elim
      | ok a s2 e2 =>
        rw [q2] at h
        dsimp only at h
        cases c : (decide (s2.cells.length = s1.cells.length) && (decide (a.o = .al) || imm a.d)) with
        | false =>
          rw [c] at h
          exact h.elim
        | true =>
          rw [c] at h
          obtain ⟨c1, c2⟩ := Bool.and_eq_true_iff.mp c
          have cl := of_decide_eq_true c1
          intro v H' A' w' m' g2 p2
          have ln : s2.env = [] := List.eq_nil_of_length_eq_zero (by have := g2.sr.len; simpa using this)
          have es : s2 = ⟨[], s2.cells⟩ := by cases s2; simp at ln; rw [ln]
          rw [es] at g2
          have em : m' = m1 := pre_eq g2.st.pre (by rw [← g2.sr.mlen, ← g.sr.mlen]; exact cl)
          have g3 := g.over g2
          subst em
          by_cases al : a.o = .al
          · rw [al] at p2
            cases p2 with
            | al z => exact h v H' A' w1 m' g3 (.al z)
          · have im : imm a.d = true := by
              rcases Bool.or_eq_true_iff.mp c2 with z | z
              · exact absurd (of_decide_eq_true z) al
              · exact z
            exact h v H' [] w1 m' g3.bare (.al (.imm (p2.see fz_same) im))
theorem aNil_n : ∀ s as s1 e, aNil s = .ok as s1 e → as.length = 0 := fun s as s1 e h => by cases h; rfl
theorem aCons_n {f : Mac} {g : Macs} {n : Nat} (h : ∀ s as s1 e, g s = .ok as s1 e → as.length = n) : ∀ s as s1 e, aCons f g s = .ok as s1 e → as.length = n + 1 := fun s as s1 e q => by
  unfold aCons at q
  cases q1 : f s with
  | ok a s2 e2 =>
    rw [q1] at q
    dsimp only at q
    cases q2 : g s2 with
    | ok as2 s3 e3 =>
      rw [q2] at q
      dsimp only at q
      cases c : (e3 && decide (a.o = .bo)) with
      | true => rw [c] at q; cases q
      | false =>
        rw [c] at q
        cases q
        rw [List.length_cons, h _ _ _ _ q2]
    | err _ _ _ _ => rw [q2] at q; cases q
    | bad => rw [q2] at q; cases q
  | err _ _ _ _ => rw [q1] at q; cases q
  | bad => rw [q1] at q; cases q
/-- the three ways to call -/
inductive Cw where
  | e | p | v
def callM (c : Cw) (F : Fn) (f : Macs) : Mac := match c with
  | .e => callE F f
  | .p => callP F f
  | .v => callV F f
theorem callM_read {c : Cw} {F : Fn} {f : Macs} {n : Nat} (hx : k.xr = none) (hn : ∀ s as s1 e, f s = .ok as s1 e → as.length = n) (h : tM k W (callM c F f) σ H Q) : tMA k W f σ H fun vs H1 => spM k.K k.mg n F vs H1 Q (WE W σ) := by
  cases c
  · exact callE_read hx hn h
  · exact callP_read hx hn h
  · exact callV_read hx hn h
/-- a def of the program -/
abbrev Df (P : Program) (w : World) (K : PySem.W.Frag) (mg : Str → Option Value) (base : Heap) (j : Nat) (x : Str) (st : Stmt) (ps : List Str) (F : Fn) : Prop := Dn P w K mg base j x st ps (spM K mg ps.length F)
theorem pe_clM (c : Cw) {j : Nat} {x : Str} {st : Stmt} {ps : List Str} {F : Fn} {p pos : Pos} {e : Expr} {es : List Expr} {f : Macs} (D : Df X.prog X.w X.K X.mg X.base j x st ps F) (b : Bd x st ps) (hr : Room j X.A) (tk : Takes X W) (ha : PA X (e :: es) (tMA k W f)) (hn : ∀ s as s1 e, f s = .ok as s1 e → as.length = ps.length) (hx : k.xr = none := by rfl) (hK : k.K = X.K := by rfl) (hm : k.mg = X.mg := by rfl) (hg : Gl X x := by rfl) (hdb : (x == ("__debug__" : Str)) = false := by decide)
    (he : starEach (e :: es) X.env = (false, eval e X.env) :: starEach es X.env := by rfl) (hpl : (backTo pos (starEach es X.env)).any (·.1) = false := by rfl) :
    PE X (.Call (.Name x p) (e :: es) [] pos) (tM k W (callM c F f)) := pe_mono (pe_clS D b hr tk ha hg hdb he hpl) fun σ H Q h => by
  have z := callM_read hx hn h
  rw [hK, hm] at z
  exact z
theorem pe_cl0M (c : Cw) {j : Nat} {x : Str} {st : Stmt} {F : Fn} {p pos : Pos} (D : Df X.prog X.w X.K X.mg X.base j x st [] F) (b : Bd x st []) (hr : Room j X.A) (tk : Takes X W) (hx : k.xr = none := by rfl) (hK : k.K = X.K := by rfl) (hm : k.mg = X.mg := by rfl) (hg : Gl X x := by rfl) (hdb : (x == ("__debug__" : Str)) = false := by decide) :
    PE X (.Call (.Name x p) [] [] pos) (tM k W (callM c F aNil)) := by
  obtain ⟨f, fd, F, gm, G⟩ := D.ex
  refine ⟨fun pins s σ H Q I h => ?_⟩
  have z := aNil_read (callM_read hx aNil_n h)
  rw [hK, hm] at z
  refine wpAny_Call_Name_kw (ld_glob I hg gm ?_ hdb)
  exact PySem.W.callWith_K0 I.kIn G.kp (run_fnS (us := []) F hr (G.binds b) (passAt tk σ) I .nil z)
theorem pk_nilM : PK X [] (tMA k W aNil) := ⟨fun pos pins s σ H Q I h => pk_nil.run pos pins s σ H Q I (aNil_read h)⟩
theorem pk_consM {f : Mac} {g : Macs} {e : Expr} {kws : List Keyword} {nm : Option Str} {kpos : Pos} (ha : PE X e (tM k W f)) (hr : PK X kws (tMA k W g)) : PK X (⟨nm, e, kpos⟩ :: kws) (tMA k W (aCons f g)) := ⟨fun pos pins s σ H Q I h => (pk_cons ha hr).run pos pins s σ H Q I (aCons_read h)⟩
/-- an order of arguments, by places -/
def byIx (is : List Nat) {α : Type} (l : List α) : List α := is.filterMap fun i => l[i]?
theorem RepOL.at {F : Hp} : ∀ {as : List Val} {A : List Addr} {vs : List V} {i : Nat} {a : Val}, RepOL k m F H as A vs → as[i]? = some a → ∃ v A', vs[i]? = some v ∧ (∀ b ∈ A', b ∈ A) ∧ RepO k m F H a.o A' v a.d
  | _, _, _, _, _, .nil, h => by simp at h
  | _, _, _, 0, _, .cons h _, e => by
    simp at e
    subst e
    exact ⟨_, _, rfl, fun b z => by simp [z], h⟩
  | _, _, _, i + 1, _, .cons _ r, e => by
    obtain ⟨v, A', h1, h2, h3⟩ := RepOL.at (i := i) r (by simpa using e)
    exact ⟨v, A', by simpa using h1, fun b z => by simp [h2 b z], h3⟩
theorem byIx_rep {F : Hp} {vs : List V} {ds : List MM.D} : ∀ {is : List Nat}, RepL k m F vs ds → (∀ i ∈ is, i < ds.length) → RepL k m F (byIx is vs) (byIx is ds)
  | [], _, _ => .nil
  | i :: is, h, l => by
    have lt := l i (by simp)
    obtain ⟨v, h1, h2⟩ := h.get (List.getElem?_eq_getElem lt)
    have e1 : byIx (i :: is) vs = v :: byIx is vs := by
      show (i :: is).filterMap _ = _
      rw [List.filterMap_cons_some h1]
      rfl
    have e2 : byIx (i :: is) ds = ds[i] :: byIx is ds := by
      show (i :: is).filterMap _ = _
      rw [List.filterMap_cons_some (List.getElem?_eq_getElem lt)]
      rfl
    rw [e1, e2]
    exact .cons h2 (byIx_rep h fun j hj => l j (by simp [hj]))
theorem byIx_len {α : Type} {l : List α} : ∀ {is : List Nat}, (∀ i ∈ is, i < l.length) → (byIx is l).length = is.length
  | [], _ => rfl
  | i :: is, h => by
    have e1 : byIx (i :: is) l = l[i]'(h i (by simp)) :: byIx is l := by
      show (i :: is).filterMap _ = _
      rw [List.filterMap_cons_some (List.getElem?_eq_getElem (h i (by simp)))]
      rfl
    rw [e1, List.length_cons, List.length_cons, byIx_len fun j hj => h j (by simp [hj])]
theorem byIx_vals {vs : List V} {us : List Value} : ∀ {is : List Nat}, Vals vs us → (∀ i ∈ is, i < vs.length) → Vals (byIx is vs) (byIx is us)
  | [], _, _ => .nil
  | i :: is, h, l => by
    have lt := l i (by simp)
    obtain ⟨u, h1, h2⟩ := h.get (List.getElem?_eq_getElem lt)
    have e1 : byIx (i :: is) vs = vs[i] :: byIx is vs := by
      show (i :: is).filterMap _ = _
      rw [List.filterMap_cons_some (List.getElem?_eq_getElem lt)]
      rfl
    have e2 : byIx (i :: is) us = u :: byIx is us := by
      show (i :: is).filterMap _ = _
      rw [List.filterMap_cons_some h1]
      rfl
    rw [e1, e2]
    exact .cons h2 (byIx_vals h fun j hj => l j (by simp [hj]))
/-- the same def, its arguments told in another order -/
def permF (is : List Nat) (F : Fn) : Fn := fun ds cs => F (byIx is ds) cs
theorem spM_perm {K : PySem.W.Frag} {mg : Str → Option Value} {n : Nat} {F : Fn} {vs : List V} {E : XK} {is : List Nat} (hi : ∀ i ∈ is, i < n) (hl : is.length = n) (h : spM K mg n (permF is F) vs H Q E) : spM K mg n F (byIx is vs) H Q E := by
  obtain ⟨xr, P, w, m, ds, cs, hx, n0, r, p, ln, h⟩ := h
  exact ⟨xr, P, w, m, byIx is ds, cs, hx, n0, r, byIx_rep p (by rw [ln]; exact hi), by rw [byIx_len (by rw [ln]; exact hi)]; exact hl, h⟩
theorem pe_clKM (c : Cw) {is : List Nat} {j : Nat} {x : Str} {st : Stmt} {ps ks : List Str} {F : Fn} {p pos : Pos} {kws : List Keyword} {f : Macs} (D : Df X.prog X.w X.K X.mg X.base j x st ps F) (b : Bk x st ps ks (fun {α} => @byIx is α)) (hr : Room j X.A) (tk : Takes X W) (ha : PK X kws (tMA k W f)) (hn : ∀ s as s1 e, f s = .ok as s1 e → as.length = ps.length) (hi : (is.all fun i => decide (i < ps.length)) = true) (hl : is.length = ps.length) (hks : ks.length = ps.length)
    (hx : k.xr = none := by rfl) (hK : k.K = X.K := by rfl) (hm : k.mg = X.mg := by rfl) (hg : Gl X x := by rfl)
    (hall : (backToKw pos (keywordEach kws X.env)).all (·.1.isSome) = true := by rfl) (hk : (backToKw pos (keywordEach kws X.env)).filterMap (·.1) = ks := by rfl) (hdb : (x == ("__debug__" : Str)) = false := by decide)
    (hpl : ((backTo pos (starEach [] X.env)).any (·.1) || (backToKw pos (keywordEach kws X.env)).any (·.1.isNone)) = false := by rfl) :
    PE X (.Call (.Name x p) [] kws pos) (tM k W (callM c (permF is F) f)) := by
  have hi2 : ∀ i ∈ is, i < ps.length := fun i z => of_decide_eq_true (List.all_eq_true.mp hi i z)
  refine pe_mono (pe_clKS (g := fun {α} => @byIx is α) D b (fun {vs us} r l => byIx_vals r (by rw [l, hks]; exact hi2)) hr tk ha hg hall hk hdb hpl) fun σ H Q h => ?_
  refine tMA_mono (fun vs H1 z => ?_) (callM_read hx hn h)
  have l2 := spM_len z
  rw [hK, hm] at z
  exact ⟨by rw [l2, hks], spM_perm hi2 hl z⟩
end
end MM

/-! Changes: places within what is owned, lists that grow, shrink, are stored into. -/
namespace MM
open PySem PySem.Spec PyProof.Rows L2 GB
def kids : MM.D → Option (List MM.D)
  | .lst l => some l | .tup l => some l | .dct _ l => some l | .obj _ _ l => some l | _ => none
def withKids : MM.D → List MM.D → MM.D
  | .lst _, l => .lst l | .tup _, l => .tup l | .dct ks _, l => .dct ks l | .obj c ns _, l => .obj c ns l | d, _ => d
def subD : MM.D → List Nat → Option MM.D
  | d, [] => some d
  | d, i :: π => match kids d with
    | some l => match l[i]? with
      | some x => subD x π
      | none => none
    | none => none
def putD : MM.D → List Nat → MM.D → MM.D
  | _, [], x => x
  | d, i :: π, x => match kids d with
    | some l => match l[i]? with
      | some y => withKids d (l.set i (putD y π x))
      | none => d
    | none => d
/-- the items of an object -/
def itemsO : HO → Option (List V)
  | .lst xs => some xs | .tup xs => some xs | .dK kvs => some (kvs.map (·.2)) | .ins _ _ fs => some (fs.map (·.2)) | _ => none
inductive PathV (H : Hp) : V → List Nat → V → Prop
  | nil (v : V) : PathV H v [] v
  | cons {a : Addr} {o : HO} {xs : List V} {i : Nat} {π : List Nat} {x u : V} : H a = some o → itemsO o = some xs → xs[i]? = some x → PathV H x π u → PathV H (.ref a) (i :: π) u
section
variable {k : Ks} {W : WX} {P : Addr → Prop} {w w1 w2 w0 : Ow} {m m1 m2 m0 : List Addr} {σ σ1 : L2.St} {H H1 H2 H0 : Hp} {A B : List Addr} {e e2 : Bool} {s s1 : MSt} {X : Cx} {Q : VK}
theorem PathV.fn {v u u' : V} {π : List Nat} (h : PathV H v π u) (g : PathV H v π u') : u = u' := by
  induction h generalizing u' with
  | nil v => cases g; rfl
  | cons h1 h2 h3 _ ih =>
    cases g with
    | cons g1 g2 g3 g4 =>
      rw [h1] at g1
      cases g1
      rw [h2] at g2
      cases g2
      rw [h3] at g3
      cases g3
      exact ih g4
theorem PathV.mono {v u : V} {π : List Nat} (e : Same H H1) (h : PathV H v π u) : PathV H1 v π u := by
  induction h with
  | nil v => exact .nil v
  | cons h1 h2 h3 _ ih => exact .cons (e _ _ h1) h2 h3 ih
theorem PathV.app {v u : V} {π : List Nat} {a : Addr} {o : HO} {xs : List V} {i : Nat} (h : PathV H v π (.ref a)) (h1 : H a = some o) (h2 : itemsO o = some xs) (h3 : xs[i]? = some u) : PathV H v (π ++ [i]) u := by
  generalize e : V.ref a = r at h
  induction h with
  | nil v => subst e; exact .cons h1 h2 h3 (.nil _)
  | cons g1 g2 g3 _ ih => exact .cons g1 g2 g3 (ih e)
theorem subD_app {d' x : MM.D} {l : List MM.D} {i : Nat} : ∀ {π : List Nat} {d : MM.D}, subD d π = some d' → kids d' = some l → l[i]? = some x → subD d (π ++ [i]) = some x
  | [], d, h, h1, h2 => by
    cases h
    show (match kids d' with | some l => _ | none => none) = _
    rw [h1]
    dsimp only
    rw [h2]
    rfl
  | j :: π, d, h, h1, h2 => by
    unfold subD at h
    show (match kids d with | some l => _ | none => none) = _
    cases q : kids d with
    | none => rw [q] at h; cases h
    | some l' =>
      rw [q] at h
      dsimp only at h ⊢
      cases q2 : l'[j]? with
      | none => rw [q2] at h; cases h
      | some y =>
        rw [q2] at h
        exact subD_app h h1 h2
theorem zip_snd {α β : Type} : ∀ {a : List α} {b : List β}, a.length = b.length → (a.zip b).map (·.2) = b
  | [], [], _ => rfl
  | [], _ :: _, h => by cases h
  | _ :: _, [], h => by cases h
  | x :: a, y :: b, h => by
    rw [List.zip_cons_cons, List.map_cons, zip_snd (by simpa using h)]
theorem imm_kid {d x : MM.D} {l : List MM.D} {i : Nat} (h : imm d = true) (h1 : kids d = some l) (h2 : l[i]? = some x) : imm x = true := by
  cases d with
  | tup l' =>
    cases h1
    exact immL_at (show immL l = true from h) h2
  | lst l' => cases h
  | dct ks l' => cases h
  | obj c ns l' => cases h
  | _ => cases h1
theorem imm_sub : ∀ {π : List Nat} {d x : MM.D}, imm d = true → subD d π = some x → imm x = true
  | [], d, x, h, e => by cases e; exact h
  | i :: π, d, x, h, e => by
    unfold subD at e
    cases q : kids d with
    | none => rw [q] at e; cases e
    | some l =>
      rw [q] at e
      dsimp only at e
      cases q2 : l[i]? with
      | none => rw [q2] at e; cases e
      | some y =>
        rw [q2] at e
        exact imm_sub (imm_kid h q q2) e
/-- one item of an owned row, and the row with another in its place -/
theorem RepAL.focus : ∀ {l : List MM.D} {A : List Addr} {xs : List V} {i : Nat} {x : MM.D}, RepAL k m H A xs l → l[i]? = some x → ∃ v A1 A2 A3, xs[i]? = some v ∧ A = A1 ++ A2 ++ A3 ∧ RepA k m H A2 v x ∧
    ∀ {m' : List Addr} {H' : Hp} {A' : List Addr} {v' : V} {x' : MM.D}, Pre m m' → Keep (A1 ++ A3) H H' → RepA k m' H' A' v' x' → RepAL k m' H' (A1 ++ A' ++ A3) (xs.set i v') (l.set i x')
  | [], _, _, _, _, _, h => by simp at h
  | d :: l, _, _, 0, x, .cons (A := A) (B := B) h r, e => by
    simp at e
    subst e
    refine ⟨_, [], A, B, rfl, rfl, h, fun p q z => ?_⟩
    exact .cons z (r.keep (q.sub (by simp)) p)
  | d :: l, _, _, i + 1, x, .cons (A := A) (B := B) (v := v0) (vs := vs0) h r, e => by
    obtain ⟨v, A1, A2, A3, h1, h2, h3, h4⟩ := RepAL.focus (i := i) r (by simpa using e)
    refine ⟨v, A ++ A1, A2, A3, by simpa using h1, by rw [h2]; simp [List.append_assoc], h3, ?_⟩
    intro m' H' A' v' x' p q z
    have c := RepAL.cons (h.keep (q.sub (by intro a z; simp [z])) p) (h4 p (q.sub (by intro a z; rcases List.mem_append.mp z with z | z <;> simp [z])) z)
    have c2 : A ++ (A1 ++ A' ++ A3) = A ++ A1 ++ A' ++ A3 := by simp [List.append_assoc]
    rw [c2] at c
    exact c
theorem set_same {α : Type} {l : List α} {i : Nat} {x : α} (h : l[i]? = some x) : l.set i x = l := by
  obtain ⟨lt, e⟩ := List.getElem?_eq_some_iff.mp h
  rw [← e]
  exact List.set_getElem_self lt
/-- what stands at a place in an owned tree, and the tree with another thing there -/
theorem RepA.focus : ∀ {π : List Nat} {A : List Addr} {v : V} {d x : MM.D}, RepA k m H A v d → subD d π = some x → MM.imm x = false → A.Nodup → ∃ u A1 A2 A3, A = A1 ++ A2 ++ A3 ∧ PathV H v π u ∧ RepA k m H A2 u x ∧
    ∀ {m' : List Addr} {H' : Hp} {A' : List Addr} {x' : MM.D}, Pre m m' → Keep (A1 ++ A3) H H' → RepA k m' H' A' u x' → RepA k m' H' (A1 ++ A' ++ A3) v (putD d π x')
  | [], A, v, d, x, h, e, _, _ => by
    cases e
    refine ⟨v, [], A, [], by simp, .nil v, h, fun _ _ z => ?_⟩
    rw [List.nil_append, List.append_nil]
    exact z
  | i :: π, A, v, d, x, h, e, ni, nd => by
    unfold subD at e
    cases q : kids d with
    | none => rw [q] at e; cases e
    | some l =>
      rw [q] at e
      dsimp only at e
      cases q2 : l[i]? with
      | none => rw [q2] at e; cases e
      | some y =>
        rw [q2] at e
        have pd : ∀ x', putD d (i :: π) x' = withKids d (l.set i (putD y π x')) := fun x' => by
          show (match kids d with | some l => _ | none => d) = _
          rw [q]
          dsimp only
          rw [q2]
        have same : ∀ {xs : List V} {u : V}, xs[i]? = some u → xs.set i u = xs := fun h => set_same h
        cases h with
        | imm h1 h2 =>
          exfalso
          have z := imm_sub (imm_kid h2 q q2) e
          rw [ni] at z
          cases z
        | @lst a AL xs _ h1 r =>
          cases q
          obtain ⟨v1, B1, B2, B3, e1, e2, e3, e4⟩ := r.focus q2
          obtain ⟨nda, ndl⟩ := List.nodup_cons.mp nd
          have nd2 : B2.Nodup := by
            rw [e2] at ndl
            exact (List.nodup_append.mp (List.nodup_append.mp ndl).1).2.1
          obtain ⟨u, C1, C2, C3, f1, f2, f3, f4⟩ := RepA.focus e3 e ni nd2
          refine ⟨u, a :: (B1 ++ C1), C2, C3 ++ B3, by rw [e2, f1]; simp [List.append_assoc], .cons h1 rfl e1 f2, f3, ?_⟩
          intro m' H' A' x' p kp z
          rw [pd]
          have z1 := f4 p (kp.sub (by intro b hb; rcases List.mem_append.mp hb with hb | hb <;> simp [hb])) z
          have z2 := e4 p (kp.sub (by intro b hb; rcases List.mem_append.mp hb with hb | hb <;> simp [hb])) z1
          rw [same e1] at z2
          have z3 := RepA.lst (kp _ _ h1 (.inl (by simp))) z2
          have c2 : a :: (B1 ++ (C1 ++ A' ++ C3) ++ B3) = a :: (B1 ++ C1) ++ A' ++ (C3 ++ B3) := by simp [List.append_assoc]
          rw [c2] at z3
          exact z3
        | @tup a AL xs _ h1 r =>
          cases q
          obtain ⟨v1, B1, B2, B3, e1, e2, e3, e4⟩ := r.focus q2
          have nd2 : B2.Nodup := by
            rw [e2] at nd
            exact (List.nodup_append.mp (List.nodup_append.mp nd).1).2.1
          obtain ⟨u, C1, C2, C3, f1, f2, f3, f4⟩ := RepA.focus e3 e ni nd2
          refine ⟨u, B1 ++ C1, C2, C3 ++ B3, by rw [e2, f1]; simp [List.append_assoc], .cons h1 rfl e1 f2, f3, ?_⟩
          intro m' H' A' x' p kp z
          rw [pd]
          have z1 := f4 p (kp.sub (by intro b hb; rcases List.mem_append.mp hb with hb | hb <;> simp [hb])) z
          have z2 := e4 p (kp.sub (by intro b hb; rcases List.mem_append.mp hb with hb | hb <;> simp [hb])) z1
          rw [same e1] at z2
          have z3 := RepA.tup (kp _ _ h1 (.inr (by intro z; exact z))) z2
          have c2 : B1 ++ (C1 ++ A' ++ C3) ++ B3 = (B1 ++ C1) ++ A' ++ (C3 ++ B3) := by simp [List.append_assoc]
          rw [c2] at z3
          exact z3
        | @dct a AL ks xs _ h1 hn r =>
          cases q
          obtain ⟨v1, B1, B2, B3, e1, e2, e3, e4⟩ := r.focus q2
          obtain ⟨nda, ndl⟩ := List.nodup_cons.mp nd
          have nd2 : B2.Nodup := by
            rw [e2] at ndl
            exact (List.nodup_append.mp (List.nodup_append.mp ndl).1).2.1
          obtain ⟨u, C1, C2, C3, f1, f2, f3, f4⟩ := RepA.focus e3 e ni nd2
          refine ⟨u, a :: (B1 ++ C1), C2, C3 ++ B3, by rw [e2, f1]; simp [List.append_assoc], .cons h1 (show some ((ks.zip xs).map (·.2)) = some xs by rw [zip_snd hn]) e1 f2, f3, ?_⟩
          intro m' H' A' x' p kp z
          rw [pd]
          have z1 := f4 p (kp.sub (by intro b hb; rcases List.mem_append.mp hb with hb | hb <;> simp [hb])) z
          have z2 := e4 p (kp.sub (by intro b hb; rcases List.mem_append.mp hb with hb | hb <;> simp [hb])) z1
          rw [same e1] at z2
          have z3 := RepA.dct (kp _ _ h1 (.inl (by simp))) hn z2
          have c2 : a :: (B1 ++ (C1 ++ A' ++ C3) ++ B3) = a :: (B1 ++ C1) ++ A' ++ (C3 ++ B3) := by simp [List.append_assoc]
          rw [c2] at z3
          exact z3
        | @obj a C dx AL c ns xs _ hc h1 hn r =>
          cases q
          obtain ⟨v1, B1, B2, B3, e1, e2, e3, e4⟩ := r.focus q2
          obtain ⟨nda, ndl⟩ := List.nodup_cons.mp nd
          have nd2 : B2.Nodup := by
            rw [e2] at ndl
            exact (List.nodup_append.mp (List.nodup_append.mp ndl).1).2.1
          obtain ⟨u, C1, C2, C3, f1, f2, f3, f4⟩ := RepA.focus e3 e ni nd2
          refine ⟨u, a :: (B1 ++ C1), C2, C3 ++ B3, by rw [e2, f1]; simp [List.append_assoc], .cons h1 (show some ((ns.zip xs).map (·.2)) = some xs by rw [zip_snd hn]) e1 f2, f3, ?_⟩
          intro m' H' A' x' p kp z
          rw [pd]
          have z1 := f4 p (kp.sub (by intro b hb; rcases List.mem_append.mp hb with hb | hb <;> simp [hb])) z
          have z2 := e4 p (kp.sub (by intro b hb; rcases List.mem_append.mp hb with hb | hb <;> simp [hb])) z1
          rw [same e1] at z2
          have z3 := RepA.obj hc (kp _ _ h1 (.inl (by simp))) hn z2
          have c2 : a :: (B1 ++ (C1 ++ A' ++ C3) ++ B3) = a :: (B1 ++ C1) ++ A' ++ (C3 ++ B3) := by simp [List.append_assoc]
          rw [c2] at z3
          exact z3
end
end MM

/-! Lists that are changed. -/
namespace MM
open PySem PySem.Spec PyProof.Rows L2 GB
section
variable {k : Ks} {W : WX} {P : Addr → Prop} {w w1 w2 w0 : Ow} {m m1 m2 m0 : List Addr} {σ σ1 : L2.St} {H H1 H2 H0 : Hp} {A B : List Addr} {e e2 : Bool} {s s1 : MSt} {X : Cx} {Q : VK} {q : Nat ⊕ Nat} {π : List Nat} {u v : V} {d : MM.D} {l : List MM.D}
theorem RepAL.row_wr {AL : List Addr} {xs : List V} (h : RepAL k m H AL xs l) : ∀ b ∈ AL, ∃ o, H b = some o ∧ Wr o := h.wr
/-- an owned list within an owned tree is changed -/
theorem upd_al (g : Stg k P σ w0 m0 H0 A w m H s e) (he : ent s q = some ⟨.al, d⟩) (hv : valAt σ m q = some v) (hp : PathV H v π u) (hs : subD d π = some (.lst l)) :
    ∃ c xs AL, u = .ref c ∧ H c = some (.lst xs) ∧ RepAL k m H AL xs l ∧ (c :: AL).Nodup ∧ w c = some q ∧ (∀ b ∈ AL, w b = some q) ∧
      ∀ (xs' : List V) (l' : List MM.D) (AL' B : List Addr), RepAL k m (upd H c (.lst xs')) AL' xs' l' → AL'.Nodup → (∀ b ∈ AL', b ∈ AL ∨ b ∈ A) → B.Nodup → (∀ b ∈ B, (b ∈ AL ∨ b ∈ A) ∧ b ∉ AL') →
        ∃ w', Stg k P σ w0 m0 H0 B w' m (upd H c (.lst xs')) (put s q (some ⟨.al, putD d π (.lst l')⟩)) true := by
  obtain ⟨v', Aq, h1, h2, h3, h4, _⟩ := g.sr.ent he
  rw [hv] at h1
  cases h1
  cases h2 with
  | al h2 =>
    obtain ⟨u', A1, A2, A3, e1, e2, e3, e4⟩ := h2.focus hs rfl h3
    obtain rfl := hp.fn e2
    cases e3 with
    | imm _ z => cases z
    | @lst c AL xs _ hc r =>
      have nd : (A1 ++ (c :: AL) ++ A3).Nodup := by rw [← e1]; exact h3
      have nd1 := List.nodup_append.mp nd
      have nd2 := List.nodup_append.mp nd1.1
      have nd3 := List.nodup_cons.mp nd2.2.1
      have wq : ∀ b, (b ∈ A1 ∨ b = c ∨ b ∈ AL ∨ b ∈ A3) → w b = some q := fun b z => h4 b (by
        rw [e1]
        rcases z with z | z | z | z <;> simp [z])
      refine ⟨c, xs, AL, rfl, hc, r, nd2.2.1, wq c (by simp), fun b z => wq b (by simp [z]), fun xs' l' AL' B r' nL sL nB sB => ?_⟩
      have wA : ∀ b ∈ A, w b = none := fun b z => g.sr.dis b (.inl z)
      have ncA : c ∉ A := fun z => by have := wA c z; rw [wq c (by simp)] at this; cases this
      have off1 : ∀ b, (b ∈ AL ∨ b ∈ A) → b ∉ A1 ∧ b ≠ c ∧ b ∉ A3 := fun b z => by
        rcases z with z | z
        · refine ⟨fun y => nd2.2.2 b y b (by simp [z]) rfl, fun y => nd3.1 (y ▸ z), fun y => nd1.2.2 b (by simp [z]) b y rfl⟩
        · have := wA b z
          refine ⟨fun y => ?_, fun y => ?_, fun y => ?_⟩
          · rw [wq b (.inl y)] at this; cases this
          · rw [wq b (.inr (.inl y))] at this; cases this
          · rw [wq b (.inr (.inr (.inr y)))] at this; cases this
      have kp : Keep (A1 ++ A3) H (upd H c (.lst xs')) := fun b o ho z => by
        rw [upd_ne]
        · exact ho
        · rintro rfl
          rcases z with z | z
          · rcases List.mem_append.mp z with z | z
            · exact nd2.2.2 b z b (by simp) rfl
            · exact nd1.2.2 b (by simp) b z rfl
          · rw [hc] at ho
            cases ho
            exact z trivial
      have tree := e4 Pre.refl kp (RepA.lst (upd_same (H := H) (a := c) (o := .lst xs')) r')
      have wrH : ∀ b, (b ∈ A ∨ w b = some q) → ∃ o, (upd H c (.lst xs')) b = some o ∧ Wr o := fun b z => by
        by_cases y : b = c
        · exact ⟨.lst xs', by rw [y]; exact upd_same, trivial⟩
        · obtain ⟨o, ho, wo⟩ := g.sr.wr b (z.elim (fun y => .inl (.inl y)) fun y => .inr (by rw [y]; simp))
          exact ⟨o, by rw [upd_ne y]; exact ho, wo⟩
      have memA' : ∀ b ∈ A1 ++ (c :: AL') ++ A3, b ∈ A ∨ w b = some q := fun b z => by
        rcases List.mem_append.mp z with z | z
        · rcases List.mem_append.mp z with z | z
          · exact .inr (wq b (.inl z))
          · rcases List.mem_cons.mp z with z | z
            · exact .inr (wq b (.inr (.inl z)))
            · exact (sL b z).elim (fun y => .inr (wq b (by simp [y]))) .inl
        · exact .inr (wq b (by simp [z]))
      have ndA' : (A1 ++ (c :: AL') ++ A3).Nodup := by
        rw [List.nodup_append, List.nodup_append, List.nodup_cons]
        refine ⟨⟨nd2.1, ⟨fun z => (off1 c (sL c z)).2.1 rfl, nL⟩, fun a ha b hb e => ?_⟩, nd1.2.1, fun a ha b hb e => ?_⟩
        · subst e
          rcases List.mem_cons.mp hb with rfl | hb
          · exact nd2.2.2 a ha a (by simp) rfl
          · exact (off1 a (sL a hb)).1 ha
        · subst e
          rcases List.mem_append.mp ha with ha | ha
          · exact nd1.2.2 a (by simp [ha]) a hb rfl
          · rcases List.mem_cons.mp ha with rfl | ha
            · exact nd1.2.2 a (by simp) a hb rfl
            · exact (off1 a (sL a ha)).2.2 hb
      refine ⟨_, g.put (q := q) (A' := A1 ++ (c :: AL') ++ A3) (B := B) (σ' := σ) (H' := upd H c (.lst xs')) (x := some ⟨.al, putD d π (.lst l')⟩) ?_ ?_ (fun b z => (memA' b z).imp id .inl) ?_ nB rfl (fun j hj => rfl) ?_ ?_⟩
      · intro b o ho z
        rw [upd_ne]
        · exact ho
        · rintro rfl
          exact z (wq b (by simp))
      · rintro b (z | z | z)
        · exact wrH b (memA' b z)
        · exact wrH b ((sB b z).1.elim (fun y => .inr (wq b (by simp [y]))) .inl)
        · exact wrH b (.inr z)
      · intro b z
        obtain ⟨y1, y2⟩ := sB b z
        refine ⟨y1.elim (fun y => .inr (.inl (wq b (by simp [y])))) .inl, fun y => ?_⟩
        obtain ⟨o1, o2, o3⟩ := off1 b y1
        rcases List.mem_append.mp y with y | y
        · rcases List.mem_append.mp y with y | y
          · exact o1 y
          · rcases List.mem_cons.mp y with y | y
            · exact o2 y
            · exact y2 y
        · exact o3 y
      · intro j hj z
        subst hj
        have hv : (m[j]?).map V.ref = some v := hv
        rw [z] at hv
        cases hv
      · rintro y hy
        cases hy
        exact ⟨v, hv, .al tree, ndA', by intro z; cases z⟩
/-- a list of its own is changed; its items are given up -/
theorem upd_sp {o : Own} (g : Stg k P σ w0 m0 H0 A w m H s e) (he : ent s q = some ⟨o, .lst l⟩) (ho : o = .al ∨ o = .sp) (hv : valAt σ m q = some v) :
    ∃ c xs, v = .ref c ∧ H c = some (.lst xs) ∧ w c = some q ∧ ∀ xs' : List V, RepL k m (fz P (own w q [c]) (upd H c (.lst xs'))) xs l ∧
      (∀ (as : List Val) (A' : List Addr) (vs : List V), RepOL k m (fz (plus A P) w H) H as A' vs → (∀ b ∈ A', b ∈ A) → anyBo as = false → RepL k m (fz P (own w q [c]) (upd H c (.lst xs'))) vs (dsOf as)) ∧
      ∀ l', RepL k m (fz P (own w q [c]) (upd H c (.lst xs'))) xs' l' → Stg k P σ w0 m0 H0 [] (own w q [c]) m (upd H c (.lst xs')) (put s q (some ⟨.sp, .lst l'⟩)) true := by
  obtain ⟨v', Aq, h1, h2, h3, h4, _⟩ := g.sr.ent he
  rw [hv] at h1
  cases h1
  have core : ∃ c xs, v = .ref c ∧ H c = some (.lst xs) ∧ w c = some q ∧ ∀ F', Same (fz (plus A P) w H) F' → Keep (Aq.filter (· ≠ c)) H F' → RepL k m F' xs l := by
    rcases ho with rfl | rfl
    · cases h2 with
      | al h2 =>
        cases h2 with
        | imm _ z => cases z
        | @lst c AL xs _ hc r =>
          refine ⟨c, xs, rfl, hc, h4 c (by simp), fun F' sm kp => r.rep (kp.sub fun b z => ?_)⟩
          have nd := List.nodup_cons.mp h3
          rw [List.mem_filter]
          refine ⟨by simp [z], by simp; rintro rfl; exact nd.1 z⟩
    · cases h2 with
      | @spl c xs _ hc r => exact ⟨c, xs, rfl, hc, h4 c (by simp), fun F' sm kp => r.mono sm Pre.refl⟩
  obtain ⟨c, xs, rfl, hc, wc, hr⟩ := core
  refine ⟨c, xs, rfl, hc, wc, fun xs' => ?_⟩
  have sm : Same (fz (plus A P) w H) (fz P (own w q [c]) (upd H c (.lst xs'))) := fz_step fun b o' hb n1 n2 => by
    have bc : b ≠ c := fun z => by rw [z, wc] at n2; cases n2
    exact ⟨by rw [upd_ne bc]; exact hb, fun z => n1 (.inr z), own_none (by simp [bc]) n2⟩
  have kpA : ∀ C : List Addr, (∀ b ∈ C, b ≠ c ∧ (b ∈ A ∨ w b = some q)) → Keep C H (fz P (own w q [c]) (upd H c (.lst xs'))) := fun C hC b o' hb z => by
    have nin : b ≠ c ∧ ¬ P b ∧ own w q [c] b = none := by
      rcases z with z | z
      · obtain ⟨z1, z2⟩ := hC b z
        refine ⟨z1, fun y => ?_, ?_⟩
        · rcases z2 with z2 | z2
          · exact g.off b z2 y
          · have := g.sr.dis b (.inr y); rw [z2] at this; cases this
        · rcases z2 with z2 | z2
          · exact own_none (by simp [z1]) (g.sr.dis b (.inl z2))
          · rw [own_out (by simp [z1]), if_pos z2]
      · have n := g.sr.notree b o' hb z
        have bc : b ≠ c := fun y => by rw [y, wc] at n; cases n.2
        exact ⟨bc, fun y => n.1 (.inr y), own_none (by simp [bc]) n.2⟩
    rw [fz_at nin.2.1 nin.2.2, upd_ne nin.1]
    exact hb
  refine ⟨hr _ sm (kpA _ fun b z => ?_), fun as A' vs p sub nb => ?_, fun l' r' => ?_⟩
  · obtain ⟨z1, z2⟩ := List.mem_filter.mp z
    exact ⟨by simpa using z2, .inr (h4 b z1)⟩
  · have free : ∀ {as : List Val} {A' : List Addr} {vs : List V}, RepOL k m (fz (plus A P) w H) H as A' vs → (∀ b ∈ A', b ∈ A) → anyBo as = false → RepL k m (fz P (own w q [c]) (upd H c (.lst xs'))) vs (dsOf as) := by
      intro as A' vs p
      induction p with
      | nil => exact fun _ _ => .nil
      | @cons a as C1 C2 v vs h r ih =>
        intro sub nb
        have n2 : (decide (a.o = .bo) || anyBo as) = false := nb
        obtain ⟨n3, n4⟩ := Bool.or_eq_false_iff.mp n2
        refine .cons (h.rep sm (kpA C1 fun b z => ?_) fun z => absurd z (of_decide_eq_false n3)) (ih (fun b z => sub b (by simp [z])) n4)
        have bA := sub b (by simp [z])
        exact ⟨fun y => (by have := g.sr.dis b (.inl bA); rw [y, wc] at this; cases this), .inl bA⟩
    exact free p sub nb
  · refine g.put (q := q) (A' := [c]) (B := []) (σ' := σ) (H' := upd H c (.lst xs')) (x := some ⟨.sp, .lst l'⟩) ?_ ?_ ?_ (by simp) List.nodup_nil rfl (fun j hj => rfl) ?_ ?_
    · intro b o' hb z
      rw [upd_ne]
      · exact hb
      · rintro rfl
        exact z wc
    · rintro b (z | z | z)
      · obtain rfl := List.mem_singleton.mp z
        exact ⟨_, upd_same, trivial⟩
      · simp at z
      · by_cases y : b = c
        · exact ⟨.lst xs', by rw [y]; exact upd_same, trivial⟩
        · obtain ⟨o', ho', wo⟩ := g.sr.wr b (.inr (by rw [z]; simp))
          exact ⟨o', by rw [upd_ne y]; exact ho', wo⟩
    · intro b z
      obtain rfl := List.mem_singleton.mp z
      exact .inr (.inl wc)
    · intro j hj z
      subst hj
      have hv : (m[j]?).map V.ref = some (.ref c) := hv
      rw [z] at hv
      cases hv
    · rintro y hy
      cases hy
      exact ⟨.ref c, hv, .spl upd_same (by rw [plus_nil]; exact r'), by simp, by intro z; cases z⟩
end
end MM

/-! The methods that change lists. -/
namespace MM
open PySem PySem.Spec PyProof.Rows L2 GB
abbrev Plc := MSt → Option ((Nat ⊕ Nat) × List Nat × MSt)
def plVar (i : Nat) : Plc := fun s => match s.env[i]? with
  | some (some ⟨_, .ref n⟩) => some (.inr n, [], s)
  | some (some _) => some (.inl i, [], s)
  | _ => none
def plIx (p : Plc) (f : Mac) : Plc := fun s => match p s with
  | some (q, π, s1) => match f s1 with
    | .ok a s2 false => match ent s2 q with
      | some ⟨.al, d⟩ => match subD d π, a.d.int? with
        | some (.lst l), some i => match ixN l.length i with
          | some j => match l[j]? with
            | some (.ref n) => some (.inr n, [], s2)
            | some _ => some (q, π ++ [j], s2)
            | none => none
          | none => none
        | _, _ => none
      | _ => none
    | _ => none
  | none => none
/-- the list at a place -/
def nodeL (s : MSt) (q : Nat ⊕ Nat) (π : List Nat) : Option (Own × MM.D × List MM.D) := match ent s q with
  | some ⟨o, d⟩ => match subD d π with
    | some (.lst l) => bif decide (o = .al) || (decide (o = .sp) && decide (π = [])) then some (o, d, l) else none
    | _ => none
  | none => none
abbrev UOp := (Nat ⊕ Nat) → List Nat → List Val → MSt → Res Val
/-- a method of a place -/
def eMut (p : Plc) (f : Macs) (op : UOp) : Mac := fun s => match p s with
  | some (q, π, s1) => match nodeL s1 q π with
    | some _ => match f s1 with
      | .ok as s2 e2 => bif e2 && decide (π ≠ []) then .bad else (op q π as s2).ef true
      | .err c ns l s2 => .err c ns l s2
      | .bad => .bad
    | none => .bad
  | none => .bad
open Classical in
noncomputable def small (l : List MM.D) : Bool := decide (l.length < 8000000)
noncomputable def uApp : UOp := fun q π as s => match as, nodeL s q π with
  | [a], some (o, d, l) => bif !small l then .bad else bif decide (o = .al) && decide (a.o = .al) then .ok ⟨.al, .non⟩ (put s q (some ⟨.al, putD d π (.lst (l ++ [a.d]))⟩)) true
    else bif decide (π = []) && decide (a.o ≠ .bo) then .ok ⟨.al, .non⟩ (put s q (some ⟨.sp, .lst (l ++ [a.d])⟩)) true else .bad
  | _, _ => .bad
def uPop : UOp := fun q π as s => match as, nodeL s q π with
  | [], some (o, d, l) => match l[l.length - 1]? with
    | some y => bif decide (o = .al) then .ok ⟨.al, y⟩ (put s q (some ⟨.al, putD d π (.lst l.dropLast)⟩)) true else .ok (itV y) (put s q (some ⟨.sp, .lst l.dropLast⟩)) true
    | none => .bad
  | _, _ => .bad
noncomputable def uPopAt : UOp := fun q π as s => match as, nodeL s q π with
  | [a], some (o, d, l) => match a.d.int? with
    | some i => match ixN l.length i with
      | some j => match l[j]? with
        | some y => bif !small l then .bad else bif decide (o = .al) then .ok ⟨.al, y⟩ (put s q (some ⟨.al, putD d π (.lst (l.eraseIdx j))⟩)) true else .ok (itV y) (put s q (some ⟨.sp, .lst (l.eraseIdx j)⟩)) true
        | none => .bad
      | none => .bad
    | none => .bad
  | _, _ => .bad
noncomputable def uExt : UOp := fun q π as s => match as, nodeL s q π with
  | [a], some (o, d, l) => match a.d with
    | .lst r => bif !small l || !small r then .bad else bif decide (o = .al) && (decide (a.o = .al) || immL r) then .ok ⟨.al, .non⟩ (put s q (some ⟨.al, putD d π (.lst (l ++ r))⟩)) true
      else bif decide (π = []) && decide (a.o ≠ .bo) then .ok ⟨.al, .non⟩ (put s q (some ⟨.sp, .lst (l ++ r)⟩)) true else .bad
    | _ => .bad
  | _, _ => .bad
noncomputable def uIns : UOp := fun q π as s => match as, nodeL s q π with
  | [i, a], some (o, d, l) => match i.d with
    | .int 0 => bif !small l then .bad else bif decide (o = .al) && decide (a.o = .al) then .ok ⟨.al, .non⟩ (put s q (some ⟨.al, putD d π (.lst (a.d :: l))⟩)) true
      else bif decide (π = []) && decide (a.o ≠ .bo) then .ok ⟨.al, .non⟩ (put s q (some ⟨.sp, .lst (a.d :: l)⟩)) true else .bad
    | _ => .bad
  | _, _ => .bad
/-- o[i] = a: the value, then the place, then the index -/
def uSet : UOp := fun q π as s => match as, nodeL s q π with
  | [a, i], some (o, d, l) => match i.d.int? with
    | some i => match ixN l.length i with
      | some j => bif decide (o = .al) && decide (a.o = .al) then .ok ⟨.al, .non⟩ (put s q (some ⟨.al, putD d π (.lst (l.set j a.d))⟩)) true
        else bif decide (π = []) && decide (a.o ≠ .bo) then .ok ⟨.al, .non⟩ (put s q (some ⟨.sp, .lst (l.set j a.d)⟩)) true else .bad
      | none => .bad
    | none => .bad
  | _, _ => .bad
section
variable {k : Ks} {W : WX} {P : Addr → Prop} {w w1 w2 w0 : Ow} {m m1 m2 m0 : List Addr} {σ σ1 : L2.St} {H H1 H2 H0 : Hp} {A B : List Addr} {e e2 : Bool} {s s1 s2 : MSt} {X : Cx} {Q : VK} {q : Nat ⊕ Nat} {π : List Nat} {u v : V} {d : MM.D} {l : List MM.D}
/-- a place is read: its list's address comes -/
def PlR (k : Ks) (W : WX) (p : Plc) (t : TE) : Prop := ∀ (σ : L2.St) (H : Hp) (Q : VK) (P : Addr → Prop) (w : Ow) (m : List Addr) (s : MSt) (q : Nat ⊕ Nat) (π : List Nat) (s1 : MSt), SR k P w m σ H s → p s = some (q, π, s1) →
  (∀ H1 v u, Stg k P σ w m H [] w m H1 s1 false → valAt σ m q = some v → PathV H1 v π u → Q u H1) → t σ H Q
theorem pl_var {i : Nat} : PlR k W (plVar i) (tVar i) := fun σ H Q P w m s q π s1 r h z => by
  unfold plVar at h
  cases q1 : s.env[i]? with
  | none => rw [q1] at h; cases h
  | some x =>
    cases x with
    | none => rw [q1] at h; cases h
    | some a =>
      obtain ⟨o, d⟩ := a
      obtain ⟨v, A, h1, h2, _⟩ := r.env i o d q1
      refine ⟨v, h1, ?_⟩
      rw [q1] at h
      cases d with
      | ref n =>
        cases h
        have see := h2.see fz_same
        cases see with
        | @ref _ a ha =>
          refine z H (.ref a) (.ref a) (.refl r) ?_ (.nil _)
          show (m[n]?).map V.ref = _
          rw [ha]
          rfl
      | _ =>
        cases h
        refine z H v v (.refl r) ?_ (.nil v)
        show (σ[i]?).bind id = some v
        rw [h1]
        rfl
theorem node_inv {o : Own} (h : nodeL s q π = some (o, d, l)) : ent s q = some ⟨o, d⟩ ∧ subD d π = some (.lst l) ∧ (o = .al ∨ (o = .sp ∧ π = [])) := by
  unfold nodeL at h
  cases q1 : ent s q with
  | none => rw [q1] at h; cases h
  | some x =>
    obtain ⟨o', d'⟩ := x
    rw [q1] at h
    dsimp only at h
    cases q2 : subD d' π with
    | none => rw [q2] at h; cases h
    | some y =>
      rw [q2] at h
      cases y with
      | lst l' =>
        dsimp only at h
        cases c : (decide (o' = .al) || (decide (o' = .sp) && decide (π = []))) with
        | false => rw [c] at h; cases h
        | true =>
          rw [c] at h
          cases h
          refine ⟨rfl, q2, ?_⟩
          rcases Bool.or_eq_true_iff.mp c with c | c
          · exact .inl (of_decide_eq_true c)
          · obtain ⟨c1, c2⟩ := Bool.and_eq_true_iff.mp c
            exact .inr ⟨of_decide_eq_true c1, of_decide_eq_true c2⟩
      | _ => cases h
/-- the list at a place, in the heap -/
theorem node_at {o : Own} (r : SR k P w m σ H s) (h : nodeL s q π = some (o, d, l)) (hv : valAt σ m q = some v) (hp : PathV H v π u) : ∃ c xs, u = .ref c ∧ H c = some (.lst xs) ∧ xs.length = l.length := by
  obtain ⟨h1, h2, h3⟩ := node_inv h
  have g := Stg.refl r
  rcases h3 with rfl | ⟨rfl, rfl⟩
  · obtain ⟨c, xs, AL, e1, e2, e3, _⟩ := upd_al g h1 hv hp h2
    exact ⟨c, xs, e1, e2, e3.len⟩
  · cases h2
    cases hp
    obtain ⟨c, xs, e1, e2, _, e3⟩ := upd_sp g h1 (.inr rfl) hv
    exact ⟨c, xs, e1, e2, (e3 []).1.len⟩
theorem pl_ix {p : Plc} {f : Mac} {t : TE} (hp : PlR k W p t) : PlR k W (plIx p f) (tOp (rIx k.K) t (tM k W f)) := fun σ H Q P w m s q π s1 r h z => by
  unfold plIx at h
  cases q1 : p s with
  | none => rw [q1] at h; cases h
  | some x =>
    obtain ⟨q', π', s'⟩ := x
    rw [q1] at h
    dsimp only at h
    refine hp σ H _ P w m s q' π' s' r q1 fun H1 v u g hv pv => ?_
    refine ⟨P, w, m, s', g.srn, ?_⟩
    cases q2 : f s' with
    | err _ _ _ _ => rw [q2] at h; cases h
    | bad => rw [q2] at h; cases h
    | ok a s2 e2 =>
      rw [q2] at h
      cases e2 with
      | true => cases h
      | false =>
        dsimp only at h
        cases q3 : ent s2 q' with
        | none => rw [q3] at h; cases h
        | some y =>
          obtain ⟨o, d⟩ := y
          rw [q3] at h
          cases o with
          | al =>
            dsimp only at h
            cases q4 : subD d π' with
            | none => rw [q4] at h; cases h
            | some nd =>
              rw [q4] at h
              cases nd with
              | lst l =>
                cases q5 : a.d.int? with
                | none => rw [q5] at h; cases h
                | some i =>
                  rw [q5] at h
                  dsimp only at h
                  cases q6 : ixN l.length i with
                  | none => rw [q6] at h; cases h
                  | some j =>
                    rw [q6] at h
                    dsimp only at h
                    intro y H2 A2 w2 m2 g2 py
                    obtain ⟨sm, rfl, rfl⟩ := g2.fl rfl
                    have g3 : Stg k P σ w2 m2 H [] w2 m2 H2 s2 false := g.trans (by rw [plus_nil]; exact g2.bare)
                    rw [int?_eq q5] at py
                    have ey := rep_of_int py
                    obtain ⟨c, xs, AL, e1, e2, e3, _⟩ := upd_al g3 q3 hv (pv.mono sm) q4
                    subst e1 ey
                    have ln := e3.len
                    cases q7 : l[j]? with
                    | none => rw [q7] at h; cases h
                    | some y =>
                      rw [q7] at h
                      obtain ⟨v', A1, A2', A3, f1, f2, f3, _⟩ := e3.focus q7
                      have at1 : atI xs i = some v' := by
                        unfold atI
                        rw [ln, q6]
                        exact f1
                      refine .inl ⟨c, xs, i, v', rfl, rfl, .inl (.inl e2), at1, ?_⟩
                      cases y with
                      | ref n =>
                        cases h
                        cases f3 with
                        | imm f3 _ =>
                          cases f3 with
                          | @ref _ a ha =>
                            refine z H2 (.ref a) (.ref a) g3 ?_ (.nil _)
                            show (m2[n]?).map V.ref = _
                            rw [ha]
                            rfl
                      | _ =>
                        cases h
                        exact z H2 v v' g3 hv ((pv.mono sm).app e2 rfl f1)
              | _ => cases h
          | _ => cases h
/-- what an operation at a place must be worth -/
def FitU (k : Ks) (r : V → List V → Hp → VK → Prop) (op : UOp) : Prop := ∀ (W : WX) (P : Addr → Prop) (σ : L2.St) (w0 : Ow) (m0 : List Addr) (H0 : Hp) (A : List Addr) (w : Ow) (m : List Addr) (H : Hp) (s : MSt) (e : Bool) (q : Nat ⊕ Nat) (π : List Nat) (v u : V) (as : List Val) (xs : List V) (Q : VK),
  Stg k P σ w0 m0 H0 A w m H s e → RepOL k m (fz (plus A P) w H) H as A xs → valAt σ m q = some v → PathV H v π u → PostE k W P w0 m0 σ H0 Q ((op q π as s).ef true) → r u xs H Q
theorem valAt_pre {m m' : List Addr} (p : Pre m m') (h : valAt σ m q = some v) : valAt σ m' q = some v := by
  cases q with
  | inl i => exact h
  | inr n =>
    obtain ⟨a, h1, h2⟩ := Option.map_eq_some_iff.mp (show (m[n]?).map V.ref = some v from h)
    show (m'[n]?).map V.ref = some v
    rw [p n a h1, ← h2]
    rfl
theorem mut_read {p : Plc} {t : TE} {f : Macs} {op : UOp} {r : V → List V → Hp → VK → Prop} (hp : PlR k W p t) (fit : FitU k r op) (h : tM k W (eMut p f op) σ H Q) : tBM k.K "list" r t (tMA k W f) σ H Q := by
  obtain ⟨P, w, m, s, r', h⟩ := h
  unfold eMut at h
  cases q1 : p s with
  | none =>
    rw [q1] at h
    exact h.elim
  | some x =>
    obtain ⟨q', π', s'⟩ := x
    rw [q1] at h
    dsimp only at h
    refine hp σ H _ P w m s q' π' s' r' q1 fun H1 v u g hv pv => ?_
    cases q2 : nodeL s' q' π' with
    | none =>
      rw [q2] at h
      exact h.elim
    | some y =>
      obtain ⟨o, d, l⟩ := y
      rw [q2] at h
      dsimp only at h
      obtain ⟨c, xs, rfl, hc, _⟩ := node_at g.srn q2 hv pv
      refine ⟨.inl ⟨rfl, _, .inl (.inl hc)⟩, ?_⟩
      refine ⟨P, w, m, s', g.srn, ?_⟩
      cases q3 : f s' with
      | err c' ns l' s2 =>
        rw [q3] at h
        have z := PErr.base g h
        exact z
      | bad =>
        rw [q3] at h
        exact h.elim
      | ok as s2 e2 =>
        rw [q3] at h
        dsimp only at h
        cases c2 : (e2 && decide (π' ≠ [])) with
        | true =>
          rw [c2] at h
          exact h.elim
        | false =>
          rw [c2] at h
          intro vs H2 A2 w2 m2 g2 p2
          have pv2 : PathV H2 v π' (.ref c) := by
            cases e2 with
            | false => exact pv.mono (g2.fl rfl).1
            | true =>
              have e0 : π' = [] := by simpa using c2
              subst e0
              cases pv
              exact .nil _
          have g3 : Stg k P σ w m H A2 w2 m2 H2 s2 true := (g.trans (by rw [plus_nil]; exact g2)).ef fun z => nomatch z
          exact fit W P σ w m H A2 w2 m2 H2 s2 true q' π' v (.ref c) as vs Q g3 p2 (valAt_pre g2.st.pre hv) pv2 h
theorem pe_mutM {id : String} {o e : Expr} {es : List Expr} {name : Str} {apos cpos : Pos} {p : Plc} {t : TE} {f : Macs} {op : UOp} {r : V → List V → Hp → VK → Prop} (fit : FitU k r op) (pa : PlainAttrs "list") (slot : Slot "list" name id) (hty : typeOf (.builtin id) = pure (.type "method_descriptor")) (hm : MtR X id r) (hp : PlR k W p t) (ho : PE X o t) (ha : PA X (e :: es) (tMA k W f)) (hK : X.K = k.K := by rfl)
    (hbase : attributeBase o name X.env (eval o X.env) = eval o X.env := by rfl)
    (hfew : ((backTo cpos (starEach (e :: es) X.env)).all (fun x => !x.1) && (backToKw cpos (keywordEach [] X.env)).all (fun x => x.1.isSome)
      && decide ((e :: es).length + ([] : List Keyword).length + (if ([] : List Keyword).isEmpty then 0 else 1) < 30)) = true := by rfl)
    (hline : (apos.endLine == cpos.line) = true := by rfl) (hs : starEach (e :: es) X.env = (false, eval e X.env) :: starEach es X.env := by rfl) (hplain : (backTo cpos (starEach es X.env)).any (·.1) = false := by rfl) :
    PE X (.Call (.Attribute o name apos) (e :: es) [] cpos) (tM k W (eMut p f op)) := pe_mono (pe_bm pa slot hty hm ho ha hbase hfew hline hs hplain) fun σ H Q h => by
  rw [hK]
  exact mut_read hp fit h
theorem pe_mut0M {id : String} {o : Expr} {name : Str} {apos cpos : Pos} {p : Plc} {t : TE} {op : UOp} {r : V → List V → Hp → VK → Prop} (fit : FitU k r op) (pa : PlainAttrs "list") (slot : Slot "list" name id) (hty : typeOf (.builtin id) = pure (.type "method_descriptor")) (hm : MtR X id r) (hp : PlR k W p t) (mono : ∀ σ H Q Q', (∀ v H, Q v H → Q' v H) → t σ H Q → t σ H Q') (ho : PE X o t) (hK : X.K = k.K := by rfl)
    (hbase : attributeBase o name X.env (eval o X.env) = eval o X.env := by rfl) (hline : (apos.endLine == cpos.line) = true := by rfl) : PE X (.Call (.Attribute o name apos) [] [] cpos) (tM k W (eMut p aNil op)) := pe_mono (pe_bm0 pa slot hty hm ho hbase hline) fun σ H Q h => by
  rw [hK]
  exact mono σ H _ _ (fun v H1 z => ⟨z.1, aNil_read z.2⟩) (mut_read hp fit h)
theorem mono_var {i : Nat} : ∀ σ H (Q Q' : VK), (∀ v H, Q v H → Q' v H) → tVar i σ H Q → tVar i σ H Q' := fun _ _ _ _ h ⟨v, e, z⟩ => ⟨v, e, h _ _ z⟩
theorem mono_ix {t : TE} {f : Mac} (h : ∀ σ H (Q Q' : VK), (∀ v H, Q v H → Q' v H) → t σ H Q → t σ H Q') : ∀ σ H (Q Q' : VK), (∀ v H, Q v H → Q' v H) → tOp (rIx k.K) t (tM k W f) σ H Q → tOp (rIx k.K) t (tM k W f) σ H Q' := fun σ H Q Q' i z =>
  h σ H _ _ (fun x H1 z => tM_mono (fun y H2 z => by
    rcases z with ⟨p, xs, j, v, e1, e2, e3, e4, z⟩ | ⟨p, xs, j, v, e1, e2, e3, e4, z⟩ | ⟨p, j, c, e1, e2, e3, e4, z⟩
    · exact .inl ⟨p, xs, j, v, e1, e2, e3, e4, i _ _ z⟩
    · exact .inr (.inl ⟨p, xs, j, v, e1, e2, e3, e4, i _ _ z⟩)
    · exact .inr (.inr ⟨p, j, c, e1, e2, e3, e4, i _ _ z⟩)) z) z
/-! ### each method -/
theorem small_lt (h : small l = true) : l.length < 8000000 := of_decide_eq_true h
theorem line_lt {n : Nat} (h : n < 16000000) : n < sizeLine := by rw [sizeLine_eq]; omega
theorem sp_case {o : Own} {a : Val} (h : nodeL s q π = some (o, d, l)) (c : (decide (π = []) && decide (a.o ≠ .bo)) = true) : π = [] ∧ d = .lst l ∧ (o = .al ∨ o = .sp) ∧ a.o ≠ .bo := by
  obtain ⟨c1, c2⟩ := Bool.and_eq_true_iff.mp c
  have e := of_decide_eq_true c1
  subst e
  obtain ⟨h1, h2, h3⟩ := node_inv h
  cases h2
  exact ⟨rfl, rfl, h3.imp id (·.1), of_decide_eq_true c2⟩
theorem RepAL.up {AL : List Addr} {xs : List V} {c : Addr} {o : HO} (h : RepAL k m H AL xs l) (n : c ∉ AL) (wc : ∃ o', H c = some o' ∧ Wr o') : RepAL k m (upd H c o) AL xs l := h.keep (fun b u hb z => by
  rw [upd_ne]
  · exact hb
  · rintro rfl
    rcases z with z | z
    · exact n z
    · obtain ⟨o', h1, h2⟩ := wc
      rw [h1] at hb
      cases hb
      exact z h2) Pre.refl
theorem RepA.up {AL : List Addr} {x : V} {c : Addr} {o : HO} {d : MM.D} (h : RepA k m H AL x d) (n : c ∉ AL) (wc : ∃ o', H c = some o' ∧ Wr o') : RepA k m (upd H c o) AL x d := h.keep (fun b u hb z => by
  rw [upd_ne]
  · exact hb
  · rintro rfl
    rcases z with z | z
    · exact n z
    · obtain ⟨o', h1, h2⟩ := wc
      rw [h1] at hb
      cases hb
      exact z h2) Pre.refl
theorem RepAL.one {AL : List Addr} {x : V} {d : MM.D} (h : RepA k m H AL x d) : RepAL k m H AL [x] [d] := by
  have z := RepAL.cons h .nil
  rw [List.append_nil] at z
  exact z
theorem al_of {F : Hp} {a : Val} {x : V} (h : RepO k m F H a.o A x a.d) (e : a.o = .al) : RepA k m H A x a.d := by
  rw [e] at h
  cases h with
  | al h => exact h
theorem fit_app : FitU k rAppend uApp := fun W P σ w0 m0 H0 A w m H s e q π v u as xs Q g p hv pv h => by
  unfold uApp at h
  rcases as with _ | ⟨a, _ | ⟨b, as⟩⟩
  · exact h.elim
  rotate_left
  · exact h.elim
  obtain ⟨x, rfl⟩ : ∃ x, xs = [x] := by
    have z := p.len
    match xs, z with
    | [x], _ => exact ⟨x, rfl⟩
  obtain ⟨a', ea, pa⟩ := p.one_inv
  cases ea
  cases q1 : nodeL s q π with
  | none =>
    rw [q1] at h
    exact h.elim
  | some y =>
    obtain ⟨o, d, l⟩ := y
    rw [q1] at h
    dsimp only at h
    cases q2 : small l with
    | false =>
      rw [q2] at h
      exact h.elim
    | true =>
      rw [q2] at h
      have sl := small_lt q2
      cases q3 : (decide (o = .al) && decide (a.o = .al)) with
      | true =>
        rw [q3] at h
        obtain ⟨c1, c2⟩ := Bool.and_eq_true_iff.mp q3
        have eo := of_decide_eq_true c1
        have ea := of_decide_eq_true c2
        subst eo
        obtain ⟨h1, h2, _⟩ := node_inv q1
        obtain ⟨c, ys, AL, rfl, hc, r, nd, wc, wl, up⟩ := upd_al g h1 hv pv h2
        have ln := r.len
        refine ⟨c, ys, x, rfl, rfl, hc, line_lt (by omega), ?_⟩
        have nd2 := List.nodup_cons.mp nd
        have cA : c ∉ A := fun z => by have := g.sr.dis c (.inl z); rw [wc] at this; cases this
        have row := (r.up (o := .lst (ys ++ [x])) nd2.1 ⟨_, hc, trivial⟩).app (.one ((al_of pa ea).up (o := .lst (ys ++ [x])) cA ⟨_, hc, trivial⟩))
        obtain ⟨w', g2⟩ := up (ys ++ [x]) (l ++ [a.d]) (AL ++ A) [] row (nodup_app nd2.2 g.nd fun b z1 z2 => by have := g.sr.dis b (.inl z2); rw [wl b z1] at this; cases this) (fun b z => List.mem_append.mp z) List.nodup_nil (by simp)
        exact h .non _ [] w' m g2 (.al (.imm .non rfl))
      | false =>
        rw [q3] at h
        cases q4 : (decide (π = []) && decide (a.o ≠ .bo)) with
        | false =>
          rw [q4] at h
          exact h.elim
        | true =>
          rw [q4] at h
          obtain ⟨rfl, rfl, ho, nb⟩ := sp_case q1 q4
          obtain ⟨h1, _, _⟩ := node_inv q1
          cases pv
          obtain ⟨c, ys, rfl, hc, wc, up⟩ := upd_sp g h1 ho hv
          obtain ⟨u1, u2, u3⟩ := up (ys ++ [x])
          have ln := u1.len
          refine ⟨c, ys, x, rfl, rfl, hc, line_lt (by omega), ?_⟩
          have g2 := u3 (l ++ [a.d]) (u1.app (u2 [a] A [x] (.one pa) (fun _ z => z) (by show (decide (a.o = .bo) || false) = false; rw [decide_eq_false nb]; rfl)))
          exact h .non _ [] _ m g2 (.al (.imm .non rfl))
theorem itV_fz {F : Hp} {x : V} {y : MM.D} (h : Rep k m F x y) (f : Same F H) : RepO k m F H (itV y).o [] x (itV y).d := itV_rep h f
theorem RepL.dropLast {F : Hp} : ∀ {vs : List V} {ds : List MM.D}, RepL k m F vs ds → RepL k m F vs.dropLast ds.dropLast
  | _, _, .nil => .nil
  | _, _, .cons h .nil => .nil
  | _, _, .cons h (.cons g r) => .cons h (RepL.dropLast (.cons g r))
theorem RepL.erase {F : Hp} : ∀ {vs : List V} {ds : List MM.D} (i : Nat), RepL k m F vs ds → RepL k m F (vs.eraseIdx i) (ds.eraseIdx i)
  | _, _, _, .nil => .nil
  | _, _, 0, .cons h r => r
  | _, _, i + 1, .cons h r => .cons h (RepL.erase i r)
theorem RepL.setI {F : Hp} {x : V} {y : MM.D} (h : Rep k m F x y) : ∀ {vs : List V} {ds : List MM.D} (i : Nat), RepL k m F vs ds → RepL k m F (vs.set i x) (ds.set i y)
  | _, _, _, .nil => .nil
  | _, _, 0, .cons _ r => .cons h r
  | _, _, i + 1, .cons g r => .cons g (RepL.setI h i r)
/-- one item is taken out -/
theorem RepAL.erase : ∀ {l : List MM.D} {A : List Addr} {xs : List V} {i : Nat} {x : MM.D}, RepAL k m H A xs l → l[i]? = some x → ∃ v A1 A2 A3, xs[i]? = some v ∧ A = A1 ++ A2 ++ A3 ∧ RepA k m H A2 v x ∧ RepAL k m H (A1 ++ A3) (xs.eraseIdx i) (l.eraseIdx i)
  | [], _, _, _, _, _, h => by simp at h
  | d :: l, _, _, 0, x, .cons (A := A) (B := B) h r, e => by
    simp at e
    subst e
    exact ⟨_, [], A, B, rfl, rfl, h, r⟩
  | d :: l, _, _, i + 1, x, .cons (A := A) (B := B) h r, e => by
    obtain ⟨v, A1, A2, A3, h1, h2, h3, h4⟩ := RepAL.erase (i := i) r (by simpa using e)
    refine ⟨v, A ++ A1, A2, A3, by simpa using h1, by rw [h2]; simp [List.append_assoc], h3, ?_⟩
    have c := RepAL.cons h h4
    rw [← List.append_assoc] at c
    exact c
/-- what all pops come to: the item at j goes -/
theorem pop_core {o : Own} {j : Nat} {y : MM.D} {l2 : List MM.D} (g : Stg k P σ w0 m0 H0 A w m H s e) (q1 : nodeL s q π = some (o, d, l)) (hv : valAt σ m q = some v) (pv : PathV H v π u) (hy : l[j]? = some y) (hl : l.eraseIdx j = l2)
    (h : PostE k W P w0 m0 σ H0 Q ((bif decide (o = .al) then .ok ⟨.al, y⟩ (put s q (some ⟨.al, putD d π (.lst l2)⟩)) true else .ok (itV y) (put s q (some ⟨.sp, .lst l2⟩)) true : Res Val).ef true)) :
    ∃ c ys x, u = .ref c ∧ H c = some (.lst ys) ∧ ys.length = l.length ∧ ys[j]? = some x ∧ Q x (upd H c (.lst (ys.eraseIdx j))) := by
  subst hl
  obtain ⟨h1, h2, h3⟩ := node_inv q1
  by_cases eo : o = .al
  · rw [decide_eq_true eo] at h
    subst eo
    obtain ⟨c, ys, AL, rfl, hc, r, nd, wc, wl, up⟩ := upd_al g h1 hv pv h2
    obtain ⟨x, A1, A2, A3, e1, e2, e3, e4⟩ := r.erase hy
    have nd2 := List.nodup_cons.mp nd
    rw [e2] at nd2
    have n1 := List.nodup_append.mp nd2.2
    have n2 := List.nodup_append.mp n1.1
    refine ⟨c, ys, x, rfl, hc, r.len, e1, ?_⟩
    have cn : c ∉ A1 ++ A3 ∧ c ∉ A2 := ⟨fun z => nd2.1 (by rcases List.mem_append.mp z with z | z <;> simp [z]), fun z => nd2.1 (by simp [z])⟩
    obtain ⟨w', g2⟩ := up (ys.eraseIdx j) (l.eraseIdx j) (A1 ++ A3) A2 (e4.up cn.1 ⟨_, hc, trivial⟩) (nodup_app n2.1 n1.2.1 fun b z1 z2 => n1.2.2 b (by simp [z1]) b z2 rfl) (fun b z => .inl (by rw [e2]; rcases List.mem_append.mp z with z | z <;> simp [z])) n2.2.1 (fun b z => ⟨.inl (by rw [e2]; simp [z]), fun y => by
      rcases List.mem_append.mp y with y | y
      · exact n2.2.2 b y b z rfl
      · exact n1.2.2 b (by simp [z]) b y rfl⟩)
    exact h x _ A2 w' m g2 (.al (e3.up cn.2 ⟨_, hc, trivial⟩))
  · rw [decide_eq_false eo] at h
    obtain ⟨rfl, rfl⟩ := h3.resolve_left eo
    cases h2
    cases pv
    obtain ⟨c, ys, rfl, hc, wc, up⟩ := upd_sp g h1 (.inr rfl) hv
    obtain ⟨u1, u2, u3⟩ := up (ys.eraseIdx j)
    obtain ⟨x, hx, rx⟩ := u1.get hy
    refine ⟨c, ys, x, rfl, hc, u1.len, hx, ?_⟩
    have g2 := u3 (l.eraseIdx j) (u1.erase j)
    exact h x _ [] _ m g2 (by rw [plus_nil]; exact itV_rep rx fz_same)
theorem erase_last {α : Type} : ∀ (l : List α), l.eraseIdx (l.length - 1) = l.dropLast
  | [] => rfl
  | [x] => rfl
  | x :: y :: r => by
    have z := erase_last (y :: r)
    show (x :: y :: r).eraseIdx (r.length + 1) = x :: (y :: r).dropLast
    rw [List.eraseIdx_cons_succ]
    rw [← z]
    rfl
theorem fit_pop : FitU k rPop uPop := fun W P σ w0 m0 H0 A w m H s e q π v u as xs Q g p hv pv h => by
  unfold uPop at h
  rcases as with _ | ⟨a, as⟩
  rotate_left
  · exact h.elim
  have ex : xs = [] := by cases p; rfl
  subst ex
  cases q1 : nodeL s q π with
  | none =>
    rw [q1] at h
    exact h.elim
  | some y =>
    obtain ⟨o, d, l⟩ := y
    rw [q1] at h
    dsimp only at h
    cases q2 : l[l.length - 1]? with
    | none =>
      rw [q2] at h
      exact h.elim
    | some y =>
      rw [q2] at h
      obtain ⟨c, ys, x, rfl, hc, ln, hx, z⟩ := pop_core g q1 hv pv q2 (erase_last l) h
      refine ⟨c, ys, x, rfl, rfl, hc, by rw [ln]; exact hx, ?_⟩
      rw [← ln, erase_last] at z
      exact z
theorem fit_popAt : FitU k rPopAt uPopAt := fun W P σ w0 m0 H0 A w m H s e q π v u as xs Q g p hv pv h => by
  unfold uPopAt at h
  rcases as with _ | ⟨a, _ | ⟨b, as⟩⟩
  · exact h.elim
  rotate_left
  · exact h.elim
  obtain ⟨x, rfl⟩ : ∃ x, xs = [x] := by
    have z := p.len
    match xs, z with
    | [x], _ => exact ⟨x, rfl⟩
  obtain ⟨a', ea, pa⟩ := p.one_inv
  cases ea
  cases q1 : nodeL s q π with
  | none =>
    rw [q1] at h
    exact h.elim
  | some y =>
    obtain ⟨o, d, l⟩ := y
    rw [q1] at h
    dsimp only at h
    cases q2 : a.d.int? with
    | none =>
      rw [q2] at h
      exact h.elim
    | some i =>
      rw [q2] at h
      dsimp only at h
      cases q3 : ixN l.length i with
      | none =>
        rw [q3] at h
        exact h.elim
      | some j =>
        rw [q3] at h
        dsimp only at h
        cases q4 : l[j]? with
        | none =>
          rw [q4] at h
          exact h.elim
        | some y =>
          rw [q4] at h
          dsimp only at h
          cases q5 : small l with
          | false =>
            rw [q5] at h
            exact h.elim
          | true =>
            rw [q5] at h
            have sl := small_lt q5
            obtain ⟨c, ys, x', rfl, hc, ln, hx, z⟩ := pop_core g q1 hv pv q4 rfl h
            obtain ⟨s1, s2, s3, s4⟩ := ixN_seq q3
            rw [int?_eq q2] at pa
            exact ⟨c, ys, i, j, x', rfl, by rw [rep_of_int pa], hc, by omega, by omega, by rw [ln]; exact s1, hx, z⟩
/-- two at hand -/
theorem RepO.lst_see {F : Hp} {a : Val} {x : V} {r : List MM.D} (h : RepO k m F H a.o A x a.d) (f : Same F H) (e : a.d = .lst r) : ∃ c zs, x = .ref c ∧ H c = some (.lst zs) ∧ RepL k m H zs r := by
  have see := h.see f
  rw [e] at see
  cases see with
  | lst h1 h2 => exact ⟨_, _, rfl, h1, h2⟩
theorem fit_ext : FitU k rExtend uExt := fun W P σ w0 m0 H0 A w m H s e q π v u as xs Q g p hv pv h => by
  unfold uExt at h
  rcases as with _ | ⟨a, _ | ⟨b, as⟩⟩
  · exact h.elim
  rotate_left
  · exact h.elim
  obtain ⟨x, rfl⟩ : ∃ x, xs = [x] := by
    have z := p.len
    match xs, z with
    | [x], _ => exact ⟨x, rfl⟩
  obtain ⟨a', ea, pa⟩ := p.one_inv
  cases ea
  cases q1 : nodeL s q π with
  | none =>
    rw [q1] at h
    exact h.elim
  | some y =>
    obtain ⟨o, d, l⟩ := y
    rw [q1] at h
    dsimp only at h
    cases q0 : a.d with
    | lst r =>
      rw [q0] at h
      dsimp only at h
      cases q2 : (!small l || !small r) with
      | true =>
        rw [q2] at h
        exact h.elim
      | false =>
        rw [q2] at h
        obtain ⟨c1, c2⟩ := Bool.or_eq_false_iff.mp q2
        have sl := small_lt (by simpa using c1)
        have sr := small_lt (by simpa using c2)
        obtain ⟨b, zs, rfl, hb, rz⟩ := pa.lst_see (Same.trans g.fzl fz_same) q0
        have lz := rz.len
        cases q3 : (decide (o = .al) && (decide (a.o = .al) || immL r)) with
        | true =>
          rw [q3] at h
          obtain ⟨c3, c4⟩ := Bool.and_eq_true_iff.mp q3
          have eo := of_decide_eq_true c3
          subst eo
          obtain ⟨h1, h2, _⟩ := node_inv q1
          obtain ⟨c, ys, AL, rfl, hc, rr, nd, wc, wl, up⟩ := upd_al g h1 hv pv h2
          have ln := rr.len
          refine ⟨c, b, ys, zs, rfl, rfl, hc, hb, by rw [sizeLine_eq]; omega, ?_⟩
          have nd2 := List.nodup_cons.mp nd
          have cA : c ∉ A := fun z => by have := g.sr.dis c (.inl z); rw [wc] at this; cases this
          obtain ⟨B, rB, sB, nB⟩ : ∃ B, RepAL k m H B zs r ∧ (∀ b ∈ B, b ∈ A) ∧ B.Nodup := by
            rcases Bool.or_eq_true_iff.mp c4 with c4 | c4
            · have z := al_of pa (of_decide_eq_true c4)
              rw [q0] at z
              have nA := g.nd
              cases z with
              | imm _ z => cases z
              | @lst _ B' zs' _ hb' z =>
                rw [hb] at hb'
                cases hb'
                exact ⟨B', z, fun b z => by simp [z], (List.nodup_cons.mp nA).2⟩
            · exact ⟨[], rz.al c4, by simp, List.nodup_nil⟩
          have row := (rr.up (o := .lst (ys ++ zs)) nd2.1 ⟨_, hc, trivial⟩).app (rB.up (o := .lst (ys ++ zs)) (fun z => cA (sB c z)) ⟨_, hc, trivial⟩)
          obtain ⟨w', g2⟩ := up (ys ++ zs) (l ++ r) (AL ++ B) [] row (nodup_app nd2.2 nB fun b z1 z2 => by have := g.sr.dis b (.inl (sB b z2)); rw [wl b z1] at this; cases this) (fun b z => (List.mem_append.mp z).imp id (sB b)) List.nodup_nil (by simp)
          exact h .non _ [] w' m g2 (.al (.imm .non rfl))
        | false =>
          rw [q3] at h
          cases q4 : (decide (π = []) && decide (a.o ≠ .bo)) with
          | false =>
            rw [q4] at h
            exact h.elim
          | true =>
            rw [q4] at h
            obtain ⟨rfl, rfl, ho, nb⟩ := sp_case q1 q4
            obtain ⟨h1, _, _⟩ := node_inv q1
            cases pv
            obtain ⟨c, ys, rfl, hc, wc, up⟩ := upd_sp g h1 ho hv
            obtain ⟨u1, u2, u3⟩ := up (ys ++ zs)
            have ln := u1.len
            refine ⟨c, b, ys, zs, rfl, rfl, hc, hb, by rw [sizeLine_eq]; omega, ?_⟩
            have one := u2 [a] A [.ref b] (.one pa) (fun _ z => z) (by show (decide (a.o = .bo) || false) = false; rw [decide_eq_false nb]; rfl)
            have rz2 : RepL k m (fz P (own w q [c]) (upd H c (.lst (ys ++ zs)))) zs r := by
              have e1 : dsOf [a] = [.lst r] := by show [a.d] = _; rw [q0]
              rw [e1] at one
              cases one with
              | cons one _ =>
                cases one with
                | @lst _ zs' _ hb' z =>
                  have hb2 := (fz_inv hb').2.2
                  by_cases cb : b = c
                  · subst cb
                    exfalso
                    obtain ⟨_, z2, _⟩ := fz_inv hb'
                    rw [own_in (by simp)] at z2
                    cases z2
                  · rw [upd_ne cb, hb] at hb2
                    cases hb2
                    exact z
            have g2 := u3 (l ++ r) (u1.app rz2)
            exact h .non _ [] _ m g2 (.al (.imm .non rfl))
    | _ =>
      rw [q0] at h
      exact h.elim
theorem take_nil_drop {α : Type} (l : List α) (y : α) : l.take 0 ++ [y] ++ l.drop 0 = y :: l := by simp
theorem fit_ins : FitU k (fun x vs H Q => ∃ (l : Addr) (xs : List V) (i : Int) (y : V), x = .ref l ∧ vs = [.int i, y] ∧ H l = some (.lst xs) ∧ xs.length < sizeLine ∧ 0 ≤ i ∧ i < 2 ^ 63 ∧
    Q .non (upd H l (.lst (xs.take i.toNat ++ [y] ++ xs.drop i.toNat)))) uIns := fun W P σ w0 m0 H0 A w m H s e q π v u as xs Q g p hv pv h => by
  unfold uIns at h
  rcases as with _ | ⟨i, _ | ⟨a, _ | ⟨b, as⟩⟩⟩
  · exact h.elim
  · exact h.elim
  rotate_left
  · exact h.elim
  obtain ⟨x, y, rfl⟩ : ∃ x y, xs = [x, y] := by
    have z := p.len
    match xs, z with
    | [x, y], _ => exact ⟨x, y, rfl⟩
  obtain ⟨i', a', A1, A2, ea, rfl, pi, pa⟩ := p.two_inv
  cases ea
  cases q1 : nodeL s q π with
  | none =>
    rw [q1] at h
    exact h.elim
  | some y' =>
    obtain ⟨o, d, l⟩ := y'
    rw [q1] at h
    dsimp only at h
    split at h
    · rename_i q0
      rw [q0] at pi
      have ex := rep_of_int pi
      subst ex
      cases q2 : small l with
      | false =>
        rw [q2] at h
        exact h.elim
      | true =>
        rw [q2] at h
        have sl := small_lt q2
        cases q3 : (decide (o = .al) && decide (a.o = .al)) with
        | true =>
          rw [q3] at h
          obtain ⟨c1, c2⟩ := Bool.and_eq_true_iff.mp q3
          have eo := of_decide_eq_true c1
          have ea := of_decide_eq_true c2
          subst eo
          obtain ⟨h1, h2, _⟩ := node_inv q1
          obtain ⟨c, ys, AL, rfl, hc, r, nd, wc, wl, up⟩ := upd_al g h1 hv pv h2
          have ln := r.len
          refine ⟨c, ys, 0, y, rfl, rfl, hc, line_lt (by omega), by decide, by decide, ?_⟩
          have nd2 := List.nodup_cons.mp nd
          have nA := List.nodup_append.mp g.nd
          have cA : c ∉ A2 := fun z => by have := g.sr.dis c (.inl (by simp [z])); rw [wc] at this; cases this
          have row := RepAL.cons ((al_of pa ea).up (o := .lst (y :: ys)) cA ⟨_, hc, trivial⟩) (r.up (o := .lst (y :: ys)) nd2.1 ⟨_, hc, trivial⟩)
          obtain ⟨w', g2⟩ := up (y :: ys) (a.d :: l) (A2 ++ AL) [] row (nodup_app nA.2.1 nd2.2 fun b z1 z2 => by have := g.sr.dis b (.inl (by simp [z1])); rw [wl b z2] at this; cases this) (fun b z => (List.mem_append.mp z).elim (fun z => .inr (by simp [z])) .inl) List.nodup_nil (by simp)
          have e1 : ys.take (Int.toNat 0) ++ [y] ++ ys.drop (Int.toNat 0) = y :: ys := take_nil_drop ys y
          rw [e1]
          exact h .non _ [] w' m g2 (.al (.imm .non rfl))
        | false =>
          rw [q3] at h
          cases q4 : (decide (π = []) && decide (a.o ≠ .bo)) with
          | false =>
            rw [q4] at h
            exact h.elim
          | true =>
            rw [q4] at h
            obtain ⟨rfl, rfl, ho, nb⟩ := sp_case q1 q4
            obtain ⟨h1, _, _⟩ := node_inv q1
            cases pv
            obtain ⟨c, ys, rfl, hc, wc, up⟩ := upd_sp g h1 ho hv
            obtain ⟨u1, u2, u3⟩ := up (y :: ys)
            have ln := u1.len
            refine ⟨c, ys, 0, y, rfl, rfl, hc, line_lt (by omega), by decide, by decide, ?_⟩
            have g2 := u3 (a.d :: l) ((u2 [a] A2 [y] (.one pa) (fun _ z => by simp [z]) (by show (decide (a.o = .bo) || false) = false; rw [decide_eq_false nb]; rfl)).app u1)
            have e1 : ys.take (Int.toNat 0) ++ [y] ++ ys.drop (Int.toNat 0) = y :: ys := take_nil_drop ys y
            rw [e1]
            exact h .non _ [] _ m g2 (.al (.imm .non rfl))
    · exact h.elim
theorem pe_insM {o e1 e2 : Expr} {apos cpos : Pos} {p : Plc} {t : TE} {f : Macs} (hp : PlR k W p t) (ho : PE X o t) (ha : PA X [e1, e2] (tMA k W f)) (hK : X.K = k.K := by rfl)
    (hbase : attributeBase o "insert" X.env (eval o X.env) = eval o X.env := by rfl)
    (hfew : ((backTo cpos (starEach [e1, e2] X.env)).all (fun x => !x.1) && (backToKw cpos (keywordEach [] X.env)).all (fun x => x.1.isSome)
      && decide ([e1, e2].length + ([] : List Keyword).length + (if ([] : List Keyword).isEmpty then 0 else 1) < 30)) = true := by rfl)
    (hline : (apos.endLine == cpos.line) = true := by rfl) (hs : starEach [e1, e2] X.env = (false, eval e1 X.env) :: starEach [e2] X.env := by rfl) (hplain : (backTo cpos (starEach [e2] X.env)).any (·.1) = false := by rfl) :
    PE X (.Call (.Attribute o "insert" apos) [e1, e2] [] cpos) (tM k W (eMut p f uIns)) := pe_mutM fit_ins PySem.F.plainAttrs_list PySem.F.slot_list_insert PySem.F.type_list_insert mt_insert hp ho ha hK hbase hfew hline hs hplain
/-! ### o[i] = a -/
def mSetIx (f : Mac) (p : Plc) (g : Mac) : Mas := fun s => match f s with
  | .ok a s1 _ => match p s1 with
    | some (q, π, s2) => match g s2 with
      | .ok i s3 false => bif decide (a.o = .bo) then .bad else match uSet q π [a, i] s3 with
        | .ok _ s4 _ => .ok .nx s4 true
        | _ => .bad
      | _ => .bad
    | none => .bad
  | .err c ns l s' => .err c ns l s'
  | .bad => .bad
theorem setIx_read {D : Ends} {f g : Mac} {p : Plc} {t : TE} (hp : PlR k W p t) (h : tMS k W (mSetIx f p g) D σ H) : tAsg (tM k W f) (gSub t (tM k W g) rSetL) D σ H := by
  obtain ⟨P, w, m, s, r, h⟩ := h
  refine ⟨P, w, m, s, r, ?_⟩
  unfold mSetIx at h
  cases q0 : f s with
  | err c ns l s' =>
    rw [q0] at h
    exact h σ
  | bad =>
    rw [q0] at h
    exact h
  | ok a s1 e1 =>
    rw [q0] at h
    dsimp only at h
    intro x H1 A w1 m1 g1 pa
    cases q1 : p s1 with
    | none =>
      rw [q1] at h
      exact h.elim
    | some y =>
      obtain ⟨q, π, s2⟩ := y
      rw [q1] at h
      dsimp only at h
      refine hp σ H1 _ (plus A P) w1 m1 s1 q π s2 g1.sr q1 fun H2 v u g2 hv pv => ?_
      refine ⟨plus A P, w1, m1, s2, g2.srn, ?_⟩
      cases q2 : g s2 with
      | err _ _ _ _ => rw [q2] at h; exact h.elim
      | bad => rw [q2] at h; exact h.elim
      | ok i s3 e3 =>
        rw [q2] at h
        cases e3 with
        | true => exact h.elim
        | false =>
          dsimp only at h
          intro y H3 A3 w3 m3 g3 py
          obtain ⟨sm, rfl, rfl⟩ := g3.fl rfl
          obtain ⟨sm2, _, _⟩ := g2.fl rfl
          cases c0 : decide (a.o = .bo) with
          | true =>
            rw [c0] at h
            exact h.elim
          | false =>
            rw [c0] at h
            have nb := of_decide_eq_false c0
            -- all at hand together
            have g4 : Stg k (plus A P) σ w3 m3 H1 A3 w3 m3 H3 s3 false := g2.trans (by rw [plus_nil]; exact g3)
            have g5 := g1.trans g4
            have pa3 : RepO k m3 (fz (plus (A ++ A3) P) w3 H3) H3 a.o A x a.d := by
              rw [← plus_plus]
              exact pa.move g4.fz (g4.keep g1.sr) Pre.refl fun z => absurd z nb
            have py3 : RepO k m3 (fz (plus (A ++ A3) P) w3 H3) H3 i.o A3 y i.d := by
              rw [← plus_plus]
              exact py
            have pv3 := pv.mono sm
            unfold uSet at h
            cases q3 : nodeL s3 q π with
            | none =>
              rw [q3] at h
              exact h.elim
            | some z =>
              obtain ⟨o, d, l⟩ := z
              rw [q3] at h
              dsimp only at h
              cases q4 : i.d.int? with
              | none =>
                rw [q4] at h
                exact h.elim
              | some n =>
                rw [q4] at h
                dsimp only at h
                cases q5 : ixN l.length n with
                | none =>
                  rw [q5] at h
                  exact h.elim
                | some j =>
                  rw [q5] at h
                  dsimp only at h
                  rw [int?_eq q4] at py3
                  have ey := rep_of_int py3
                  subst ey
                  have lt := (ixN_seq q5).2.1
                  cases q6 : (decide (o = .al) && decide (a.o = .al)) with
                  | true =>
                    rw [q6] at h
                    obtain ⟨c1, c2⟩ := Bool.and_eq_true_iff.mp q6
                    have eo := of_decide_eq_true c1
                    have ea := of_decide_eq_true c2
                    subst eo
                    obtain ⟨h1, h2, _⟩ := node_inv q3
                    obtain ⟨c, ys, AL, rfl, hc, r, nd, wc, wl, up⟩ := upd_al g5 h1 hv pv3 h2
                    have ln := r.len
                    refine ⟨c, ys, n, j, rfl, rfl, hc, by rw [ln]; exact q5, ?_⟩
                    have nd2 := List.nodup_cons.mp nd
                    have cA : c ∉ A := fun z => by have := g5.sr.dis c (.inl (by simp [z])); rw [wc] at this; cases this
                    obtain ⟨v0, B1, B2, B3, e1, e2, e3, e4⟩ := r.focus (List.getElem?_eq_getElem lt)
                    rw [e2] at nd2
                    have n1 := List.nodup_append.mp nd2.2
                    have n2 := List.nodup_append.mp n1.1
                    have kp : Keep (B1 ++ B3) H3 (upd H3 c (.lst (ys.set j x))) := fun b u hb z => by
                      rw [upd_ne]
                      · exact hb
                      · rintro rfl
                        rcases z with z | z
                        · exact nd2.1 (by rcases List.mem_append.mp z with z | z <;> simp [z])
                        · rw [hc] at hb
                          cases hb
                          exact z trivial
                    have row := e4 Pre.refl kp ((al_of pa3 ea).up (o := .lst (ys.set j x)) cA ⟨_, hc, trivial⟩)
                    have nA := g1.nd
                    have offA : ∀ b, b ∈ A → b ∉ B1 ∧ b ∉ B3 := fun b z => by
                      have := g5.sr.dis b (.inl (by simp [z]))
                      refine ⟨fun y => ?_, fun y => ?_⟩
                      · rw [wl b (by rw [e2]; simp [y])] at this; cases this
                      · rw [wl b (by rw [e2]; simp [y])] at this; cases this
                    obtain ⟨w', g6⟩ := up (ys.set j x) (l.set j a.d) (B1 ++ A ++ B3) [] row (by
                      refine nodup_app (nodup_app n2.1 nA fun b z1 z2 => (offA b z2).1 z1) n1.2.1 fun b z1 z2 => ?_
                      rcases List.mem_append.mp z1 with z1 | z1
                      · exact n1.2.2 b (by simp [z1]) b z2 rfl
                      · exact (offA b z1).2 z2) (fun b z => by
                      rcases List.mem_append.mp z with z | z
                      · rcases List.mem_append.mp z with z | z
                        · exact .inl (by rw [e2]; simp [z])
                        · exact .inr (by simp [z])
                      · exact .inl (by rw [e2]; simp [z])) List.nodup_nil (by simp)
                    exact h σ _ w' m3 g6
                  | false =>
                    rw [q6] at h
                    cases q7 : (decide (π = []) && decide (a.o ≠ .bo)) with
                    | false =>
                      rw [q7] at h
                      exact h.elim
                    | true =>
                      rw [q7] at h
                      obtain ⟨rfl, rfl, ho, _⟩ := sp_case q3 q7
                      obtain ⟨h1, _, _⟩ := node_inv q3
                      cases pv3
                      obtain ⟨c, ys, rfl, hc, wc, up⟩ := upd_sp g5 h1 ho hv
                      obtain ⟨u1, u2, u3⟩ := up (ys.set j x)
                      have ln := u1.len
                      refine ⟨c, ys, n, j, rfl, rfl, hc, by rw [ln]; exact q5, ?_⟩
                      have one := u2 [a] A [x] (.one pa3) (fun _ z => by simp [z]) (by show (decide (a.o = .bo) || false) = false; rw [decide_eq_false nb]; rfl)
                      cases one with
                      | cons one _ => exact h σ _ _ m3 (u3 (l.set j a.d) (u1.setI one j))
theorem ps_setIxM {o i e : Expr} {f g : Mac} {p : Plc} {t : TE} {pos tpos : Pos} (he : PE X e (tM k W f)) (hp : PlR k W p t) (ho : PE X o t) (hi : PE X i (tM k W g))
    (hs : swapsWithSole [.Subscript o i tpos] e pos.line X.env = pure false := by rfl) (hw : swappedStores [.Subscript o i tpos] e X.env = pure none := by rfl)
    (h1 : (assignEach [.Subscript o i tpos] X.env).map (·.2) = [assign (.Subscript o i tpos) X.env] := by rfl)
    (ha : ∀ v, assign (.Subscript o i tpos) X.env v = (do
      let ov ← holding [v] (eval o X.env)
      let iv ← holding [v, ov] (eval i X.env)
      standAt tpos
      holding [v, ov, iv] (setItem ov iv v)
      release [v, ov, iv] []) := by intro _; rfl) :
    PS X (.Assign [.Subscript o i tpos] e pos) (tMS k W (mSetIx f p g)) := ps_mono (ps_asg he (pg_sub ho hi set_list ha) hs hw h1) fun D σ H h => setIx_read hp h
end
end MM

/-! Slices, new rows of old ones, moves, cells, errors. -/
namespace MM
open PySem PySem.Spec PyProof.Rows L2 GB
section
variable {k : Ks} {W : WX} {P : Addr → Prop} {w w1 w2 w0 : Ow} {m m1 m2 m0 : List Addr} {σ σ1 : L2.St} {H H1 H2 H0 : Hp} {A B : List Addr} {e e2 : Bool} {s s1 s2 : MSt} {X : Cx} {Q : VK} {q : Nat ⊕ Nat} {π : List Nat} {u v : V} {d : MM.D} {l : List MM.D}
/-- a new list of items that were there -/
theorem new_row {a : Val} {o : Own} {xs : List V} {r : List MM.D} (g : Stg k P σ w0 m0 H0 A w m H s e) (rh : RepL k m H xs r) (rf : nb a = true → RepL k m (fz P w H) xs r) (ho : rowO a r = some o) (h : PostE k W P w0 m0 σ H0 Q ((Res.ok ⟨o, .lst r⟩ s false).ef e)) : ∀ p, H p = none → Q (.ref p) (upd H p (.lst xs)) := fun p np => by
  have g2 := g.bare.laid (ob := .lst xs) np trivial
  unfold rowO at ho
  have ef : ∀ {z : Bool}, (z || false) = false → z = false := fun z => by rw [Bool.or_false] at z; exact z
  cases i : immL r with
  | true =>
    rw [i] at ho
    cases ho
    exact h (.ref p) _ [p] w m (g2.ef ef) (.al (.lst upd_same ((rh.mono (same_new np) Pre.refl).al i)))
  | false =>
    rw [i] at ho
    cases n : nb a with
    | false =>
      rw [n] at ho
      cases ho
    | true =>
      rw [n] at ho
      cases ho
      refine h (.ref p) _ [p] w m (g2.ef ef) (.spl upd_same ((rf n).mono ?_ Pre.refl))
      exact fz_step fun b u hu n1 n2 => ⟨same_new np _ _ hu, fun z => z.elim (fun y => by obtain rfl := List.mem_singleton.mp y; rw [np] at hu; cases hu) n1, n2⟩
/-- a new tuple of items that were there -/
theorem new_tup {a : Val} {xs : List V} {r : List MM.D} (g : Stg k P σ w0 m0 H0 A w m H s e) (rh : RepL k m H xs r) (rf : nb a = true → RepL k m (fz P w H) xs r) (h : PostE k W P w0 m0 σ H0 Q ((Res.ok ⟨inO a (.tup r), .tup r⟩ s false).ef e)) : ∀ p, H p = none → Q (.ref p) (upd H p (.tup xs)) := fun p np => by
  have g2 := g.laidT (ob := .tup xs) np
  refine ans g2 h (inO_rep (.tup (.inl (.inl upd_same)) (rh.mono (same_new np) Pre.refl)) fun n => ?_)
  have f : Same (fz P w H) (fz P w (upd H p (.tup xs))) := fz_step fun b u z1 z2 z3 => ⟨same_new np _ _ z1, z2, z3⟩
  refine .tup (.inl (.inl ?_)) ((rf n).mono f Pre.refl)
  have z := g2.sr.notree p _ upd_same (by intro z; exact z)
  rw [fz_at (fun y => z.1 (.inr y)) z.2]
  exact upd_same
abbrev Prt := MSt → Option (Option Int × MSt)
def pNo : Prt := fun s => some (none, s)
def pSo (f : Mac) : Prt := fun s => match f s with
  | .ok a s1 false => match a.d.int? with
    | some i => some (some i, s1)
    | none => none
  | _ => none
def PrR (k : Ks) (W : WX) (o : Prt) (t : TO) : Prop := ∀ (σ : L2.St) (H : Hp) (Q : Option Int → Hp → Prop) (P : Addr → Prop) (w : Ow) (m : List Addr) (s : MSt) (b : Option Int) (s1 : MSt), SR k P w m σ H s → o s = some (b, s1) →
  (∀ H1, Stg k P σ w m H [] w m H1 s1 false → Q b H1) → t σ H Q
theorem pr_no : PrR k W pNo tNoPart := fun σ H Q P w m s b s1 r h z => by
  cases h
  exact z H (.refl r)
theorem pr_so {f : Mac} : PrR k W (pSo f) (tPart (tM k W f)) := fun σ H Q P w m s b s1 r h z => by
  unfold pSo at h
  refine ⟨P, w, m, s, r, ?_⟩
  cases q1 : f s with
  | err _ _ _ _ => rw [q1] at h; cases h
  | bad => rw [q1] at h; cases h
  | ok a s2 e2 =>
    rw [q1] at h
    cases e2 with
    | true => cases h
    | false =>
      dsimp only at h
      intro v H1 A1 w1 m1 g p
      cases q2 : a.d.int? with
      | none => rw [q2] at h; cases h
      | some i =>
        rw [q2] at h
        cases h
        rw [int?_eq q2] at p
        obtain ⟨_, rfl, rfl⟩ := g.fl rfl
        exact ⟨i, rep_of_int p, z H1 g.bare⟩
/-- x[lo:hi] -/
def opSl (lo hi : Option Int) (a : Val) (s : MSt) : Res Val := match der s a.d with
  | some (.lst l) => match rowO a (cutD l lo hi) with
    | some o => .ok ⟨o, .lst (cutD l lo hi)⟩ s false
    | none => .bad
  | some (.fls l) => match rowO a (cutD l lo hi) with
    | some o => .ok ⟨o, .lst (cutD l lo hi)⟩ s false
    | none => .bad
  | some (.tup l) => .ok ⟨inO a (.tup (cutD l lo hi)), .tup (cutD l lo hi)⟩ s false
  | some (.str z) => bif decide (z.length ≤ sizeLine) then .ok ⟨.al, .str (cutS z lo hi)⟩ s false else .bad
  | _ => .bad
def eSl (f : Mac) (lo hi : Prt) : Mac := fun s => match f s with
  | .ok a s1 e1 => match lo s1 with
    | some (l, s2) => match hi s2 with
      | some (h, s3) => (opSl l h a s3).ef e1
      | none => .bad
    | none => .bad
  | .err c ns l s' => .err c ns l s'
  | .bad => .bad
def rSlX (K : PySem.W.Frag) : V → Option Int → Option Int → Hp → VK → Prop := fun x lo hi H Q => rSlL K x lo hi H Q ∨ rSlA K x lo hi H Q ∨ rSlS x lo hi H Q
theorem cutD_all {lo hi : Option Int} (h : HT.sIx l.length 0 lo = 0 ∧ HT.sIx l.length l.length hi = l.length) : cutD l lo hi = l := by
  unfold cutD
  rw [h.1, h.2, Nat.sub_zero, List.drop_zero, List.take_length]
theorem sl_read {f : Mac} {lo hi : Prt} {tl th : TO} (hl : PrR k W lo tl) (hh : PrR k W hi th) (h : tM k W (eSl f lo hi) σ H Q) : tSl (rSlX k.K) (tM k W f) tl th σ H Q := by
  obtain ⟨P, w, m, s, r, h⟩ := h
  refine ⟨P, w, m, s, r, ?_⟩
  unfold eSl at h
  cases q1 : f s with
  | err c ns l s' =>
    rw [q1] at h
    exact h
  | bad =>
    rw [q1] at h
    exact h
  | ok a s1 e1 =>
    rw [q1] at h
    dsimp only at h
    intro x H1 A w1 m1 g1 p1
    cases q2 : lo s1 with
    | none =>
      rw [q2] at h
      exact h.elim
    | some y =>
      obtain ⟨l1, s2⟩ := y
      rw [q2] at h
      dsimp only at h
      refine hl σ H1 _ (plus A P) w1 m1 s1 l1 s2 g1.sr q2 fun H2 g2 => ?_
      cases q3 : hi s2 with
      | none =>
        rw [q3] at h
        exact h.elim
      | some y =>
        obtain ⟨h1, s3⟩ := y
        rw [q3] at h
        dsimp only at h
        refine hh σ H2 _ (plus A P) w1 m1 s2 h1 s3 g2.srn q3 fun H3 g3 => ?_
        have g4 : Stg k (plus A P) σ w1 m1 H1 [] w1 m1 H3 s3 false := g2.trans (by rw [plus_nil]; exact g3)
        have g5 : Stg k P σ w m H A w1 m1 H3 s3 e1 := by
          have z := g1.trans g4
          rw [List.append_nil, Bool.or_false] at z
          exact z
        have sm := (g4.fl rfl).1
        have pf : Same (fz (plus A P) w1 H1) (fz (plus A P) w1 H3) := by
          have z := g4.fz
          rw [plus_nil] at z
          exact z
        have p2 : RepO k m1 (fz (plus A P) w1 H3) H3 a.o A x a.d := p1.move pf (Keep.of_same sm) Pre.refl fun _ => sm
        unfold opSl at h
        cases q4 : der s3 a.d with
        | none =>
          rw [q4] at h
          exact h.elim
        | some d =>
          rw [q4] at h
          have bse : ∀ {l : List MM.D}, d.lst? = some l → ∃ c xs, x = .ref c ∧ SqL k.K H3 c xs ∧ RepL k m1 H3 xs l ∧ (nb a = true → RepL k m1 (fz P w1 H3) xs l) := fun z => base_lst g5 p2 (fun _ z => z) (by rw [q4]; exact z)
          cases d with
          | lst l =>
            dsimp only at h
            cases q5 : rowO a (cutD l l1 h1) with
            | none =>
              rw [q5] at h
              exact h.elim
            | some o =>
              rw [q5] at h
              obtain ⟨c, xs, rfl, hs, hr, hf⟩ := bse (l := l) rfl
              exact .inl ⟨c, xs, rfl, hs, new_row g5 (cut_rep hr) (fun n => cut_rep (hf n)) q5 h⟩
          | fls l =>
            dsimp only at h
            cases q5 : rowO a (cutD l l1 h1) with
            | none =>
              rw [q5] at h
              exact h.elim
            | some o =>
              rw [q5] at h
              obtain ⟨c, xs, rfl, hs, hr, hf⟩ := bse (l := l) rfl
              exact .inl ⟨c, xs, rfl, hs, new_row g5 (cut_rep hr) (fun n => cut_rep (hf n)) q5 h⟩
          | tup l =>
            dsimp only at h
            obtain ⟨c, xs, rfl, hs, hr, hf⟩ := base_tup (l := l) g5 p2 (fun _ z => z) (by rw [q4]; rfl)
            refine .inr (.inl ⟨c, xs, rfl, hs, fun z => ?_, fun _ => new_tup g5 (cut_rep hr) (fun n => cut_rep (hf n)) h⟩)
            rw [hr.len] at z
            rw [cutD_all z] at h
            refine ans g5 h (inO_rep (.tup hs hr) fun n => ?_)
            have z2 := der_free g5 p2 (fun _ z => z) q4 n
            exact z2
          | str z =>
            dsimp only at h
            by_cases hz : z.length ≤ sizeLine
            · rw [decide_eq_true hz] at h
              have ex := base_str g5 p2 (Same.trans g5.fzl fz_same) (by rw [q4]; rfl)
              exact .inr (.inr ⟨z, ex, hz, ansS g5 h⟩)
            · rw [decide_eq_false hz] at h
              exact h.elim
          | _ => exact h.elim
theorem pe_slM {o : Expr} {lo hi : Option Expr} {pos p2 : Pos} {f : Mac} {l h : Prt} {tl th : TO} (ho : PE X o (tM k W f)) (hl : PO X lo tl) (hh : PO X hi th) (rl : PrR k W l tl) (rh : PrR k W h th) (hK : X.K = k.K := by rfl) : PE X (.Subscript o (.Slice lo hi none p2) pos) (tM k W (eSl f l h)) := by
  have hr : SlR X (rSlX k.K) := by
    rw [← hK]
    intro pins s σ H x v vl vu lo hi sl Q I rx hs pl pu q
    rcases q with q | q | q
    · exact sl_list pins s σ H x v vl vu lo hi sl Q I rx hs pl pu q
    · exact sl_tupA pins s σ H x v vl vu lo hi sl Q I rx hs pl pu q
    · exact sl_str pins s σ H x v vl vu lo hi sl Q I rx hs pl pu q
  exact pe_mono (pe_slice hr ho hl hh) fun σ H Q h => sl_read rl rh h
/-! ### list(x), tuple(x) -/
def opList : VOp := fun as s => match as with
  | [a] => match (der s a.d).bind D.seq? with
    | some l => match rowO a l with
      | some o => .ok ⟨o, .lst l⟩ s false
      | none => .bad
    | none => .bad
  | _ => .bad
theorem fit_list : Fit k (rListOf k.K) opList := fun W σ Q xs H h => by
  obtain ⟨P, w0, m0, H0, w, m, s, as, A, e, g1, p, h⟩ := h
  unfold opList at h
  rcases as with _ | ⟨a, _ | ⟨b, as⟩⟩
  · exact h.elim
  rotate_left
  · exact h.elim
  obtain ⟨x, rfl⟩ : ∃ x, xs = [x] := by
    have z := p.len
    match xs, z with
    | [x], _ => exact ⟨x, rfl⟩
  obtain ⟨a', ea, p1⟩ := p.one_inv
  cases ea
  dsimp only at h
  obtain ⟨l, q1⟩ : ∃ zz, (der s a.d).bind D.seq? = some zz := by
    cases q : (der s a.d).bind D.seq? with
    | none => exfalso; simp only [q] at h; exact h
    | some z => exact ⟨z, rfl⟩
  simp only [q1] at h
  obtain ⟨o, q2⟩ : ∃ zz, rowO a l = some zz := by
    cases q : rowO a l with
    | none => exfalso; simp only [q] at h; exact h
    | some z => exact ⟨z, rfl⟩
  simp only [q2] at h
  obtain ⟨c, ys, rfl, hs, hr, hf⟩ := base_seq g1 p1 (fun _ z => z) q1
  exact ⟨c, ys, rfl, hs, new_row g1 hr hf q2 h⟩
theorem cr_listOf (hK : X.K = k.K := by rfl) : CallR X (.type "list") (rListOf k.K) := by
  rw [← hK]
  exact call_list_of
def opTuple : VOp := fun as s => match as with
  | [a] => match (der s a.d).bind D.seq? with
    | some l => .ok ⟨inO a (.tup l), .tup l⟩ s false
    | none => .bad
  | _ => .bad
theorem fit_tuple : Fit k (rTupOf k.K) opTuple := fun W σ Q xs H h => by
  obtain ⟨P, w0, m0, H0, w, m, s, as, A, e, g1, p, h⟩ := h
  unfold opTuple at h
  rcases as with _ | ⟨a, _ | ⟨b, as⟩⟩
  · exact h.elim
  rotate_left
  · exact h.elim
  obtain ⟨x, rfl⟩ : ∃ x, xs = [x] := by
    have z := p.len
    match xs, z with
    | [x], _ => exact ⟨x, rfl⟩
  obtain ⟨a', ea, p1⟩ := p.one_inv
  cases ea
  dsimp only at h
  obtain ⟨l, q1⟩ : ∃ zz, (der s a.d).bind D.seq? = some zz := by
    cases q : (der s a.d).bind D.seq? with
    | none => exfalso; simp only [q] at h; exact h
    | some z => exact ⟨z, rfl⟩
  simp only [q1] at h
  cases q4 : der s a.d with
  | none => rw [q4] at q1; cases q1
  | some d =>
    rw [q4] at q1
    have q1 : d.seq? = some l := q1
    cases d with
    | tup l2 =>
      cases q1
      obtain ⟨c, ys, rfl, hs, hr, hf⟩ := base_tup (l := l) g1 p1 (fun _ z => z) (by rw [q4]; rfl)
      exact ⟨c, ys, rfl, .inr ⟨hs, ans g1 h (inO_rep (.tup hs hr) fun n => der_free g1 p1 (fun _ z => z) q4 n)⟩⟩
    | lst l2 =>
      cases q1
      obtain ⟨c, ys, rfl, hs, hr, hf⟩ := base_lst (l := l) g1 p1 (fun _ z => z) (by rw [q4]; rfl)
      exact ⟨c, ys, rfl, .inl ⟨hs, new_tup g1 hr hf h⟩⟩
    | fls l2 =>
      cases q1
      obtain ⟨c, ys, rfl, hs, hr, hf⟩ := base_lst (l := l) g1 p1 (fun _ z => z) (by rw [q4]; rfl)
      exact ⟨c, ys, rfl, .inl ⟨hs, new_tup g1 hr hf h⟩⟩
    | _ => cases q1
theorem cr_tupOf (hK : X.K = k.K := by rfl) : CallR X (.type "tuple") (rTupOf k.K) := by
  rw [← hK]
  exact call_tuple_of
/-! ### list * int, list + list, tuple + tuple -/
theorem KeepT.trans' (g : Stg k P σ w0 m0 H0 A w m H s e) : KeepT H (fz P w H) := fun a u h n => by
  obtain ⟨h1, h2⟩ := g.sr.notree a u h n
  rw [fz_at (fun z => h1 (.inr z)) h2]
  exact h
theorem immL_split : ∀ {ds es : List MM.D}, immL (ds ++ es) = true → immL ds = true ∧ immL es = true
  | [], es, h => ⟨rfl, h⟩
  | d :: ds, es, h => by
    obtain ⟨h1, h2⟩ := Bool.and_eq_true_iff.mp (show (imm d && immL (ds ++ es)) = true from h)
    obtain ⟨h3, h4⟩ := immL_split h2
    exact ⟨by show (imm d && immL ds) = true; rw [h1, h3]; rfl, h4⟩
def opRep : VOp := fun as s => match as with
  | [a, b] => match a.d, b.d.int? with
    | .lst l, some n => bif decide (-(2 ^ 63) ≤ n) && decide (n < 2 ^ 63) && decide (l.length * n.toNat ≤ 16000000) then (match rowO a (List.replicate n.toNat l).flatten with
      | some o => .ok ⟨o, .lst (List.replicate n.toNat l).flatten⟩ s false
      | none => .bad) else .bad
    | _, _ => .bad
  | _ => .bad
theorem RepL.rep {F : Hp} {vs : List V} {ds : List MM.D} (h : RepL k m F vs ds) : ∀ n : Nat, RepL k m F (List.replicate n vs).flatten (List.replicate n ds).flatten
  | 0 => .nil
  | n + 1 => by
    rw [List.replicate_succ, List.replicate_succ, List.flatten_cons, List.flatten_cons]
    exact h.app (RepL.rep h n)
theorem immL_rep {ds : List MM.D} (h : immL ds = true) : ∀ n : Nat, immL (List.replicate n ds).flatten = true
  | 0 => rfl
  | n + 1 => by
    rw [List.replicate_succ, List.flatten_cons]
    exact immL_app h (immL_rep h n)
theorem fit_rep : Fit2 k rRep opRep := fun W σ Q x y H h => by
  obtain ⟨P, w0, m0, H0, w, m, s, as, A, e, g1, p, h⟩ := h
  obtain ⟨a, b, A1, A2, rfl, rfl, p1, p2⟩ := p.two_inv
  unfold opRep at h
  dsimp only at h
  cases q0 : a.d with
  | lst l =>
    rw [q0] at h
    obtain ⟨n, q2⟩ : ∃ zz, b.d.int? = some zz := by
      cases q : b.d.int? with
      | none => exfalso; simp only [q] at h; exact h
      | some z => exact ⟨z, rfl⟩
    simp only [q2] at h
    cases q3 : (decide (-(2 ^ 63) ≤ n) && decide (n < 2 ^ 63) && decide (l.length * n.toNat ≤ 16000000)) with
    | false =>
      rw [q3] at h
      exact h.elim
    | true =>
      rw [q3] at h
      simp only [Bool.and_eq_true, decide_eq_true_eq] at q3
      obtain ⟨⟨c2, c3⟩, c4⟩ := q3
      have qs : (der s a.d).bind D.seq? = some l := by rw [q0]; rfl
      obtain ⟨c', zs', ex', _, hr', hf⟩ := base_seq g1 p1 (by intro z hz; simp [hz]) qs
      obtain ⟨c, zs, rfl, hc, hr⟩ := p1.lst_see (Same.trans g1.fzl fz_same) q0
      obtain ⟨o, ro⟩ : ∃ zz, rowO a (List.replicate n.toNat l).flatten = some zz := by
        cases q : rowO a (List.replicate n.toNat l).flatten with
        | none => exfalso; simp only [q, cond_true] at h; exact h
        | some z => exact ⟨z, rfl⟩
      simp only [ro, cond_true] at h
      rw [int?_eq q2] at p2
      refine ⟨c, n, zs, rfl, rep_of_int p2, hc, c2, c3, by rw [hr.len, sizeLine_eq]; omega, ?_⟩
      refine new_row g1 (hr.rep _) (fun nn => ?_) ro h
      have fr := der_free g1 p1 (by intro z hz; simp [hz]) (show der s a.d = some (.lst l) by rw [q0]; rfl) nn
      cases fr with
      | lst h1 r2 =>
        have h1 := fz_same _ _ h1
        rw [hc] at h1
        cases h1
        exact r2.rep _
  | _ =>
    rw [q0] at h
    exact h.elim
def opCat : VOp := fun as s => match as with
  | [a, b] => match a.d, b.d with
    | .lst l, .lst r => bif decide (l.length < 8000000) && decide (r.length < 8000000) then (bif immL l && immL r then .ok ⟨.al, .lst (l ++ r)⟩ s false else bif nb a && nb b then .ok ⟨.sp, .lst (l ++ r)⟩ s false else .bad) else .bad
    | _, _ => .bad
  | _ => .bad
theorem fit_cat : Fit2 k rCat opCat := fun W σ Q x y H h => by
  obtain ⟨P, w0, m0, H0, w, m, s, as, A, e, g1, p, h⟩ := h
  obtain ⟨a, b, A1, A2, rfl, rfl, p1, p2⟩ := p.two_inv
  unfold opCat at h
  dsimp only at h
  cases q0 : a.d with
  | lst l =>
    cases q1 : b.d with
    | lst r =>
      rw [q0, q1] at h
      dsimp only at h
      cases q2 : (decide (l.length < 8000000) && decide (r.length < 8000000)) with
      | false =>
        rw [q2] at h
        exact h.elim
      | true =>
        rw [q2] at h
        simp only [Bool.and_eq_true, decide_eq_true_eq] at q2
        obtain ⟨c, zs, rfl, hc, hr⟩ := p1.lst_see (Same.trans g1.fzl fz_same) q0
        obtain ⟨c2, zs2, rfl, hc2, hr2⟩ := p2.lst_see (Same.trans g1.fzl fz_same) q1
        refine ⟨c, c2, zs, zs2, rfl, rfl, hc, hc2, by rw [hr.len, hr2.len, sizeLine_eq]; omega, ?_⟩
        cases q3 : (immL l && immL r) with
        | true =>
          rw [q3] at h
          obtain ⟨i1, i2⟩ := Bool.and_eq_true_iff.mp q3
          have ro : rowO a (l ++ r) = some .al := by
            unfold rowO
            rw [immL_app i1 i2]
            rfl
          exact new_row g1 (hr.app hr2) (fun _ => (hr.app hr2).immT (KeepT.trans' g1) Pre.refl (immL_app i1 i2)) ro h
        | false =>
          rw [q3] at h
          cases q4 : (nb a && nb b) with
          | false =>
            rw [q4] at h
            exact h.elim
          | true =>
            rw [q4] at h
            obtain ⟨n1, n2⟩ := Bool.and_eq_true_iff.mp q4
            have f1 : RepL k m (fz P w H) zs l := by
              have z := der_free g1 p1 (by intro z hz; simp [hz]) (d := .lst l) (by rw [q0]; rfl) n1
              cases z with
              | lst h1 r1 =>
                have e1 := (fz_inv h1).2.2
                rw [hc] at e1
                cases e1
                exact r1
            have f2 : RepL k m (fz P w H) zs2 r := by
              have z := der_free g1 p2 (by intro z hz; simp [hz]) (d := .lst r) (by rw [q1]; rfl) n2
              cases z with
              | lst h1 r1 =>
                have e1 := (fz_inv h1).2.2
                rw [hc2] at e1
                cases e1
                exact r1
            have ro : rowO a (l ++ r) = some .sp := by
              unfold rowO
              have im : immL (l ++ r) = false := by
                cases z : immL (l ++ r) with
                | false => rfl
                | true =>
                  have z2 := immL_split z
                  rw [z2.1, z2.2] at q3
                  cases q3
              rw [im, n1]
              rfl
            exact new_row g1 (hr.app hr2) (fun _ => f1.app f2) ro h
    | _ =>
      rw [q0, q1] at h
      exact h.elim
  | _ =>
    rw [q0] at h
    exact h.elim
end
end MM

/-! Values taken out of slots, slots given up, new cells, errors. -/
namespace MM
open PySem PySem.Spec PyProof.Rows L2 GB
/-- the slot's own value, taken out of it -/
def eMv (i : Nat) : Mac := fun s => match s.env[i]? with
  | some (some a) => .ok a (put s (.inl i) none) true
  | _ => .bad
def share (s : MSt) (i : Nat) : MSt := match s.env[i]? with
  | some (some a) => put s (.inl i) (some ⟨.sh, a.d⟩)
  | _ => s
/-- slots are given up ahead of a statement -/
def mShare (l : List Nat) (f : Mas) : Mas := fun s => f (l.foldl share s)
/-- a new cell -/
def newCell (s : MSt) (a : Val) : MSt := ⟨s.env, s.cells ++ [some a]⟩
def isRoot : MM.D → Bool
  | .lst _ => true | .dct _ _ => true | .obj _ _ _ => true | _ => false
def mSetRef (i : Nat) (f : Mac) : Mas := fun s => match f s with
  | .ok a s1 _ => bif imm a.d && decide (a.o ≠ .bo) && decide (i < s1.env.length) then .ok .nx (put s1 (.inl i) (some (stO true a))) true else bif (decide (a.o = .al) || decide (a.o = .sp)) && isRoot a.d && decide (i < s1.env.length) then .ok .nx (put (newCell s1 a) (.inl i) (some ⟨.al, .ref s1.cells.length⟩)) true else .bad
  | .err c ns l s' => .err c ns l s'
  | .bad => .bad
def mRaise (c : Str) (ns : List Str) (f : Macs) : Mas := fun s => match f s with
  | .ok as s1 _ => bif anyBo as || decide (as.length ≠ ns.length) then .bad else .err c ns.reverse (dsOf as).reverse s1
  | .err c ns l s' => .err c ns l s'
  | .bad => .bad
section
variable {k : Ks} {W : WX} {P : Addr → Prop} {w w1 w2 w0 : Ow} {m m1 m2 m0 : List Addr} {σ σ1 : L2.St} {H H1 H2 H0 : Hp} {A B : List Addr} {e e2 : Bool} {s s1 s2 : MSt} {X : Cx} {Q : VK} {D : Ends}
theorem mv_read {i : Nat} (h : tM k W (eMv i) σ H Q) : tVar i σ H Q := by
  obtain ⟨P, w, m, s, r, h⟩ := h
  unfold eMv at h
  cases q : s.env[i]? with
  | none =>
    rw [q] at h
    exact h.elim
  | some y =>
    cases y with
    | none =>
      rw [q] at h
      exact h.elim
    | some a =>
      rw [q] at h
      obtain ⟨v, A, w', h1, g, p, nb⟩ := Stg.take r q
      exact ⟨v, h1, h v H A w' m g p⟩
theorem pe_mvM {i : Nat} {x : Str} {pos : Pos} (hN : X.N[i]? = some x) (hv : Vis X.env.scope x) (hd : (x == ("__debug__" : Str)) = false := by decide) (hcd : (x == ("__classdict__" : Str)) = false := by decide) : PE X (.Name x pos) (tM k W (eMv i)) :=
  pe_mono (pe_var hN hv hd hcd) fun _ _ _ h => mv_read h
theorem Stg.share {i : Nat} (g : Stg k P σ w0 m0 H0 [] w m H s e) : ∃ w', Stg k P σ w0 m0 H0 [] w' m H (MM.share s i) true := by
  unfold MM.share
  cases q : s.env[i]? with
  | none => exact ⟨w, g.ef fun z => nomatch z⟩
  | some y =>
    cases y with
    | none => exact ⟨w, g.ef fun z => nomatch z⟩
    | some a =>
      dsimp only
      obtain ⟨v, A, h1, h2, h3, h4, h5⟩ := g.srn.env i a.o a.d q
      refine ⟨own w (.inl i) [], g.put (B := []) (A' := []) (fun _ _ h _ => h) ?_ (by simp) (by simp) List.nodup_nil rfl (fun j hj => rfl) (fun j z => nomatch z) ?_⟩
      · rintro b (z | z | z)
        · simp at z
        · simp at z
        · exact g.srn.wr b (.inr (by rw [z]; simp))
      · intro y hy
        cases hy
        refine ⟨v, by show (σ[i]?).bind id = some v; rw [h1]; rfl, .sh ?_, List.nodup_nil, by intro z; cases z⟩
        rw [plus_nil]
        have f : Same (MM.fz P w H) (MM.fz P (own w (.inl i) []) H) := fz_step fun b u hu n1 n2 => ⟨hu, n1, own_none (by simp) n2⟩
        refine h2.rep f (fun b u hu z => ?_) fun z => absurd z h5
        rcases z with z | z
        · have wb := h4 b z
          rw [fz_at (fun y => by have := g.srn.dis b y; rw [wb] at this; cases this) (by rw [own_out (by simp), if_pos wb])]
          exact hu
        · have n := g.srn.notree b u hu z
          rw [fz_at n.1 (own_none (by simp) n.2)]
          exact hu
theorem Stg.shares : ∀ (l : List Nat) {w : Ow} {s : MSt} {e : Bool}, Stg k P σ w0 m0 H0 [] w m H s e → ∃ w', Stg k P σ w0 m0 H0 [] w' m H (l.foldl MM.share s) true
  | [], _, _, _, g => ⟨_, g.ef fun z => nomatch z⟩
  | i :: l, _, _, _, g => by
    obtain ⟨w', g'⟩ := g.share (i := i)
    exact Stg.shares l g'
theorem ps_shareM {st : Stmt} {f : Mas} (l : List Nat) (h : PS X st (tMS k W f)) : PS X st (tMS k W (mShare l f)) := ps_mono h fun D σ H h => by
  obtain ⟨P, w, m, s, r, h⟩ := h
  obtain ⟨w', g⟩ := Stg.shares l (Stg.refl r)
  exact ⟨P, w', m, _, g.srn, PostS.base g h⟩
theorem SR.ext {c : Addr} (r : SR k P w m σ H s) : SR k P w (m ++ [c]) σ H ⟨s.env, s.cells ++ [none]⟩ := by
  refine ⟨r.wr, r.dis, r.len, by rw [List.length_append, List.length_append, r.mlen]; rfl, fun i o d h => ?_, fun j o d h => ?_⟩
  · obtain ⟨v, A, h1, h2, h3⟩ := r.env i o d h
    exact ⟨v, A, h1, h2.move (fun _ _ z => z) (fun _ _ z _ => z) Pre.app (fun _ _ _ z => z), h3⟩
  · have h : (s.cells ++ [none])[j]? = some (some ⟨o, d⟩) := h
    have lt : j < s.cells.length := by
      by_cases z : j < s.cells.length
      · exact z
      · exfalso
        rw [List.getElem?_append_right (by omega)] at h
        cases q : j - s.cells.length with
        | zero => rw [q] at h; cases h
        | succ n => rw [q] at h; cases h
    rw [List.getElem?_append_left lt] at h
    obtain ⟨a, A, h1, h2, h3⟩ := r.cel j o d h
    exact ⟨a, A, Pre.app _ _ h1, h2.move (fun _ _ z => z) (fun _ _ z _ => z) Pre.app (fun _ _ _ z => z), h3⟩
theorem put_new {a : Val} : MM.put ⟨s.env, s.cells ++ [none]⟩ (.inr s.cells.length) (some a) = newCell s a := by
  show (⟨s.env, (s.cells ++ [none]).set s.cells.length (some a)⟩ : MSt) = ⟨s.env, s.cells ++ [some a]⟩
  rw [List.set_append_right _ _ (Nat.le_refl _), Nat.sub_self]
  rfl
theorem Stg.push {a : Val} {c : Addr} (g : Stg k P σ w0 m0 H0 A w m H s e) (p : RepO k m (MM.fz (plus A P) w H) H a.o A (.ref c) a.d) (nb : a.o ≠ .bo) : ∃ w', Stg k P σ w0 m0 H0 [] w' (m ++ [c]) H (newCell s a) true := by
  have g1 : Stg k P σ w0 m0 H0 A w (m ++ [c]) H ⟨s.env, s.cells ++ [none]⟩ true := ⟨g.sr.ext, ⟨g.st.keep, g.st.pre.trans Pre.app⟩, g.nd, fun z => (nomatch z), g.off⟩
  have ml := g.sr.mlen
  have at_ : (m ++ [c])[s.cells.length]? = some c := by rw [ml, List.getElem?_append_right (Nat.le_refl _), Nat.sub_self]; rfl
  refine ⟨own w (.inr s.cells.length) A, ?_⟩
  have g2 := g1.put (q := .inr s.cells.length) (B := []) (A' := A) (σ' := σ) (H' := H) (x := some a) (fun _ _ h _ => h) ?_ (fun b hb => .inl hb) (by simp) List.nodup_nil rfl (fun j hj => rfl) ?_ ?_
  · rw [put_new] at g2
    exact g2
  · rintro b (z | z | z)
    · exact p.wr b z
    · simp at z
    · exact g.sr.wr b (.inr (by rw [z]; simp))
  · rintro j hj
    cases hj
    rw [at_]
    simp
  · intro y hy
    cases hy
    refine ⟨.ref c, ?_, p.move ?_ (fun _ _ z _ => z) Pre.app (fun z => absurd z nb), g.nd, nb⟩
    · show ((m ++ [c])[s.cells.length]?).map V.ref = _
      rw [at_]
      rfl
    · exact fz_step fun b u hu n1 n2 => ⟨hu, fun z => z.elim (by simp) (fun y => n1 (.inr y)), own_none (fun z => n1 (.inl z)) n2⟩
theorem root_ref {F : Hp} {a : Val} {v : V} (p : RepO k m F H a.o A v a.d) (f : Same F H) (h : isRoot a.d = true) : ∃ c, v = .ref c := by
  have see := p.see f
  cases q : a.d with
  | lst l => rw [q] at see; cases see; exact ⟨_, rfl⟩
  | dct ks l => rw [q] at see; cases see; exact ⟨_, rfl⟩
  | obj c ns l => rw [q] at see; cases see; exact ⟨_, rfl⟩
  | _ => rw [q] at h; cases h
theorem setRef_read {i : Nat} {f : Mac} (h : tMS k W (mSetRef i f) D σ H) : tM k W f σ H fun v H1 => D.nx (σ.set i (some v)) H1 := by
  obtain ⟨P, w, m, s, r, h⟩ := h
  refine ⟨P, w, m, s, r, ?_⟩
  unfold mSetRef at h
  cases q : f s with
  | err c ns l s' =>
    rw [q] at h
    exact h σ
  | bad =>
    rw [q] at h
    exact h
  | ok a s1 e1 =>
    rw [q] at h
    dsimp only at h
    intro v H' A w' m' g p
    cases c0 : (imm a.d && decide (a.o ≠ .bo) && decide (i < s1.env.length)) with
    | true =>
      rw [c0] at h
      simp only [Bool.and_eq_true, decide_eq_true_eq] at c0
      obtain ⟨w2, g2⟩ := g.sto (fr := true) (i := i) p c0.1.2 c0.2
      exact h _ _ w2 m' g2
    | false =>
    rw [c0] at h
    dsimp only [cond_false] at h
    cases c : ((decide (a.o = .al) || decide (a.o = .sp)) && isRoot a.d && decide (i < s1.env.length)) with
    | false =>
      rw [c] at h
      exact h.elim
    | true =>
      rw [c] at h
      simp only [Bool.and_eq_true, Bool.or_eq_true, decide_eq_true_eq] at c
      obtain ⟨⟨c1, c2⟩, c3⟩ := c
      have nb : a.o ≠ .bo := by rintro z; rw [z] at c1; rcases c1 with c1 | c1 <;> cases c1
      obtain ⟨b, rfl⟩ := root_ref p fz_same c2
      obtain ⟨w2, g2⟩ := g.push p nb
      have at_ : (m' ++ [b])[s1.cells.length]? = some b := by rw [g.sr.mlen, List.getElem?_append_right (Nat.le_refl _), Nat.sub_self]; rfl
      have g3 := g2.set (i := i) (a := ⟨.al, .ref s1.cells.length⟩) (v := .ref b) (.al (.imm (.ref at_) rfl)) (by intro z; cases z) c3
      exact h _ _ _ _ g3
theorem ps_setRefM {i : Nat} {x : Str} {e : Expr} {f : Mac} {pos pos' : Pos} (hN : X.N.Nodup) (hi : X.N[i]? = some x) (hx : Loc X.env.scope x) (he : PE X e (tM k W f)) (hs : swapsWith e (some (.Name x pos')) pos.line X.env = pure false := by rfl) (hf : X.fn x = true ∨ X.env.scope.names.lookup x = some .local := by first | exact .inl rfl | exact .inr rfl | assumption) :
    PS X (.Assign [.Name x pos'] e pos) (tMS k W (mSetRef i f)) := ps_mono (ps_set hN hi hx he hs hf) fun D σ H h => setRef_read h
/-! ### raise -/
theorem zip_rev {α β : Type} {a : List α} {b : List β} (h : a.length = b.length) : (a.zip b).reverse = a.reverse.zip b.reverse := by
  induction a generalizing b with
  | nil => cases b <;> first | rfl | cases h
  | cons x a ih =>
    cases b with
    | nil => cases h
    | cons y b =>
      have h' : a.length = b.length := by simpa using h
      rw [List.zip_cons_cons, List.reverse_cons, List.reverse_cons, List.reverse_cons, ih h', List.zip_append (by simp [h'])]
      rfl
theorem raise_read {c : Str} {C : Addr} {ns : List Str} {f : Macs} (gm : k.mg c = some (.ref C)) (h : tMS k W (mRaise c ns f) D σ H) : tRaiseEr C ns W (tMA k W f) D σ H := by
  obtain ⟨P, w, m, s, r, h⟩ := h
  refine ⟨P, w, m, s, r, ?_⟩
  unfold mRaise at h
  cases q : f s with
  | err c ns l s' =>
    rw [q] at h
    exact h σ
  | bad =>
    rw [q] at h
    exact h
  | ok as s1 e1 =>
    rw [q] at h
    dsimp only at h
    intro vs H' A w' m' g p
    cases c2 : (anyBo as || decide (as.length ≠ ns.length)) with
    | true =>
      rw [c2] at h
      exact h.elim
    | false =>
      rw [c2] at h
      obtain ⟨c3, c4⟩ := Bool.or_eq_false_iff.mp c2
      have ln : as.length = ns.length := by simpa using c4
      have lv := p.len
      refine ⟨by omega, fun dd H2 sm nd hd => ?_⟩
      have g2 := g.bare.same sm
      refine h σ C dd vs.reverse H2 w' m' gm (by rw [List.length_reverse, List.length_reverse]; omega) (by rw [hd, zip_rev (by omega)]) ?_ g2.srn g2.st
      have fr := p.free g.fzl (g.give fun _ z => z) (fun _ z => z) c3
      exact (fr.mono (fz_step fun b u hu n1 n2 => ⟨sm _ _ hu, n1, n2⟩) Pre.refl).rev
theorem monoA_M {f : Macs} : MonoA (tMA k W f) := fun σ H Q Q' i h => tMA_mono i h
theorem ps_raiseM {x : Str} {C : Addr} {fl : List Str} {e : Expr} {es : List Expr} {f : Macs} {p pos pos2 : Pos} (hc : X.calm = true) (T : Er X.prog X.w X.K X.mg X.base x C fl) (hr : Room 2 X.A) (tk : Takes X W) (ha : PA X (e :: es) (tMA k W f)) (hm : k.mg = X.mg := by rfl) (hg : Gl X x := by rfl) (hdb : (x == ("__debug__" : Str)) = false := by decide)
    (he : starEach (e :: es) X.env = (false, eval e X.env) :: starEach es X.env := by rfl) (hpl : (backTo pos (starEach es X.env)).any (·.1) = false := by rfl) :
    PS X (.Raise (some (.Call (.Name x p) (e :: es) [] pos)) none pos2) (tMS k W (mRaise x fl f)) := ps_mono (ps_raiseEr hc T hr tk ha monoA_M hg hdb he hpl) fun D σ H h => raise_read (by rw [hm]; exact T.gm) h
end
end MM

/-! Chains of comparisons, pairs stored at once, small rules. -/
namespace MM
open PySem PySem.Spec PyProof.Rows L2 GB
section
variable {k : Ks} {W : WX} {P : Addr → Prop} {w w1 w2 w0 : Ow} {m m1 m2 m0 : List Addr} {σ σ1 : L2.St} {H H1 H2 H0 : Hp} {A B : List Addr} {e : Bool} {s s1 s2 : MSt} {X : Cx} {Q : VK} {D : Ends}
theorem takes0W {X : Cx} : Takes X W0 := takes0
theorem cr_ix (k : Ks) (hK : X.K = k.K := by rfl) : IxR X (rIx k.K) := by
  rw [← hK]
  exact ix_seq
theorem cr_in (hK : X.K = k.K := by rfl) : OpR X (compareOp .In) (rIn k.K false) := by
  rw [← hK]
  exact op_in_seq
theorem cr_notIn (hK : X.K = k.K := by rfl) : OpR X (compareOp .NotIn) (rIn k.K true) := by
  rw [← hK]
  exact op_notIn_seq
theorem cr_eqD {j : Nat} (hr : Room j X.A) (hK : X.K = k.K := by rfl) : OpR X (compareOp .Eq) (rEqD k.K) := by
  rw [← hK]
  exact op_eqD (eu_of hr)
theorem cr_neD {j : Nat} (hr : Room j X.A) (hK : X.K = k.K := by rfl) : OpR X (compareOp .NotEq) (rNeD k.K) := by
  rw [← hK]
  exact op_neD (eu_of hr)
theorem cr_sumM (hc : X.calm = true) (hK : X.K = k.K := by rfl) : CallR X (.builtin "sum") (rSum k.K) := by
  rw [← hK]
  exact cr_sum hc
theorem cr_minM (hc : X.calm = true) (hK : X.K = k.K := by rfl) : CallR X (.builtin "min") (rMin k.K) := by
  rw [← hK]
  exact cr_min hc
theorem cr_maxM (hc : X.calm = true) (hK : X.K = k.K := by rfl) : CallR X (.builtin "max") (rMax k.K) := by
  rw [← hK]
  exact cr_max hc
theorem cr_allM (hc : X.calm = true) (hK : X.K = k.K := by rfl) : CallR X (.builtin "all") (rAll k.K) := by
  rw [← hK]
  exact cr_all hc
theorem cr_anyM (hc : X.calm = true) (hK : X.K = k.K := by rfl) : CallR X (.builtin "any") (rAny k.K) := by
  rw [← hK]
  exact cr_any hc
theorem tgNil_n : ∀ as s s', tgNil as s = some s' → as.length = 0 := fun as s s' h => by
  unfold tgNil at h
  cases as <;> first | rfl | cases h
theorem tgCons_n {T : Tgt} {Ts : List Val → MSt → Option MSt} {n : Nat} (h : ∀ as s s', Ts as s = some s' → as.length = n) : ∀ as s s', tgCons T Ts as s = some s' → as.length = n + 1 := fun as s s' q => by
  unfold tgCons at q
  cases as with
  | nil => cases q
  | cons a r =>
    obtain ⟨s1, _, q2⟩ := Option.bind_eq_some_iff.mp q
    rw [List.length_cons, h _ _ _ q2]
/-! ### a < b < c, of ints -/
def kCh (p1 p2 : Int → Int → Bool) (h : Mac) : VOp := fun as s1 => match as with
  | [a, b] => match a.d.int?, b.d.int? with
    | some i, some j => bif p1 i j then (h s1).bind fun c s2 => (match c.d.int? with
        | some z => .ok ⟨.al, .bl (p2 j z)⟩ s2 false
        | none => .bad) else .ok ⟨.al, .bl false⟩ s1 false
    | _, _ => .bad
  | _ => .bad
def eCh (p1 p2 : Int → Int → Bool) (f g h : Mac) : Mac := e2 f g (kCh p1 p2 h)
theorem ch_read {p1 p2 : Int → Int → Bool} {f g h : Mac} (z : tM k W (eCh p1 p2 f g h) σ H Q) : tChain (rI0 fun i j => .bl (p1 i j)) (rI0 fun i j => .bl (p2 i j)) (tM k W f) (tM k W g) (tM k W h) σ H Q := by
  refine tM_mono (fun x H1 z => tM_mono (fun y H2 z => ?_) z) (read2 z)
  obtain ⟨P, w0, m0, H0, w, m, s, as, A, e, g1, p, z⟩ := z
  obtain ⟨a, b, A1, A2, rfl, rfl, pa, pb⟩ := p.two_inv
  unfold kCh at z
  dsimp only at z
  cases q1 : a.d.int? with
  | none =>
    rw [q1] at z
    exact z.elim
  | some i =>
    cases q2 : b.d.int? with
    | none =>
      rw [q1, q2] at z
      exact z.elim
    | some j =>
      rw [q1, q2] at z
      dsimp only at z
      rw [int?_eq q1] at pa
      rw [int?_eq q2] at pb
      refine ⟨i, j, rep_of_int pa, rep_of_int pb, p1 i j, rfl, ?_⟩
      cases c : p1 i j with
      | false =>
        rw [c] at z
        rw [if_neg Bool.false_ne_true]
        exact ansB g1 z
      | true =>
        rw [c] at z
        rw [if_pos rfl]
        have z2 := PostE.base g1.bare z
        have z3 : tM k W (fun s1 => (h s1).bind fun c s2 => (match c.d.int? with | some z => .ok ⟨.al, .bl (p2 j z)⟩ s2 false | none => .bad)) σ H2 Q := ⟨P, w, m, s, g1.bare.srn, z2⟩
        refine tM_mono (fun x2 H3 z4 => ?_) (tM_bind z3)
        obtain ⟨P, w0, m0, H0, w, m, s, as, A, e, g2, p, z4⟩ := z4
        obtain ⟨a3, rfl, p3⟩ := p.one_inv
        have z4 : PostE k W P w0 m0 σ H0 Q ((match a3.d.int? with | some z => Res.ok ⟨.al, .bl (p2 j z)⟩ s false | none => .bad : Res Val).ef e) := z4
        cases q3 : a3.d.int? with
        | none =>
          rw [q3] at z4
          exact z4.elim
        | some n =>
          rw [q3] at z4
          rw [int?_eq q3] at p3
          exact ⟨j, n, rep_of_int pb, rep_of_int p3, ansB g2 z4⟩
theorem pe_chM {p1 p2 : Int → Int → Bool} {op op' : CmpOp} {f g h : Mac} {a b c : Expr} {pos : Pos} (ho : OpR X (compareOp op) (rI0 fun i j => .bl (p1 i j))) (ho' : OpR X (compareOp op') (rI0 fun i j => .bl (p2 i j))) (ha : PE X a (tM k W f)) (hb : PE X b (tM k W g)) (hc : PE X c (tM k W h))
    (hm : lastMarks [op, op'] [b, c] = false := by with_unfolding_all rfl) : PE X (.Compare a [op, op'] [b, c] pos) (tM k W (eCh p1 p2 f g h)) := pe_mono (pe_chain ho ho' ha hb hc hm) fun σ H Q z => ch_read z
theorem pt_chM {p1 p2 : Int → Int → Bool} {op op' : CmpOp} {f g h : Mac} {a b c : Expr} {pos : Pos} (ho : OpR X (compareOp op) (rI0 fun i j => .bl (p1 i j))) (ho' : OpR X (compareOp op') (rI0 fun i j => .bl (p2 i j))) (ha : PE X a (tM k W f)) (hb : PE X b (tM k W g)) (hc : PE X c (tM k W h))
    (hm : lastMarks [op, op'] [b, c] = false := by with_unfolding_all rfl) : PT X (.Compare a [op, op'] [b, c] pos) (tMT k W (tBl (eCh p1 p2 f g h))) := pt_mono (pt_chain ho ho' ha hb hc hm) fun σ H Q z => ch_read (tBl_read z)
/-! ### a, b = x, y -/
def mPar (fi fj : Bool) (i j : Nat) (f : Macs) : Mas := fun s => match f s with
  | .ok [a, b] s1 _ => bif decide (a.o = .bo) || decide (b.o = .bo) || decide (s1.env.length ≤ i) || decide (s1.env.length ≤ j) then .bad else .ok .nx (put (put s1 (.inl i) (some (stO fi a))) (.inl j) (some (stO fj b))) true
  | .err c ns l s' => .err c ns l s'
  | _ => .bad
theorem par_read {fi fj : Bool} {i j : Nat} {f : Macs} (h : tMS k W (mPar fi fj i j f) D σ H) : tPar i j (tMA k W f) D σ H := by
  obtain ⟨P, w, m, s, r, h⟩ := h
  refine ⟨P, w, m, s, r, ?_⟩
  unfold mPar at h
  cases q : f s with
  | err c ns l s' =>
    rw [q] at h
    exact h σ
  | bad =>
    rw [q] at h
    exact h
  | ok as s1 e1 =>
    rw [q] at h
    rcases as with _ | ⟨a, _ | ⟨b, _ | ⟨c, as⟩⟩⟩
    · exact h.elim
    · exact h.elim
    · dsimp only at h
      intro vs H' A w' m' g p
      cases c : (decide (a.o = .bo) || decide (b.o = .bo) || decide (s1.env.length ≤ i) || decide (s1.env.length ≤ j)) with
      | true =>
        rw [c] at h
        exact h.elim
      | false =>
        rw [c] at h
        simp only [Bool.or_eq_false_iff, decide_eq_false_iff_not] at c
        obtain ⟨⟨⟨c1, c2⟩, c3⟩, c4⟩ := c
        obtain ⟨x, y, rfl⟩ : ∃ x y, vs = [x, y] := by
          have z := p.len
          match vs, z with
          | [x, y], _ => exact ⟨x, y, rfl⟩
        obtain ⟨a', b', A1, A2, ea, rfl, pa, pb⟩ := p.two_inv
        cases ea
        refine ⟨x, y, rfl, ?_⟩
        -- first a, with b's kept aside
        have na := List.nodup_append.mp g.nd
        have pl : plus A1 (plus A2 P) = plus (A1 ++ A2) P := by
          funext b
          apply propext
          constructor
          · rintro (z | z | z)
            · exact .inl (by simp [z])
            · exact .inl (by simp [z])
            · exact .inr z
          · rintro (z | z)
            · rcases List.mem_append.mp z with z | z
              · exact .inl z
              · exact .inr (.inl z)
            · exact .inr (.inr z)
        have r1 : SR k (plus A1 (plus A2 P)) w' m' σ H' s1 := by rw [pl]; exact g.sr
        obtain ⟨wz, gz, hwz⟩ := SR.stg r1 (fun b hb z => z.elim (fun z => na.2.2 b hb b z rfl) (fun z => g.off b (by simp [hb]) z)) na.1
        obtain ⟨w2, g2⟩ := gz.sto (i := i) (fr := fi) (by rw [pl]; exact pa) c1 (by omega)
        have ow : ∀ b, w' b = none → b ∉ A1 → w2 b = none := fun b n nb => by
          obtain ⟨u, hu, _⟩ | hn : (∃ u, H' b = some u ∧ True) ∨ H' b = none := by
            cases q : H' b with
            | none => exact .inr rfl
            | some u => exact .inl ⟨u, rfl, trivial⟩
          · exact (g2.st.keep b u hu (hwz b n nb)).2.1
          · cases q : w2 b with
            | none => rfl
            | some x =>
              obtain ⟨u, hu, _⟩ := g2.srn.wr b (.inr (by rw [q]; simp))
              rw [hn] at hu
              cases hu
        have pb2 : RepO k m' (fz (plus A2 P) w2 H') H' b.o A2 y b.d := pb.move (fz_step fun c u hu z1 z2 => ⟨hu, fun z => z1 (z.imp (fun y => by simp [y]) id), ow c z2 fun z => z1 (.inl (by simp [z]))⟩) (fun _ _ z _ => z) Pre.refl fun _ _ _ z => z
        have g3 : Stg k P (σ.set i (some x)) w m H A2 w2 m' H' (put s1 (.inl i) (some (stO fi a))) true := by
          refine ⟨g2.srn, ⟨fun b u hu n => ?_, g.st.pre⟩, na.2.1, fun z => (nomatch z), fun b hb => g.off b (by simp [hb])⟩
          obtain ⟨z1, z2, z3⟩ := g.st.keep b u hu n
          exact ⟨z1, ow b z2 fun z => z3 (by simp [z]), fun z => z3 (by simp [z])⟩
        obtain ⟨w4, g4⟩ := g3.sto (i := j) (fr := fj) pb2 c2 (by show j < (s1.env.set i _).length; rw [List.length_set]; omega)
        exact h _ _ w4 m' g4
    · exact h.elim
theorem ps_parM (fi fj : Bool) {i j : Nat} {x y : Str} {a b : Expr} {f : Macs} {px py pt : Pos} {kt k2 pt2} {pos : Pos} (hc : X.calm = true) (hN : X.N.Nodup) (hi : X.N[i]? = some x) (hj : X.N[j]? = some y) (hij : i ≠ j)
    (hx : X.env.scope.names.lookup x = some .local) (hy : X.env.scope.names.lookup y = some .local) (ha : PA X [a, b] (tMA k W f))
    (hw : swappedStores [.Tuple [.Name x px, .Name y py] kt pt] (.Tuple [a, b] k2 pt2) X.env = pure (some [x, y]))
    (hs : swapsWithSole [.Tuple [.Name x px, .Name y py] kt pt] (.Tuple [a, b] k2 pt2) pos.line X.env = pure false := by rfl) :
    PS X (.Assign [.Tuple [.Name x px, .Name y py] kt pt] (.Tuple [a, b] k2 pt2) pos) (tMS k W (mPar fi fj i j f)) := ps_mono (ps_par hc hN hi hj hij hx hy ha hw hs) fun D σ H h => par_read h
/-! ### (a, b, ..) = a value -/
def mAsg (f : Mac) (T : Tgt) : Mas := fun s => match f s with
  | .ok a s1 _ => match T a s1 with
    | some s2 => .ok .nx s2 true
    | none => .bad
  | .err c ns l s' => .err c ns l s'
  | .bad => .bad
theorem asg_read {f : Mac} {js : List Nat} {T : Tgt} (h : tMS k W (mAsg f T) D σ H) : tAsg (tM k W f) (tMG k js T) D σ H := by
  obtain ⟨P, w, m, s, r, h⟩ := h
  refine ⟨P, w, m, s, r, ?_⟩
  unfold mAsg at h
  cases q : f s with
  | err c ns l s' =>
    rw [q] at h
    exact h σ
  | bad =>
    rw [q] at h
    exact h
  | ok a s1 e1 =>
    rw [q] at h
    dsimp only at h
    intro x H' A w' m' g p
    cases q2 : T a s1 with
    | none =>
      rw [q2] at h
      exact h.elim
    | some s2 =>
      rw [q2] at h
      refine ⟨P, w', m', s1, a, A, g.sr, g.off, g.nd, p, s2, q2, fun σ' w2 r2 ow _ => ?_⟩
      refine h σ' H' w2 m' ⟨by rw [plus_nil]; exact r2, ⟨fun b u hu n => ?_, g.st.pre⟩, List.nodup_nil, fun z => (nomatch z), by simp⟩
      obtain ⟨z1, z2, z3⟩ := g.st.keep b u hu n
      exact ⟨z1, ow b z2 z3, by simp⟩
theorem ps_asgM {tg e : Expr} {f : Mac} {js : List Nat} {T : Tgt} {pos : Pos} (he : PE X e (tM k W f)) (hg : PG X tg (tMG k js T)) (hs : swapsWithSole [tg] e pos.line X.env = pure false := by rfl) (hw : swappedStores [tg] e X.env = pure none := by rfl)
    (h1 : (assignEach [tg] X.env).map (·.2) = [assign tg X.env] := by rfl) : PS X (.Assign [tg] e pos) (tMS k W (mAsg f T)) := ps_mono (ps_asg he hg hs hw h1) fun D σ H h => asg_read h
/-! ### name = [..] -/
theorem set_readQ {fr : Bool} {i : Nat} {f : Mac} (h : tMS k W (mSet fr i f) D σ H) : tM k W f σ H fun v H1 => gName i v σ H1 D.nx := set_read h
theorem ps_setLcM (fr : Bool) {i : Nat} {y : Str} {py : Pos} {elt tg iter : Expr} {ifs : List Expr} {scope : Scope} {own : List (Str × Nat)} {pos spos : Pos} {it : Itm} {js : List Nat} {T : Tgt} {t : Mab} {f : Mac} (hc : X.calm = true) (hN : X.N.Nodup) (hy : X.N[i]? = some y) (hyl : X.env.scope.names.lookup y = some .local)
    (hsw : swapsWith (.ListComp elt [⟨tg, iter, ifs, 0⟩] scope pos) (some (.Name y py)) spos.line X.env = pure true) (hi : PI X tg iter (tMI k W it)) (ok : BlkOk X.N X.env.scope scope own)
    (hg : ∀ (s : Shared) (H : Hp) (C : Addr) (cl : List (Str × Addr)) (fp : List Addr), PG (X.blk s H scope (compEnvC scope cl C X.env) fp) tg (tMG k js T)) (ht : ∀ (s : Shared) (H : Hp) (C : Addr) (cl : List (Str × Addr)) (fp : List Addr), PTs (X.blk s H scope (compEnvC scope cl C X.env) fp) ifs (tMT k W0 t))
    (he : ∀ (s : Shared) (H : Hp) (C : Addr) (cl : List (Str × Addr)) (fp : List Addr), PE (X.blk s H scope (compEnvC scope cl C X.env) fp) elt (tM k W0 f)) (sub : ∀ j ∈ js, j ∈ own.map (·.2)) (hs : ∀ x, foldedSetIterable iter X.env x = pure x := by intro _; rfl) :
    PS X (.Assign [.Name y py] (.ListComp elt [⟨tg, iter, ifs, 0⟩] scope pos) spos) (tMS k W (mSet fr i (mComp it T t f (own.map (·.2))))) :=
  ps_mono (ps_setLc (i := i) hc hN hy hyl hsw hi ok hg ht he hs) fun D σ H h => comp_read sub (set_readQ h)
/-! ### texts, tuples, ints -/
def opCatS : VOp := fun as s => match as with
  | [a, b] => match a.d.str?, b.d.str? with
    | some x, some y => bif decide (x.length + y.length ≤ sizeLine) then .ok ⟨.al, .str (x ++ y)⟩ s false else .bad
    | _, _ => .bad
  | _ => .bad
theorem fit_catS : Fit2 k (fun x y H Q => ∃ i j, x = .str i ∧ y = .str j ∧ i.length + j.length ≤ sizeLine ∧ Q (.str (i ++ j)) H) opCatS := fun W σ Q x y H h => by
  obtain ⟨P, w0, m0, H0, w, m, s, as, A, e, g1, p, h⟩ := h
  obtain ⟨a, b, A1, A2, rfl, rfl, p1, p2⟩ := p.two_inv
  unfold opCatS at h
  dsimp only at h
  obtain ⟨x', q1⟩ : ∃ zz, a.d.str? = some zz := by
    cases q : a.d.str? with
    | none => exfalso; simp only [q] at h; exact h
    | some z => exact ⟨z, rfl⟩
  simp only [q1] at h
  obtain ⟨y', q2⟩ : ∃ zz, b.d.str? = some zz := by
    cases q : b.d.str? with
    | none => exfalso; simp only [q] at h; exact h
    | some z => exact ⟨z, rfl⟩
  simp only [q2] at h
  have hz : x'.length + y'.length ≤ sizeLine := by
    by_cases z : x'.length + y'.length ≤ sizeLine
    · exact z
    · exfalso
      rw [decide_eq_false z] at h
      exact h
  rw [decide_eq_true hz] at h
  rw [str?_eq q1] at p1
  rw [str?_eq q2] at p2
  exact ⟨x', y', rep_of_str p1, rep_of_str p2, hz, ansS g1 h⟩
def opInt : VOp := fun as s => match as with
  | [a] => match a.d with
    | .int i => .ok ⟨.al, .int i⟩ s false
    | .bl b => .ok ⟨.al, .int (if b then 1 else 0)⟩ s false
    | _ => .bad
  | _ => .bad
theorem fit_int : Fit k (fun xs H Q => (∃ i, xs = [V.int i] ∧ Q (.int i) H) ∨ ∃ b, xs = [V.bl b] ∧ Q (.int (if b then 1 else 0)) H) opInt := fun W σ Q xs H h => by
  obtain ⟨P, w0, m0, H0, w, m, s, as, A, e, g1, p, h⟩ := h
  unfold opInt at h
  rcases as with _ | ⟨a, _ | ⟨b, as⟩⟩
  · exact h.elim
  rotate_left
  · exact h.elim
  obtain ⟨x, rfl⟩ : ∃ x, xs = [x] := by
    have z := p.len
    match xs, z with
    | [x], _ => exact ⟨x, rfl⟩
  obtain ⟨a', ea, p1⟩ := p.one_inv
  cases ea
  dsimp only at h
  cases q : a.d with
  | int i =>
    rw [q] at h p1
    exact .inl ⟨i, by rw [rep_of_int p1], ansI g1 h⟩
  | bl b =>
    rw [q] at h p1
    exact .inr ⟨b, by rw [rep_of_bl p1], ansI g1 h⟩
  | _ =>
    rw [q] at h
    exact h.elim
end
end MM

/-! Tables of least costs: the costs of stretches by numbers of slots. -/
namespace MT
/-- the cost of n rounds from f on -/
def pre (cs : List Int) (f n : Nat) : Int := ((cs.drop f).take n).sum
theorem pre_zero (cs : List Int) (f : Nat) : pre cs f 0 = 0 := rfl
theorem take_more {α : Type} : ∀ {l : List α} {i : Nat} {x : α}, l[i]? = some x → l.take (i + 1) = l.take i ++ [x]
  | [], i, x, h => by simp at h
  | a :: l, 0, x, h => by
    have e : a = x := Option.some.inj h
    subst e
    rfl
  | a :: l, i + 1, x, h => by
    have ih := take_more (l := l) (i := i) (x := x) h
    show a :: l.take (i + 1) = a :: l.take i ++ [x]
    rw [ih]
    rfl
theorem pre_succ {cs : List Int} {f n : Nat} {c : Int} (h : cs[f + n]? = some c) : pre cs f (n + 1) = pre cs f n + c := by
  unfold pre
  have h2 : (cs.drop f)[n]? = some c := by rw [List.getElem?_drop]; exact h
  rw [take_more h2, List.sum_append]
  simp
/-- the least of some numbers -/
def minL : List Int → Int
  | [] => 0
  | a :: r => r.foldl min a
theorem foldl_min : ∀ (r : List Int) (a : Int), (r.foldl min a = a ∨ r.foldl min a ∈ r) ∧ r.foldl min a ≤ a ∧ ∀ y ∈ r, r.foldl min a ≤ y
  | [], a => ⟨.inl rfl, Int.le_refl a, fun y h => by cases h⟩
  | b :: r, a => by
    obtain ⟨h1, h2, h3⟩ := foldl_min r (min a b)
    show (r.foldl min (min a b) = a ∨ r.foldl min (min a b) ∈ b :: r) ∧ r.foldl min (min a b) ≤ a ∧ ∀ y ∈ b :: r, r.foldl min (min a b) ≤ y
    refine ⟨?_, ?_, ?_⟩
    · rcases h1 with h1 | h1
      · rw [h1]
        rcases Int.le_total a b with q | q
        · exact .inl (Int.min_eq_left q)
        · rw [Int.min_eq_right q]
          exact .inr List.mem_cons_self
      · exact .inr (List.mem_cons_of_mem _ h1)
    · exact Int.le_trans h2 (Int.min_le_left a b)
    · intro y hy
      rcases List.mem_cons.mp hy with rfl | hy
      · exact Int.le_trans h2 (Int.min_le_right a y)
      · exact h3 y hy
theorem minL_is {l : List Int} {m : Int} (h : m ∈ l) (hm : ∀ y ∈ l, m ≤ y) : m = minL l := by
  cases l with
  | nil => cases h
  | cons a r =>
    obtain ⟨h1, h2, h3⟩ := foldl_min r a
    have e1 : minL (a :: r) = r.foldl min a := rfl
    rw [e1]
    have mem : r.foldl min a ∈ a :: r := by
      rcases h1 with q | q
      · rw [q]; exact List.mem_cons_self
      · exact List.mem_cons_of_mem _ q
    have l1 := hm _ mem
    have l2 : r.foldl min a ≤ m := by
      rcases List.mem_cons.mp h with rfl | q
      · exact h2
      · exact h3 m q
    omega
/-- the costs with one slot -/
def T0 (cs : List Int) (f : Nat) : Nat → Int
  | 0 => 0
  | 1 => 0
  | n + 2 => T0 cs f (n + 1) + pre cs f (n + 1)
/-- the partings of n + 1 rounds from f on, r being the costs of fewer rounds -/
def parts (cs : List Int) (fewer : Nat → Nat → Int) (r : Nat → Int) (f n : Nat) : List Int := (List.range n).map fun i => pre cs f (i + 1) + fewer (f + i + 1) (n - i) + r i
/-- the costs of 1, .., n rounds from f on -/
def row (cs : List Int) (fewer : Nat → Nat → Int) (f : Nat) : Nat → List Int
  | 0 => []
  | n + 1 => row cs fewer f n ++ [if n = 0 then 0 else minL (parts cs fewer (fun i => (row cs fewer f n).getD i 0) f n)]
/-- the least cost of so many rounds from f on, with s further slots -/
def T (cs : List Int) : Nat → Nat → Nat → Int
  | 0, f, n => T0 cs f n
  | s + 1, f, n => (row cs (T cs s) f n).getD (n - 1) 0
theorem row_length (cs : List Int) (g : Nat → Nat → Int) (f : Nat) : ∀ n, (row cs g f n).length = n
  | 0 => rfl
  | n + 1 => by
    show (row cs g f n ++ [_]).length = n + 1
    rw [List.length_append, row_length cs g f n]
    rfl
theorem row_get (cs : List Int) (g : Nat → Nat → Int) (f : Nat) : ∀ (n i : Nat), i < n → (row cs g f n).getD i 0 = (row cs g f (i + 1)).getD i 0
  | 0, i, h => absurd h (Nat.not_lt_zero i)
  | n + 1, i, h => by
    rcases Nat.lt_or_ge i n with q | q
    · have e : (row cs g f (n + 1)).getD i 0 = (row cs g f n).getD i 0 := by
        show (row cs g f n ++ [_]).getD i 0 = _
        rw [List.getD_eq_getElem?_getD, List.getD_eq_getElem?_getD, List.getElem?_append_left (by rw [row_length]; exact q)]
      rw [e]
      exact row_get cs g f n i q
    · have e : i = n := by omega
      subst e
      rfl
theorem row_T (cs : List Int) (s f n : Nat) : row cs (T cs s) f n = (List.range n).map fun i => T cs (s + 1) f (i + 1) := by
  apply List.ext_getElem?
  intro i
  rcases Nat.lt_or_ge i n with q | q
  · rw [List.getElem?_map, List.getElem?_range q]
    have h := row_get cs (T cs s) f n i q
    have l : i < (row cs (T cs s) f n).length := by rw [row_length]; exact q
    rw [List.getElem?_eq_getElem l]
    rw [List.getD_eq_getElem?_getD, List.getElem?_eq_getElem l] at h
    show some _ = some (T cs (s + 1) f (i + 1))
    exact congrArg some h
  · rw [List.getElem?_eq_none (by rw [row_length]; exact q), List.getElem?_eq_none (by rw [List.length_map, List.length_range]; exact q)]
/-- the last one of a row is the least of the partings -/
theorem T_succ (cs : List Int) (s f n : Nat) (h : 0 < n) : T cs (s + 1) f (n + 1) = minL (parts cs (T cs s) (fun i => T cs (s + 1) f (i + 1)) f n) := by
  have e : T cs (s + 1) f (n + 1) = (row cs (T cs s) f (n + 1)).getD n 0 := rfl
  rw [e]
  show (row cs (T cs s) f n ++ [if n = 0 then 0 else minL _]).getD n 0 = _
  rw [List.getD_eq_getElem?_getD, List.getElem?_append_right (by rw [row_length]; exact Nat.le_refl n), row_length, Nat.sub_self, if_neg (by omega)]
  show minL _ = minL _
  congr 1
  unfold parts
  apply List.map_congr_left
  intro i hi
  have hi' : i < n := List.mem_range.mp hi
  have h1 := row_get cs (T cs s) f n i hi'
  show _ + (row cs (T cs s) f n).getD i 0 = _
  rw [h1]
  rfl
theorem T_one (cs : List Int) (s f : Nat) : T cs s f 1 = 0 := by
  cases s with
  | zero => rfl
  | succ s => rfl
/-- the row of a table: the costs of 1, 2, .. rounds from f on, up to the end -/
def tabRow (cs : List Int) (s f : Nat) : List Int := (List.range (cs.length - f)).map fun i => T cs s f (i + 1)
def tabRows (cs : List Int) (s : Nat) : List (List Int) := (List.range cs.length).map fun f => tabRow cs s f
def tab (cs : List Int) (c : Nat) : List (List (List Int)) := (List.range c).map fun s => tabRows cs s
/-- the law's sum for one slot -/
def S (cs : List Int) (f n : Nat) : Int := ((List.range n).map fun k => cs.getD (f + k) 0 * ((n : Int) - (k : Int))).sum
theorem sum_map_add {α : Type} (l : List α) (g h : α → Int) : (l.map fun x => g x + h x).sum = (l.map g).sum + (l.map h).sum := by
  induction l with
  | nil => rfl
  | cons a r ih =>
    simp only [List.map_cons, List.sum_cons, ih]
    omega
theorem pre_range {cs : List Int} {f : Nat} : ∀ {n : Nat}, f + n ≤ cs.length → pre cs f n = ((List.range n).map fun k => cs.getD (f + k) 0).sum
  | 0, _ => rfl
  | n + 1, h => by
    have lt : f + n < cs.length := by omega
    have e : cs[f + n]? = some cs[f + n] := List.getElem?_eq_getElem lt
    rw [pre_succ e, List.range_succ, List.map_append, List.sum_append, pre_range (by omega)]
    congr 1
    rw [List.map_cons, List.map_nil, List.sum_cons, List.sum_nil, List.getD_eq_getElem?_getD, e]
    simp
theorem S_T0 {cs : List Int} {f : Nat} : ∀ {n : Nat}, f + n ≤ cs.length → S cs f n = T0 cs f (n + 1)
  | 0, _ => rfl
  | n + 1, h => by
    show S cs f (n + 1) = T0 cs f (n + 1) + pre cs f (n + 1)
    rw [← S_T0 (n := n) (by omega), pre_range h]
    unfold S
    have e : ((List.range (n + 1)).map fun k => cs.getD (f + k) 0 * (((n + 1 : Nat) : Int) - (k : Int))) = (List.range (n + 1)).map fun k => cs.getD (f + k) 0 * ((n : Int) - (k : Int)) + cs.getD (f + k) 0 := by
      apply List.map_congr_left
      intro k _
      have e2 : (((n + 1 : Nat) : Int) - (k : Int)) = ((n : Int) - (k : Int)) + 1 := by omega
      rw [e2, Int.mul_add, Int.mul_one]
    rw [e, sum_map_add]
    congr 1
    rw [List.range_succ, List.map_append, List.sum_append, List.map_cons, List.map_nil, List.sum_cons, List.sum_nil, Int.sub_self, Int.mul_zero]
    simp
end MT
namespace MT
/-- a row of which t places are filled -/
def rowAt (cs : List Int) (s f t : Nat) : List Int := (List.range (cs.length - f)).map fun j => if j < t then T cs s f (j + 1) else 0
theorem rowAt_zero (cs : List Int) (s f : Nat) : rowAt cs s f 1 = List.replicate (cs.length - f) 0 := by
  unfold rowAt
  apply List.ext_getElem?
  intro i
  rw [List.getElem?_map, List.getElem?_replicate]
  rcases Nat.lt_or_ge i (cs.length - f) with q | q
  · rw [List.getElem?_range q, if_pos q]
    show some (if i < 1 then T cs s f (i + 1) else 0) = some 0
    by_cases e : i < 1
    · have e0 : i = 0 := by omega
      rw [if_pos e, e0, T_one]
    · rw [if_neg e]
  · rw [List.getElem?_eq_none (by rw [List.length_range]; exact q), if_neg (by omega)]
    rfl
theorem rowAt_length (cs : List Int) (s f t : Nat) : (rowAt cs s f t).length = cs.length - f := by
  unfold rowAt
  rw [List.length_map, List.length_range]
theorem rowAt_set {cs : List Int} {s f t : Nat} : (rowAt cs s f t).set t (T cs s f (t + 1)) = rowAt cs s f (t + 1) := by
  apply List.ext_getElem?
  intro i
  rw [List.getElem?_set]
  unfold rowAt
  rw [List.getElem?_map, List.getElem?_map, List.length_map, List.length_range]
  rcases Nat.lt_or_ge i (cs.length - f) with q | q
  · rw [List.getElem?_range q]
    show _ = some (if i < t + 1 then T cs s f (i + 1) else 0)
    by_cases e : t = i
    · subst e
      rw [if_pos rfl, if_pos q, if_pos (by omega)]
    · rw [if_neg e]
      show some (if i < t then T cs s f (i + 1) else 0) = _
      by_cases l : i < t
      · rw [if_pos l, if_pos (by omega)]
      · rw [if_neg l, if_neg (by omega)]
  · rw [List.getElem?_eq_none (by rw [List.length_range]; exact q)]
    by_cases e : t = i
    · rw [if_pos e, if_neg (by omega)]
      rfl
    · rw [if_neg e]
      rfl
theorem rowAt_full {cs : List Int} {s f t : Nat} (h : cs.length - f ≤ t) : rowAt cs s f t = tabRow cs s f := by
  unfold rowAt tabRow
  apply List.map_congr_left
  intro j hj
  rw [if_pos (by have := List.mem_range.mp hj; omega)]
theorem rowAt_get {cs : List Int} {s f t j : Nat} (h : j < t) (l : j < cs.length - f) : (rowAt cs s f t)[j]? = some (T cs s f (j + 1)) := by
  unfold rowAt
  rw [List.getElem?_map, List.getElem?_range l]
  show some (if j < t then T cs s f (j + 1) else 0) = _
  rw [if_pos h]
end MT

namespace MM
open PySem PySem.Spec PyProof.Rows L2 GB
/-- what the built-in names are -/
structure Bi (mg : Str → Option Value) : Prop where
  isinstance : mg "isinstance" = none
  bool : mg "bool" = none
  int : mg "int" = none
  str : mg "str" = none
  dict : mg "dict" = none
  list : mg "list" = none
  tuple : mg "tuple" = none
  len : mg "len" = none
  range : mg "range" = none
  sum : mg "sum" = none
  min : mg "min" = none
  max : mg "max" = none
  all : mg "all" = none
  any : mg "any" = none
  abs : mg "abs" = none
  enumerate : mg "enumerate" = none
  zip : mg "zip" = none
abbrev At (K : PySem.W.Frag) (mg : Str → Option Value) (x : Str) (st : Stmt) : Prop := ∃ f fd, Fun K x x st f fd ∧ mg x = some (.ref f)
end MM

/-! try .. except X as n: .. -/
namespace MM
open PySem PySem.Spec PyProof.Rows L2 GB
mutual
/-- no exception is in it -/
def nox : D → Bool
  | .exc _ _ => false
  | .lst l => noxL l | .fls l => noxL l | .tup l => noxL l | .dct _ l => noxL l | .obj _ _ l => noxL l
  | .non => true | .bl _ => true | .int _ => true | .str _ => true | .ref _ => true | .vv _ => true
def noxL : List D → Bool
  | [] => true
  | d :: r => nox d && noxL r
end
section
variable {k k' : Ks} {m : List Addr} {F H : Hp}
mutual
theorem Rep.xr (hK : k.K = k'.K) (hm : k.mg = k'.mg) : ∀ {v : V} {d : D}, Rep k m F v d → nox d = true → Rep k' m F v d
  | _, _, .non, _ => .non
  | _, _, .bl b, _ => .bl b
  | _, _, .int i, _ => .int i
  | _, _, .str s, _ => .str s
  | _, _, .lst h r, n => .lst h (RepL.xr hK hm r n)
  | _, _, .fls h r, n => .fls (hK ▸ h) (RepL.xr hK hm r n)
  | _, _, .tup h r, n => .tup (hK ▸ h) (RepL.xr hK hm r n)
  | _, _, .dct h q r, n => .dct h q (RepL.xr hK hm r n)
  | _, _, .obj c h q r, n => .obj (hm ▸ c) h q (RepL.xr hK hm r n)
  | _, _, .exc c h q r, n => nomatch n
  | _, _, .ref h, _ => .ref h
  | _, _, .vv v, _ => .vv v
theorem RepL.xr (hK : k.K = k'.K) (hm : k.mg = k'.mg) : ∀ {vs : List V} {ds : List D}, RepL k m F vs ds → noxL ds = true → RepL k' m F vs ds
  | _, _, .nil, _ => .nil
  | _, _, .cons h r, n => by
    have n2 := Bool.and_eq_true_iff.mp n
    exact .cons (Rep.xr hK hm h n2.1) (RepL.xr hK hm r n2.2)
end
mutual
theorem imm_nox : ∀ (d : D), imm d = true → nox d = true
  | .non, _ => rfl | .bl _, _ => rfl | .int _, _ => rfl | .str _, _ => rfl | .ref _, _ => rfl | .vv _, _ => rfl
  | .tup l, h => immL_nox l h
  | .fls l, h => immL_nox l h
  | .lst _, h => nomatch h | .dct _ _, h => nomatch h | .obj _ _ _, h => nomatch h | .exc _ _, h => nomatch h
theorem immL_nox : ∀ (l : List D), immL l = true → noxL l = true
  | [], _ => rfl
  | d :: r, h => by
    have h2 := Bool.and_eq_true_iff.mp h
    exact Bool.and_eq_true_iff.mpr ⟨imm_nox d h2.1, immL_nox r h2.2⟩
end
mutual
theorem RepA.xr (hK : k.K = k'.K) (hm : k.mg = k'.mg) : ∀ {A : List Addr} {v : V} {d : D}, RepA k m H A v d → RepA k' m H A v d
  | _, _, d, .imm h i => .imm (h.xr hK hm (imm_nox d i)) i
  | _, _, _, .lst h r => .lst h (RepAL.xr hK hm r)
  | _, _, _, .tup h r => .tup h (RepAL.xr hK hm r)
  | _, _, _, .dct h n r => .dct h n (RepAL.xr hK hm r)
  | _, _, _, .obj c h n r => .obj (hm ▸ c) h n (RepAL.xr hK hm r)
theorem RepAL.xr (hK : k.K = k'.K) (hm : k.mg = k'.mg) : ∀ {A : List Addr} {vs : List V} {ds : List D}, RepAL k m H A vs ds → RepAL k' m H A vs ds
  | _, _, _, .nil => .nil
  | _, _, _, .cons h r => .cons (RepA.xr hK hm h) (RepAL.xr hK hm r)
end
def outOk (a : Val) : Bool := decide (a.o = .al) || nox a.d
theorem RepO.xr (hK : k.K = k'.K) (hm : k.mg = k'.mg) {o : Own} {A : List Addr} {v : V} {d : D} (h : RepO k m F H o A v d) (n : outOk ⟨o, d⟩ = true) : RepO k' m F H o A v d := by
  have n : o = .al ∨ nox d = true := by simpa [outOk] using n
  cases h with
  | sh h => exact .sh (h.xr hK hm (n.elim (fun z => nomatch z) id))
  | bo h => exact .bo (h.xr hK hm (n.elim (fun z => nomatch z) id))
  | spl h r => exact .spl h (r.xr hK hm (n.elim (fun z => nomatch z) id))
  | spd h q r => exact .spd h q (r.xr hK hm (n.elim (fun z => nomatch z) id))
  | spo c h q r => exact .spo (hm ▸ c) h q (r.xr hK hm (n.elim (fun z => nomatch z) id))
  | al h => exact .al (h.xr hK hm)
mutual
theorem Rep.noxr (hx : k.xr = none) : ∀ {v : V} {d : D}, Rep k m F v d → nox d = true
  | _, _, .non => rfl
  | _, _, .bl b => rfl
  | _, _, .int i => rfl
  | _, _, .str s => rfl
  | _, _, .lst h r => RepL.noxr hx r
  | _, _, .fls h r => RepL.noxr hx r
  | _, _, .tup h r => RepL.noxr hx r
  | _, _, .dct h q r => RepL.noxr hx r
  | _, _, .obj c h q r => RepL.noxr hx r
  | _, _, .exc c h q r => by rw [hx] at c; cases c
  | _, _, .ref h => rfl
  | _, _, .vv v => rfl
theorem RepL.noxr (hx : k.xr = none) : ∀ {vs : List V} {ds : List D}, RepL k m F vs ds → noxL ds = true
  | _, _, .nil => rfl
  | _, _, .cons h r => Bool.and_eq_true_iff.mpr ⟨Rep.noxr hx h, RepL.noxr hx r⟩
end
theorem RepO.noxr (hx : k.xr = none) {o : Own} {A : List Addr} {v : V} {d : D} (h : RepO k m F H o A v d) : outOk ⟨o, d⟩ = true := by
  have n : o = .al ∨ nox d = true := by
    cases h with
    | sh h => exact .inr (h.noxr hx)
    | bo h => exact .inr (h.noxr hx)
    | spl h r => exact .inr (r.noxr hx)
    | spd h q r => exact .inr (r.noxr hx)
    | spo c h q r => exact .inr (r.noxr hx)
    | al h => exact .inl rfl
  simpa [outOk] using n
end
def entsOk (l : List Ent) : Bool := l.all fun x => match x with
  | some a => outOk a
  | none => true
theorem entsOk_at {l : List Ent} {i : Nat} {a : Val} (h : entsOk l = true) (e : l[i]? = some (some a)) : outOk a = true := List.all_eq_true.mp h (some a) (List.mem_of_getElem? e)
section
variable {k k' : Ks} {W Wo : WX} {P : Addr → Prop} {w w1 w2 w0 : Ow} {m m1 m2 m0 : List Addr} {σ σ1 : L2.St} {H H1 H2 H0 : Hp} {A B : List Addr} {e e2 : Bool} {s s1 s2 : MSt} {X : Cx} {Q : VK} {D : Ends}
theorem SR.xr (hK : k.K = k'.K) (hm : k.mg = k'.mg) (r : SR k P w m σ H s) (h1 : ∀ (i : Nat) (a : Val), s.env[i]? = some (some a) → outOk a = true) (h2 : ∀ (i : Nat) (a : Val), s.cells[i]? = some (some a) → outOk a = true) : SR k' P w m σ H s := by
  refine ⟨r.wr, r.dis, r.len, r.mlen, fun i o d h => ?_, fun j o d h => ?_⟩
  · obtain ⟨v, A, e1, e2, e3⟩ := r.env i o d h
    exact ⟨v, A, e1, e2.xr hK hm (h1 _ _ h), e3⟩
  · obtain ⟨v, A, e1, e2, e3⟩ := r.cel j o d h
    exact ⟨v, A, e1, e2.xr hK hm (h2 _ _ h), e3⟩
theorem SR.xr0 (hx : k.xr = none) (hK : k.K = k'.K) (hm : k.mg = k'.mg) (r : SR k P w m σ H s) : SR k' P w m σ H s :=
  r.xr hK hm (fun i a h => by
    obtain ⟨v, A, e1, e2, e3⟩ := r.env i a.o a.d h
    exact e2.noxr hx) (fun i a h => by
    obtain ⟨v, A, e1, e2, e3⟩ := r.cel i a.o a.d h
    exact e2.noxr hx)
/-- a slot is emptied, its name goes -/
theorem Stg.away {i : Nat} (g : Stg k P σ w0 m0 H0 [] w m H s e) : ∃ w', Stg k P (σ.set i none) w0 m0 H0 [] w' m H (MM.put s (.inl i) none) true := by
  refine ⟨own w (.inl i) [], g.put (B := []) (A' := []) (fun _ _ h _ => h) ?_ (by simp) (by simp) List.nodup_nil (by rw [List.length_set]) (fun j hj => by rw [List.getElem?_set_ne (fun z => hj (by rw [z]))]) (fun j z => nomatch z) (fun y z => nomatch z)⟩
  rintro b (z | z | z)
  · simp at z
  · simp at z
  · exact g.sr.wr b (.inr (by rw [z]; simp))
/-- no slot counts any more -/
theorem SR.lone (r : SR k P w m σ H s) : SR k P w m σ H ⟨s.env.map fun _ => none, s.cells⟩ := by
  refine ⟨r.wr, r.dis, by rw [List.length_map]; exact r.len, r.mlen, fun i o d h => ?_, r.cel⟩
  have h : (s.env.map fun _ => (none : Ent))[i]? = some (some ⟨o, d⟩) := h
  rw [List.getElem?_map] at h
  cases q : s.env[i]? <;> rw [q] at h <;> cases h
/-! ### the machine -/
structure Ch where
  x : Str
  as? : Option Nat
  fs : List Str
  su : Mas
/-- what is known of the classes of errors: their fields, whether they are caught by the clauses' classes -/
abbrev ET := List (Str × List Str × List (Str × Bool))
def EtOk (K : PySem.W.Frag) (mg : Str → Option Value) (t : ET) : Prop := ∀ e ∈ t, ∀ C, mg e.1 = some (.ref C) → XfC K C ∧ (∀ f ∈ e.2.1, PySem.W.findIn K (.ref C) f = some none) ∧ ∀ p ∈ e.2.2, ∀ D, mg p.1 = some (.ref D) → PySem.W.exmOne K (.ref C) (.ref D) = some p.2
def outR (i : Nat) (r : Res Fl) : Res Fl := match r with
  | .ok (.rt a) s _ => bif outOk a && entsOk s.cells then .ok (.rt a) ⟨s.env.map fun _ => none, s.cells⟩ true else .bad
  | .ok fl s _ => bif entsOk (put s (.inl i) none).env && entsOk s.cells then .ok fl (put s (.inl i) none) true else .bad
  | .err _ _ _ _ => .bad
  | .bad => .bad
def tryR (t : ET) (c : Str) (ns : List Str) (l : List MM.D) (s : MSt) : List Ch → Res Fl
  | [] => .err c ns l s
  | h :: r => match t.find? (fun e => e.1 == c) with
    | none => .bad
    | some e => match e.2.2.find? (fun p => p.1 == h.x) with
      | none => .bad
      | some p => bif p.2 then (match h.as? with
          | none => h.su s
          | some i => bif h.fs.all (fun f => e.2.1.contains f) && decide (i < s.env.length) then outR i (h.su (put s (.inl i) (some ⟨.sh, .exc ns l⟩))) else .bad)
        else tryR t c ns l s r
def mTry (t : ET) (f : Mas) (hs : List Ch) : Mas := fun s => match f s with
  | .err c ns l s1 => tryR t c ns l s1 hs
  | r => r
theorem out_read {i : Nat} {r : Res Fl} (hK : k'.K = k.K) (hm : k'.mg = k.mg) (h : PostS k Wo P w m H D (outR i r)) : PostS k' Wo P w m H (Ends.away D i) r := by
  have go : ∀ {σ' : L2.St} {H' : Hp} {w' : Ow} {m' : List Addr} {s : MSt}, entsOk (put s (.inl i) none).env = true → entsOk s.cells = true → Stg k' P σ' w m H [] w' m' H' s true → ∃ w2, Stg k P (σ'.set i none) w m H [] w2 m' H' (put s (.inl i) none) true := by
    intro σ' H' w' m' s c1 c2 g
    obtain ⟨w2, g2⟩ := g.away (i := i)
    exact ⟨w2, ⟨g2.sr.xr hK hm (fun _ _ z => entsOk_at c1 z) (fun _ _ z => entsOk_at c2 z), g2.st, g2.nd, fun z => (nomatch z), g2.off⟩⟩
  cases r with
  | err _ _ _ _ => exact h.elim
  | bad => exact h.elim
  | ok fl s e =>
    cases fl with
    | nx =>
      unfold outR at h
      dsimp only at h
      cases c : (entsOk (put s (.inl i) none).env && entsOk s.cells) with
      | false => rw [c] at h; exact h.elim
      | true =>
        rw [c] at h
        obtain ⟨c1, c2⟩ := Bool.and_eq_true_iff.mp c
        intro σ' H' w' m' g
        obtain ⟨w2, g2⟩ := go c1 c2 g
        exact h _ H' w2 m' g2
    | bk =>
      unfold outR at h
      dsimp only at h
      cases c : (entsOk (put s (.inl i) none).env && entsOk s.cells) with
      | false => rw [c] at h; exact h.elim
      | true =>
        rw [c] at h
        obtain ⟨c1, c2⟩ := Bool.and_eq_true_iff.mp c
        intro σ' H' w' m' g
        obtain ⟨w2, g2⟩ := go c1 c2 g
        exact h _ H' w2 m' g2
    | ct =>
      unfold outR at h
      dsimp only at h
      cases c : (entsOk (put s (.inl i) none).env && entsOk s.cells) with
      | false => rw [c] at h; exact h.elim
      | true =>
        rw [c] at h
        obtain ⟨c1, c2⟩ := Bool.and_eq_true_iff.mp c
        intro σ' H' w' m' g
        obtain ⟨w2, g2⟩ := go c1 c2 g
        exact h _ H' w2 m' g2
    | rt a =>
      unfold outR at h
      dsimp only at h
      cases c : (outOk a && entsOk s.cells) with
      | false => rw [c] at h; exact h.elim
      | true =>
        rw [c] at h
        obtain ⟨c1, c2⟩ := Bool.and_eq_true_iff.mp c
        intro σ' v H' A w' m' g p
        exact h σ' v H' A w' m' ⟨g.sr.lone.xr hK hm (fun j a z => by
          have z : (s.env.map fun _ => (none : Ent))[j]? = some (some a) := z
          rw [List.getElem?_map] at z
          cases q : s.env[j]? <;> rw [q] at z <;> cases z) (fun _ _ z => entsOk_at c2 z), g.st, g.nd, fun z => (nomatch z), g.off⟩ (p.xr hK hm c1)
/-- a suite's wish -/
def tSu (X : Cx) (Wo : WX) (c : Ch) (a : Addr) (cls : Value) (d : Option Addr) : TS := fun D σ H => match c.as? with
  | none => tMS ⟨X.K, X.mg, none⟩ Wo c.su D σ H
  | some _ => ∃ C dd, cls = .ref C ∧ d = some dd ∧ XfC X.K C ∧ (∀ f ∈ c.fs, PySem.W.findIn X.K (.ref C) f = some none) ∧ tMS ⟨X.K, X.mg, some (a, dd)⟩ Wo c.su D σ H
inductive ClsM (X : Cx) (Wo : WX) : List ExceptHandler → List Ch → Prop
  | nil : ClsM X Wo [] []
  | plain {x : Str} {C : Addr} {f : Mas} {b1 : Stmt} {bs : List Stmt} {p1 p2 : Pos} {hds : List ExceptHandler} {l : List Ch} (gm : X.mg x = some (.ref C)) (hg : Gl X x) (hd : (x == ("__debug__" : Str)) = false)
      (su : ∀ (a : Addr) (oe : Obj) (pn : List (Addr × Obj)), PSs (X.suite a ((a, oe) :: pn)) (b1 :: bs) (tMS ⟨X.K, X.mg, none⟩ Wo f)) (r : ClsM X Wo hds l) : ClsM X Wo (.ExceptHandler (some (.Name x p1)) none (b1 :: bs) p2 :: hds) (⟨x, none, [], f⟩ :: l)
  | named {x n : Str} {i : Nat} {C : Addr} {f : Mas} {b1 : Stmt} {bs : List Stmt} {p1 p2 : Pos} {hds : List ExceptHandler} {l : List Ch} (fs : List Str) (gm : X.mg x = some (.ref C)) (hg : Gl X x) (hd : (x == ("__debug__" : Str)) = false) (at_ : X.N[i]? = some n) (lc : X.env.kindOf n = some .local)
      (su : ∀ (a : Addr) (oe : Obj) (C dd : Addr) (pn : List (Addr × Obj)), XfC X.K C → (∀ f ∈ fs, PySem.W.findIn X.K (.ref C) f = some none) → Zc (.ref C) (some dd) oe → (∃ vs, oe.data = .fields vs) → PSs (X.suite a ((a, oe) :: pn)) (b1 :: bs) (tMS ⟨X.K, X.mg, some (a, dd)⟩ Wo f)) (r : ClsM X Wo hds l) :
      ClsM X Wo (.ExceptHandler (some (.Name x p1)) (some n) (b1 :: bs) p2 :: hds) (⟨x, some i, fs, f⟩ :: l)
/-- the clauses as the layer below takes them -/
inductive ClR (X : Cx) (Wo : WX) : List Ch → List Cl → Prop
  | nil : ClR X Wo [] []
  | cons {c : Ch} {C : Addr} {l : List Ch} {l2 : List Cl} (gm : X.mg c.x = some (.ref C)) (r : ClR X Wo l l2) : ClR X Wo (c :: l) (⟨.ref C, c.as?, tSu X Wo c⟩ :: l2)
theorem ClsM.ok {hds : List ExceptHandler} {l : List Ch} (h : ClsM X Wo hds l) : ∃ l2, ClsOk X hds l2 ∧ ClR X Wo l l2 := by
  induction h with
  | nil => exact ⟨[], .nil, .nil⟩
  | plain gm hg hd su r ih =>
    obtain ⟨l2, h1, h2⟩ := ih
    refine ⟨_, .plain ⟨hg, hd, .inl gm⟩ (fun a oe cls d pn hz hf => ?_) h1, .cons gm h2⟩
    exact pss_mono (su a oe pn) fun D σ H h => h
  | named fs gm hg hd at_ lc su r ih =>
    obtain ⟨l2, h1, h2⟩ := ih
    refine ⟨_, .named ⟨hg, hd, .inl gm⟩ at_ lc (fun a oe cls d pn hz hf => ?_) h1, .cons gm h2⟩
    refine ⟨fun pins s σ H D I h => ?_⟩
    obtain ⟨C, dd, rfl, rfl, T, no, h⟩ := h
    exact (su a oe C dd pn T no hz hf).run pins s σ H D I h
theorem try_cls {t : ET} (et : EtOk X.K X.mg t) {c : Str} {C dd : Addr} {ns : List Str} {l : List MM.D} {xs : List V} {H' : Hp} {w' : Ow} {m' : List Addr} {σ' : L2.St} (gc : X.mg c = some (.ref C)) (ln : ns.length = xs.length) (hd : H' dd = some (.xd (ns.zip xs)))
    (g : Stg ⟨X.K, X.mg, none⟩ P σ' w m H [] w' m' H' s true) (rl : RepL ⟨X.K, X.mg, none⟩ m' (fz P w' H') xs l) : ∀ {hs : List Ch} {l2 : List Cl}, ClR X Wo hs l2 → PostS ⟨X.K, X.mg, none⟩ Wo P w m H D (tryR t c ns l s hs) → wCls X.K Wo D l2 (.ref C) (some dd) σ' H'
  | _, _, .nil, h => h σ' C dd xs H' w' m' gc ln hd rl g.srn g.st
  | _, _, .cons (c := ch) (C := Cx) gm r, h => by
    unfold tryR at h
    cases q : t.find? (fun e => e.1 == c) with
    | none => rw [q] at h; exact h.elim
    | some e =>
      rw [q] at h
      dsimp only at h
      have me := List.mem_of_find?_eq_some q
      have ec : e.1 = c := by have := List.find?_some q; simpa using this
      cases q2 : e.2.2.find? (fun p => p.1 == ch.x) with
      | none => rw [q2] at h; exact h.elim
      | some p =>
        rw [q2] at h
        dsimp only at h
        have mp := List.mem_of_find?_eq_some q2
        have ep : p.1 = ch.x := by have := List.find?_some q2; simpa using this
        obtain ⟨xf, no, sb⟩ := et e me C (by rw [ec]; exact gc)
        have ex := sb p mp Cx (by rw [ep]; exact gm)
        refine ⟨p.2, ex, fun tr a na => ?_, fun fa => ?_⟩
        · rw [tr] at h
          dsimp only [cond_true] at h
          unfold Cl.enter
          cases q3 : ch.as? with
          | none =>
            rw [q3] at h
            dsimp only at h ⊢
            show tSu X Wo ch a (.ref C) (some dd) D σ' H'
            unfold tSu
            rw [q3]
            exact ⟨P, w', m', s, g.srn, PostS.base g h⟩
          | some i =>
            rw [q3] at h
            dsimp only at h ⊢
            show tSu X Wo ch a (.ref C) (some dd) (Ends.away D i) (σ'.set i (some (.ref a))) H'
            unfold tSu
            rw [q3]
            cases q4 : (ch.fs.all (fun f => e.2.1.contains f) && decide (i < s.env.length)) with
            | false => rw [q4] at h; exact h.elim
            | true =>
              rw [q4] at h
              obtain ⟨c1, c2⟩ := Bool.and_eq_true_iff.mp q4
              refine ⟨C, dd, rfl, rfl, xf, fun f hf => no f ?_, ?_⟩
              · have := List.all_eq_true.mp c1 f hf
                simpa using this
              · have gk : Stg ⟨X.K, X.mg, some (a, dd)⟩ P σ' w m H [] w' m' H' s true := ⟨SR.xr0 (k := ⟨X.K, X.mg, none⟩) rfl rfl rfl g.sr, g.st, g.nd, fun z => (nomatch z), g.off⟩
                have nl := rl.noxr rfl
                have gd : (fz P w' H') dd = some (.xd (ns.zip xs)) := by
                  have n := gk.srn.notree dd _ hd (by intro z; exact z)
                  rw [fz_at n.1 n.2]
                  exact hd
                have g2 := gk.set (i := i) (a := ⟨.sh, .exc ns l⟩) (v := .ref a) (by rw [plus_nil]; exact .sh (.exc rfl gd ln (RepL.xr (k := ⟨X.K, X.mg, none⟩) (k' := ⟨X.K, X.mg, some (a, dd)⟩) rfl rfl rl nl))) (by intro z; cases z) (of_decide_eq_true c2)
                exact ⟨P, _, m', _, g2.srn, PostS.base g2 (out_read (k := ⟨X.K, X.mg, none⟩) (k' := ⟨X.K, X.mg, some (a, dd)⟩) rfl rfl h)⟩
        · rw [fa] at h
          exact try_cls et gc ln hd g rl r h
theorem ps_tryM {t : ET} {body : List Stmt} {h1 : ExceptHandler} {hds : List ExceptHandler} {hs : List Ch} {f : Mas} {pos : Pos} (stk : X.stack = X.env :: X.outer) (frm : X.env.frame = some X.env.locals) (nd : X.N.Nodup) (tk : Takes X Wo) (et : EtOk X.K X.mg t)
    (hb : ∀ (W : WX) (pn : List (Addr × Obj)) (xe : Value → Shared → Prop), Takes (X.tr pn xe) W → PassesOwn (model X.prog X.w) X.A X.env xe → PSs (X.tr pn xe) body (tMS ⟨X.K, X.mg, none⟩ W f))
    (cl : ClsM X Wo (h1 :: hds) hs) : PS X (.Try body (h1 :: hds) [] [] pos) (tMS ⟨X.K, X.mg, none⟩ Wo (mTry t f hs)) := by
  obtain ⟨l2, ok, rl⟩ := cl.ok
  refine ps_mono (ps_try_cls stk frm nd tk hb ok) fun D σ H h => ?_
  obtain ⟨P, w, m, s, r, h⟩ := h
  refine ⟨P, w, m, s, r, ?_⟩
  unfold mTry at h
  cases q : f s with
  | ok fl s1 e =>
    rw [q] at h
    cases fl <;> exact h
  | bad =>
    rw [q] at h
    exact h
  | err c ns l s1 =>
    rw [q] at h
    dsimp only at h
    intro σ' C dd xs H' w' m' e1 e2 e3 e4 e5 e6
    exact try_cls et e1 e2 e3 ⟨by rw [plus_nil]; exact e5, e6, List.nodup_nil, fun z => (nomatch z), by simp⟩ e4 rl h
/-! ### e.f -/
def eXf (i : Nat) (n : Str) : Mac := fun s => match s.env[i]? with
  | some (some ⟨_, .exc ns l⟩) => match (ns.zip l).lookup n with
    | some d => .ok (itV d) s false
    | none => .bad
  | _ => .bad
theorem zip_look {n : Str} {F : Hp} {d : MM.D} : ∀ {ns : List Str} {xs : List V} {l : List MM.D}, RepL k m F xs l → (ns.zip l).lookup n = some d → ∃ v, (ns.zip xs).lookup n = some v ∧ Rep k m F v d
  | [], _, _, _, h => by simp at h
  | y :: ns, _, _, .nil, h => by simp at h
  | y :: ns, _, _, .cons (v := v) (d := d0) h r, e => by
    rw [List.zip_cons_cons, List.lookup_cons] at e ⊢
    cases q : n == y with
    | true =>
      rw [q] at e
      cases e
      exact ⟨v, rfl, h⟩
    | false =>
      rw [q] at e
      exact zip_look r e
theorem xf_read {i : Nat} {n : Str} {a dd C : Addr} {K : PySem.W.Frag} {mg : Str → Option Value} (h : tM ⟨K, mg, some (a, dd)⟩ W (eXf i n) σ H Q) : tXf a (.ref C) (some dd) C n (tVar i) σ H Q := by
  obtain ⟨P, w, m, s, r, h⟩ := h
  unfold eXf at h
  cases q : s.env[i]? with
  | none => rw [q] at h; exact h.elim
  | some y =>
    cases y with
    | none => rw [q] at h; exact h.elim
    | some b =>
      obtain ⟨o, d⟩ := b
      rw [q] at h
      cases d with
      | exc ns l =>
        dsimp only at h
        obtain ⟨v, A, h1, h2, h3, h4, h5⟩ := r.env i o _ q
        cases q2 : (ns.zip l).lookup n with
        | none => rw [q2] at h; exact h.elim
        | some d =>
          rw [q2] at h
          cases h2 with
          | bo _ => exact absurd rfl h5
          | al z =>
            cases z with
            | imm _ z => cases z
          | sh z =>
            cases z with
            | exc e1 e2 e3 e4 =>
              cases e1
              obtain ⟨v', f1, f2⟩ := zip_look e4 q2
              refine ⟨_, h1, rfl, rfl, dd, _, v', rfl, fz_same _ _ e2, f1, ?_⟩
              refine h v' H [] w m (Stg.refl r) ?_
              rw [plus_nil]
              show RepO _ _ _ _ (bif imm d then .al else .sh) _ _ _
              cases q3 : imm d with
              | true => exact .al (.imm (f2.mono fz_same Pre.refl) q3)
              | false => exact .sh f2
      | _ => exact h.elim
theorem pe_xfM {a C dd : Addr} {oe : Obj} {pn : List (Addr × Obj)} {x n : Str} {i : Nat} {p pos : Pos} (T : XfC X.K C) (hno : PySem.W.findIn X.K (.ref C) n = some none) (hz : Zc (.ref C) (some dd) oe) (hf : ∃ vs, oe.data = .fields vs)
    (hN : X.N[i]? = some x) (hv : Vis X.env.scope x) (hd : (x == ("__debug__" : Str)) = false := by decide) (hcd : (x == ("__classdict__" : Str)) = false := by decide) :
    PE (X.suite a ((a, oe) :: pn)) (.Attribute (.Name x p) n pos) (tM ⟨X.K, X.mg, some (a, dd)⟩ W (eXf i n)) := pe_mono (pe_xf T hno hz hf (pe_var hN hv hd hcd)) fun σ H Q h => xf_read h
end
end MM

/-! Dicts of ints and texts. -/
namespace MM
open PySem PySem.Spec PyProof.Rows L2 GB
def keyOf : D → Option Key
  | .int i => some (.inl i) | .str z => some (.inr z) | _ => none
def keyD : Key → D
  | .inl i => .int i | .inr z => .str z
def D.dct? : D → Option (List Key × List D)
  | .dct ks l => some (ks, l) | _ => none
def lookD {α : Type} (k : Key) : List Key → List α → Option α
  | j :: ks, x :: xs => if j = k then some x else lookD k ks xs
  | _, _ => none
def kIn (ks : List Key) (k : Key) : Bool := ks.any fun j => decide (j = k)
def putX {α : Type} (k : Key) (y : α) : List Key → List α → List α
  | j :: ks, x :: xs => (if j = k then y else x) :: putX k y ks xs
  | _, _ => []
def putL {α : Type} (ks : List Key) (l : List α) (k : Key) (y : α) : List α := bif kIn ks k then putX k y ks l else l ++ [y]
def putKs (ks : List Key) (k : Key) : List Key := bif kIn ks k then ks else ks ++ [k]
theorem look_valV {k : Key} : ∀ {ks : List Key} {xs : List V}, valV (ks.zip xs) k = lookD k ks xs
  | [], _ => rfl
  | j :: ks, [] => rfl
  | j :: ks, x :: xs => by
    rw [List.zip_cons_cons, lookD]
    by_cases e : j = k
    · rw [if_pos e, valV_pos (p := (j, x)) e]
    · rw [if_neg e, valV_neg (p := (j, x)) e, look_valV]
theorem putX_len {α : Type} {k : Key} {y : α} : ∀ {ks : List Key} {xs : List α}, ks.length = xs.length → (putX k y ks xs).length = xs.length
  | [], [], _ => rfl
  | [], _ :: _, h => nomatch h
  | _ :: _, [], h => nomatch h
  | j :: ks, x :: xs, h => by
    rw [putX, List.length_cons, List.length_cons, putX_len (by simpa using h)]
theorem put_len {α : Type} {ks : List Key} {xs : List α} {k : Key} {y : α} (h : ks.length = xs.length) : (putKs ks k).length = (putL ks xs k y).length := by
  unfold putKs putL
  cases kIn ks k with
  | true => exact (h.trans (putX_len h).symm)
  | false => show (ks ++ [k]).length = (xs ++ [y]).length; rw [List.length_append, List.length_append, h]; rfl
theorem any_zip {k : Key} : ∀ {ks : List Key} {xs : List V}, ks.length = xs.length → ((ks.zip xs).any fun kv => decide (kv.1 = k)) = kIn ks k
  | [], [], _ => rfl
  | [], _ :: _, h => nomatch h
  | _ :: _, [], h => nomatch h
  | j :: ks, x :: xs, h => by
    rw [List.zip_cons_cons, List.any_cons, any_zip (by simpa using h)]
    rfl
theorem map_zip {k : Key} {v : V} : ∀ {ks : List Key} {xs : List V}, ks.length = xs.length → ((ks.zip xs).map fun kv => if kv.1 = k then (kv.1, v) else kv) = ks.zip (putX k v ks xs)
  | [], [], _ => rfl
  | [], _ :: _, h => nomatch h
  | _ :: _, [], h => nomatch h
  | j :: ks, x :: xs, h => by
    rw [List.zip_cons_cons, List.map_cons, map_zip (by simpa using h), putX, List.zip_cons_cons]
    by_cases e : j = k
    · rw [if_pos e, if_pos e]
    · rw [if_neg e, if_neg e]
theorem putK_zip {ks : List Key} {xs : List V} {k : Key} {v : V} (h : ks.length = xs.length) : putK (ks.zip xs) k v = (putKs ks k).zip (putL ks xs k v) := by
  unfold putK putKs putL
  rw [any_zip h]
  cases kIn ks k with
  | true => rw [if_pos rfl, map_zip h]; rfl
  | false =>
    rw [if_neg Bool.false_ne_true]
    show _ = (ks ++ [k]).zip (xs ++ [v])
    rw [List.zip_append h]
    rfl
section
variable {k : Ks} {m : List Addr} {F : Hp}
theorem look_rep {key : Key} : ∀ {ks : List Key} {xs : List V} {l : List D}, RepL k m F xs l → ∀ {d : D}, lookD key ks l = some d → ∃ v, lookD key ks xs = some v ∧ Rep k m F v d
  | [], _, _, _, _, h => nomatch h
  | j :: ks, _, _, .nil, _, h => nomatch h
  | j :: ks, _, _, .cons (v := v) a r, d, h => by
    rw [lookD] at h ⊢
    by_cases e : j = key
    · rw [if_pos e] at h ⊢
      cases h
      exact ⟨v, rfl, a⟩
    · rw [if_neg e] at h ⊢
      exact look_rep r h
theorem look_none {key : Key} : ∀ {ks : List Key} {xs : List V} {l : List D}, RepL k m F xs l → (lookD key ks xs).isSome = (lookD key ks l).isSome
  | [], _, _, .nil => rfl
  | [], _, _, .cons _ _ => rfl
  | j :: ks, _, _, .nil => rfl
  | j :: ks, _, _, .cons (v := v) a r => by
    rw [lookD, lookD]
    by_cases e : j = key
    · rw [if_pos e, if_pos e]; rfl
    · rw [if_neg e, if_neg e]; exact look_none r
theorem putX_rep {key : Key} {v : V} {d : D} (h : Rep k m F v d) : ∀ {ks : List Key} {xs : List V} {l : List D}, RepL k m F xs l → RepL k m F (putX key v ks xs) (putX key d ks l)
  | [], _, _, .nil => .nil
  | [], _, _, .cons _ _ => .nil
  | j :: ks, _, _, .nil => .nil
  | j :: ks, _, _, .cons a r => by
    rw [putX, putX]
    by_cases e : j = key
    · rw [if_pos e, if_pos e]; exact .cons h (putX_rep h r)
    · rw [if_neg e, if_neg e]; exact .cons a (putX_rep h r)
theorem putL_rep {key : Key} {v : V} {d : D} (h : Rep k m F v d) {ks : List Key} {xs : List V} {l : List D} (r : RepL k m F xs l) : RepL k m F (putL ks xs key v) (putL ks l key d) := by
  unfold putL
  cases kIn ks key with
  | true => exact putX_rep h r
  | false => exact RepL.app r (.cons h .nil)
end
theorem Rd.eq {H : Hp} {a : Addr} {x y : List (Key × V)} (h : Rd H a (.dK x)) (g : Rd H a (.dK y)) : x = y := by
  rcases h with h | ⟨o, h⟩ <;> rcases g with g | ⟨o', g⟩ <;> rw [h] at g <;> cases g <;> rfl
theorem zip_eq {ks : List Key} : ∀ {xs ys : List V}, ks.length = xs.length → ks.length = ys.length → ks.zip xs = ks.zip ys → xs = ys := by
  induction ks with
  | nil =>
    intro xs ys h1 h2 _
    cases xs with
    | nil =>
      cases ys with
      | nil => rfl
      | cons _ _ => cases h2
    | cons _ _ => cases h1
  | cons j ks ih =>
    intro xs ys h1 h2 h
    cases xs with
    | nil => cases h1
    | cons x xs =>
      cases ys with
      | nil => cases h2
      | cons y ys =>
        rw [List.zip_cons_cons, List.zip_cons_cons] at h
        injection h with e1 e2
        injection e1 with _ e3
        rw [e3, ih (by simpa using h1) (by simpa using h2) e2]
/-- d[k] -/
def opDGet : VOp := fun as s => match as with
  | [a, b] => match (der s a.d).bind D.dct?, keyOf b.d with
    | some (ks, l), some key => match lookD key ks l with
      | some d => .ok ⟨inO a d, d⟩ s false
      | none => .bad
    | _, _ => .bad
  | _ => .bad
/-- k in d -/
def opDIn (n : Bool) : VOp := fun as s => match as with
  | [b, a] => match (der s a.d).bind D.dct?, keyOf b.d with
    | some (ks, l), some key => .ok ⟨.al, .bl (n != (lookD key ks l).isSome)⟩ s false
    | _, _ => .bad
  | _ => .bad
/-- {} -/
def eDNew : Mac := fun s => .ok ⟨.al, .dct [] []⟩ s false
section
variable {k : Ks} {W : WX} {P : Addr → Prop} {w w1 w2 w0 : Ow} {m m1 m2 m0 : List Addr} {σ σ1 : L2.St} {H H1 H2 H0 : Hp} {A B : List Addr} {e e2 : Bool} {s s1 s2 : MSt} {X : Cx} {Q : VK} {q : Nat ⊕ Nat} {u v : V} {d : MM.D} {l : List MM.D}
theorem key_rep {F : Hp} {y : V} {d : MM.D} {key : Key} (h : Rep k m F y d) (e : keyOf d = some key) : y = kV key := by
  cases h <;> first | (cases e; rfl) | cases e
theorem dct?_eq {x : MM.D} {ks : List Key} {l : List MM.D} (h : x.dct? = some (ks, l)) : x = .dct ks l := by
  cases x <;> first | (cases h; rfl) | cases h
def rDGet : V → V → Hp → VK → Prop := fun x y H Q => ∃ a v, x = .ref a ∧ DGet H a y (some v) ∧ Q v H
def rDIn (n : Bool) : V → V → Hp → VK → Prop := fun y x H Q => ∃ a o, x = .ref a ∧ DGet H a y o ∧ Q (.bl (n != o.isSome)) H
theorem fit_dget : Fit2 k rDGet opDGet := fun W σ Q x y H h => by
  obtain ⟨P, w0, m0, H0, w, m, s, as, A, e, g1, p, h⟩ := h
  obtain ⟨a, b, A1, A2, rfl, rfl, p1, p2⟩ := p.two_inv
  unfold opDGet at h
  dsimp only at h
  obtain ⟨⟨ks, l⟩, q1⟩ : ∃ zz, (der s a.d).bind D.dct? = some zz := by
    cases q : (der s a.d).bind D.dct? with
    | none => exfalso; simp only [q] at h; exact h
    | some z => exact ⟨z, rfl⟩
  simp only [q1] at h
  obtain ⟨key, q2⟩ : ∃ zz, keyOf b.d = some zz := by
    cases q : keyOf b.d with
    | none => exfalso; simp only [q] at h; exact h
    | some z => exact ⟨z, rfl⟩
  simp only [q2] at h
  obtain ⟨d, q3⟩ : ∃ zz, lookD key ks l = some zz := by
    cases q : lookD key ks l with
    | none => exfalso; simp only [q] at h; exact h
    | some z => exact ⟨z, rfl⟩
  simp only [q3] at h
  obtain ⟨dd, q4, q5⟩ := Option.bind_eq_some_iff.mp q1
  have q5 := dct?_eq q5
  subst q5
  have r := der_rep g1 p1 (Same.trans g1.fzl fz_same) q4
  have ky := key_rep (p2.see (Same.trans g1.fzl fz_same)) q2
  cases r with
  | dct h1 hn rr =>
    obtain ⟨v, e1, e2⟩ := look_rep rr q3
    refine ⟨_, v, rfl, .inl ⟨_, key, h1, ky, by rw [look_valV, e1]⟩, ?_⟩
    refine ans g1 h (inO_rep e2 fun n => ?_)
    have rf := der_free g1 p1 (by intro z hz; simp [hz]) q4 n
    cases rf with
    | dct f1 f2 f3 =>
      obtain ⟨v2, e3, e4⟩ := look_rep f3 q3
      have hh := Rd.eq (Same.rd fz_same f1) h1
      have ez := zip_eq f2 hn hh
      cases ez
      rw [e1] at e3
      cases e3
      exact e4
theorem pe_dgetM {f g : Mac} {a b : Expr} {pos : Pos} (hu : X.A.units + 1 < cLine) (ha : PE X a (tM k W f)) (hb : PE X b (tM k W g)) (hs : NoSl b) : PE X (.Subscript a b pos) (tM k W (MM.e2 f g opDGet)) :=
  pe_mono (pe_dget hu ha hb hs) fun σ H Q h => tM_mono (fun v H1 h => tM_mono (fun u H2 h => fit_dget W σ Q v u H2 h) h) (read2 h)
theorem fit_din {n : Bool} : Fit2 k (rDIn n) (opDIn n) := fun W σ Q x y H h => by
  obtain ⟨P, w0, m0, H0, w, m, s, as, A, e, g1, p, h⟩ := h
  obtain ⟨b, a, A1, A2, rfl, rfl, p2, p1⟩ := p.two_inv
  unfold opDIn at h
  dsimp only at h
  obtain ⟨⟨ks, l⟩, q1⟩ : ∃ zz, (der s a.d).bind D.dct? = some zz := by
    cases q : (der s a.d).bind D.dct? with
    | none => exfalso; simp only [q] at h; exact h
    | some z => exact ⟨z, rfl⟩
  simp only [q1] at h
  obtain ⟨key, q2⟩ : ∃ zz, keyOf b.d = some zz := by
    cases q : keyOf b.d with
    | none => exfalso; simp only [q] at h; exact h
    | some z => exact ⟨z, rfl⟩
  simp only [q2] at h
  obtain ⟨dd, q4, q5⟩ := Option.bind_eq_some_iff.mp q1
  have q5 := dct?_eq q5
  subst q5
  have r := der_rep g1 p1 (Same.trans g1.fzl fz_same) q4
  have ky := key_rep (p2.see (Same.trans g1.fzl fz_same)) q2
  cases r with
  | dct h1 n rr =>
    refine ⟨_, _, rfl, .inl ⟨_, key, h1, ky, rfl⟩, ?_⟩
    rw [look_valV, look_none rr]
    exact ansB g1 h
theorem pe_dinM {f g : Mac} {a b : Expr} {pos : Pos} (hu : X.A.units + 1 < cLine) (ha : PE X a (tM k W f)) (hb : PE X b (tM k W g)) (h1 : behindInMarks .In b = false := by rfl) : PE X (.Compare a [.In] [b] pos) (tM k W (MM.e2 f g (opDIn false))) :=
  pe_mono (pe_cmp (pc_din hu ha hb) h1) fun σ H Q h => tM_mono (fun v H1 h => tM_mono (fun u H2 h => by
    obtain ⟨a, o, e1, e2, e3⟩ := fit_din (n := false) W σ Q v u H2 h
    exact ⟨a, o, e1, e2, by cases o <;> exact e3⟩) h) (read2 h)
theorem pe_dnotinM {f g : Mac} {a b : Expr} {pos : Pos} (hu : X.A.units + 1 < cLine) (ha : PE X a (tM k W f)) (hb : PE X b (tM k W g)) (h1 : behindInMarks .NotIn b = false := by rfl) : PE X (.Compare a [.NotIn] [b] pos) (tM k W (MM.e2 f g (opDIn true))) :=
  pe_mono (pe_cmp (pc_dnotin hu ha hb) h1) fun σ H Q h => tM_mono (fun v H1 h => tM_mono (fun u H2 h => by
    obtain ⟨a, o, e1, e2, e3⟩ := fit_din (n := true) W σ Q v u H2 h
    exact ⟨a, o, e1, e2, by cases o <;> exact e3⟩) h) (read2 h)
/-- a test that is an expression's bool -/
theorem dnew_read (h : tM k W eDNew σ H Q) : tDNewK σ H Q := by
  obtain ⟨P, w, m, s, r, h⟩ := h
  intro p np
  have g := (Stg.refl r).laid np (ob := .dK []) trivial
  exact h _ _ _ w m g (.al (.dct (ks := []) (xs := []) upd_same rfl .nil))
theorem pe_dnewM {pos : Pos} : PE X (.Dict [] [] pos) (tM k W eDNew) := pe_mono pe_dnewK fun σ H Q h => dnew_read h
/-! ### d[k] = v -/
theorem upd_spd {o : Own} {ks : List Key} (g : Stg k P σ w0 m0 H0 A w m H s e) (he : ent s q = some ⟨o, .dct ks l⟩) (ho : o = .al ∨ o = .sp) (hv : valAt σ m q = some v) :
    ∃ c xs, v = .ref c ∧ H c = some (.dK (ks.zip xs)) ∧ ks.length = xs.length ∧ w c = some q ∧ ∀ (ks' : List Key) (xs' : List V), ks'.length = xs'.length → RepL k m (fz P (own w q [c]) (upd H c (.dK (ks'.zip xs')))) xs l ∧
      (∀ (as : List Val) (A' : List Addr) (vs : List V), RepOL k m (fz (plus A P) w H) H as A' vs → (∀ b ∈ A', b ∈ A) → anyBo as = false → RepL k m (fz P (own w q [c]) (upd H c (.dK (ks'.zip xs')))) vs (dsOf as)) ∧
      ∀ l', RepL k m (fz P (own w q [c]) (upd H c (.dK (ks'.zip xs')))) xs' l' → Stg k P σ w0 m0 H0 [] (own w q [c]) m (upd H c (.dK (ks'.zip xs'))) (put s q (some ⟨.sp, .dct ks' l'⟩)) true := by
  obtain ⟨v', Aq, h1, h2, h3, h4, _⟩ := g.sr.ent he
  rw [hv] at h1
  cases h1
  have core : ∃ c xs, v = .ref c ∧ H c = some (.dK (ks.zip xs)) ∧ ks.length = xs.length ∧ w c = some q ∧ ∀ F', Same (fz (plus A P) w H) F' → Keep (Aq.filter (· ≠ c)) H F' → RepL k m F' xs l := by
    rcases ho with rfl | rfl
    · cases h2 with
      | al h2 =>
        cases h2 with
        | imm _ z => cases z
        | @dct c AL ks xs _ hc hn r =>
          refine ⟨c, xs, rfl, hc, hn, h4 c (by simp), fun F' sm kp => r.rep (kp.sub fun b z => ?_)⟩
          have nd := List.nodup_cons.mp h3
          rw [List.mem_filter]
          refine ⟨by simp [z], by simp; rintro rfl; exact nd.1 z⟩
    · cases h2 with
      | @spd c ks xs _ hc hn r => exact ⟨c, xs, rfl, hc, hn, h4 c (by simp), fun F' sm kp => r.mono sm Pre.refl⟩
  obtain ⟨c, xs, rfl, hc, hn, wc, hr⟩ := core
  refine ⟨c, xs, rfl, hc, hn, wc, fun ks' xs' hn' => ?_⟩
  have sm : Same (fz (plus A P) w H) (fz P (own w q [c]) (upd H c (.dK (ks'.zip xs')))) := fz_step fun b o' hb n1 n2 => by
    have bc : b ≠ c := fun z => by rw [z, wc] at n2; cases n2
    exact ⟨by rw [upd_ne bc]; exact hb, fun z => n1 (.inr z), own_none (by simp [bc]) n2⟩
  have kpA : ∀ C : List Addr, (∀ b ∈ C, b ≠ c ∧ (b ∈ A ∨ w b = some q)) → Keep C H (fz P (own w q [c]) (upd H c (.dK (ks'.zip xs')))) := fun C hC b o' hb z => by
    have nin : b ≠ c ∧ ¬ P b ∧ own w q [c] b = none := by
      rcases z with z | z
      · obtain ⟨z1, z2⟩ := hC b z
        refine ⟨z1, fun y => ?_, ?_⟩
        · rcases z2 with z2 | z2
          · exact g.off b z2 y
          · have := g.sr.dis b (.inr y); rw [z2] at this; cases this
        · rcases z2 with z2 | z2
          · exact own_none (by simp [z1]) (g.sr.dis b (.inl z2))
          · rw [own_out (by simp [z1]), if_pos z2]
      · have n := g.sr.notree b o' hb z
        have bc : b ≠ c := fun y => by rw [y, wc] at n; cases n.2
        exact ⟨bc, fun y => n.1 (.inr y), own_none (by simp [bc]) n.2⟩
    rw [fz_at nin.2.1 nin.2.2, upd_ne nin.1]
    exact hb
  refine ⟨hr _ sm (kpA _ fun b z => ?_), fun as A' vs p sub nb => ?_, fun l' r' => ?_⟩
  · obtain ⟨z1, z2⟩ := List.mem_filter.mp z
    exact ⟨by simpa using z2, .inr (h4 b z1)⟩
  · have free : ∀ {as : List Val} {A' : List Addr} {vs : List V}, RepOL k m (fz (plus A P) w H) H as A' vs → (∀ b ∈ A', b ∈ A) → anyBo as = false → RepL k m (fz P (own w q [c]) (upd H c (.dK (ks'.zip xs')))) vs (dsOf as) := by
      intro as A' vs p
      induction p with
      | nil => exact fun _ _ => .nil
      | @cons a as C1 C2 v vs h r ih =>
        intro sub nb
        have n2 : (decide (a.o = .bo) || anyBo as) = false := nb
        obtain ⟨n3, n4⟩ := Bool.or_eq_false_iff.mp n2
        refine .cons (h.rep sm (kpA C1 fun b z => ?_) fun z => absurd z (of_decide_eq_false n3)) (ih (fun b z => sub b (by simp [z])) n4)
        have bA := sub b (by simp [z])
        exact ⟨fun y => (by have := g.sr.dis b (.inl bA); rw [y, wc] at this; cases this), .inl bA⟩
    exact free p sub nb
  · refine g.put (q := q) (A' := [c]) (B := []) (σ' := σ) (H' := upd H c (.dK (ks'.zip xs'))) (x := some ⟨.sp, .dct ks' l'⟩) ?_ ?_ ?_ (by simp) List.nodup_nil rfl (fun j hj => rfl) ?_ ?_
    · intro b o' hb z
      rw [upd_ne]
      · exact hb
      · rintro rfl
        exact z wc
    · rintro b (z | z | z)
      · obtain rfl := List.mem_singleton.mp z
        exact ⟨_, upd_same, trivial⟩
      · simp at z
      · by_cases y : b = c
        · exact ⟨.dK (ks'.zip xs'), by rw [y]; exact upd_same, trivial⟩
        · obtain ⟨o', ho', wo⟩ := g.sr.wr b (.inr (by rw [z]; simp))
          exact ⟨o', by rw [upd_ne y]; exact ho', wo⟩
    · intro b z
      obtain rfl := List.mem_singleton.mp z
      exact .inr (.inl wc)
    · intro j hj z
      subst hj
      have hv : (m[j]?).map V.ref = some (.ref c) := hv
      rw [z] at hv
      cases hv
    · rintro y hy
      cases hy
      exact ⟨.ref c, hv, .spd upd_same hn' (by rw [plus_nil]; exact r'), by simp, by intro z; cases z⟩
/-- the value, the dict's place (its root), the key -/
def setKR (q : Nat ⊕ Nat) (a : Val) (x : Option Val) (key : Option Key) (s : MSt) : Res Fl := match x, key with
  | some ⟨o, .dct ks l⟩, some key => bif (decide (o = .al) || decide (o = .sp)) && decide (ks.length < 8000000) && decide (a.o ≠ .bo) then .ok .nx (put s q (some ⟨.sp, .dct (putKs ks key) (putL ks l key a.d)⟩)) true else .bad
  | _, _ => .bad
def mSetK (f : Mac) (p : Plc) (g : Mac) : Mas := fun s => match f s with
  | .ok a s1 _ => match p s1 with
    | some (q, [], s2) => match g s2 with
      | .ok i s3 false => setKR q a (ent s3 q) (keyOf i.d) s3
      | _ => .bad
    | _ => .bad
  | .err c ns l s' => .err c ns l s'
  | .bad => .bad
theorem setK_read {D : Ends} {f g : Mac} {p : Plc} {t : TE} (hp : PlR k W p t) (h : tMS k W (mSetK f p g) D σ H) : sDPut t (tM k W g) (tM k W f) D σ H := by
  obtain ⟨P, w, m, s, r, h⟩ := h
  refine ⟨P, w, m, s, r, ?_⟩
  unfold mSetK at h
  cases q0 : f s with
  | err c ns l s' =>
    rw [q0] at h
    exact h σ
  | bad =>
    rw [q0] at h
    exact h
  | ok a s1 e1 =>
    rw [q0] at h
    dsimp only at h
    intro x H1 A w1 m1 g1 pa
    cases q1 : p s1 with
    | none =>
      rw [q1] at h
      exact h.elim
    | some y =>
      obtain ⟨q, π, s2⟩ := y
      rw [q1] at h
      cases π with
      | cons _ _ => exact h.elim
      | nil =>
      dsimp only at h
      refine hp σ H1 _ (plus A P) w1 m1 s1 q [] s2 g1.sr q1 fun H2 v u g2 hv pv => ?_
      cases pv
      refine ⟨plus A P, w1, m1, s2, g2.srn, ?_⟩
      cases q2 : g s2 with
      | err _ _ _ _ => rw [q2] at h; exact h.elim
      | bad => rw [q2] at h; exact h.elim
      | ok i s3 e3 =>
        rw [q2] at h
        cases e3 with
        | true => exact h.elim
        | false =>
          dsimp only at h
          intro y H3 A3 w3 m3 g3 py
          obtain ⟨sm, rfl, rfl⟩ := g3.fl rfl
          obtain ⟨sm2, _, _⟩ := g2.fl rfl
          unfold setKR at h
          cases q3 : ent s3 q with
          | none => rw [q3] at h; exact h.elim
          | some b =>
            obtain ⟨o, d⟩ := b
            rw [q3] at h
            cases d with
            | dct ks l =>
              cases q4 : keyOf i.d with
              | none => rw [q4] at h; exact h.elim
              | some key =>
                rw [q4] at h
                dsimp only at h
                cases q5 : ((decide (o = .al) || decide (o = .sp)) && decide (ks.length < 8000000) && decide (a.o ≠ .bo)) with
                | false => rw [q5] at h; exact h.elim
                | true =>
                  rw [q5] at h
                  simp only [Bool.and_eq_true, Bool.or_eq_true, decide_eq_true_eq] at q5
                  obtain ⟨⟨c1, c2⟩, nb⟩ := q5
                  have g4 : Stg k (plus A P) σ w3 m3 H1 A3 w3 m3 H3 s3 false := g2.trans (by rw [plus_nil]; exact g3)
                  have g5 := g1.trans g4
                  have pa3 : RepO k m3 (fz (plus (A ++ A3) P) w3 H3) H3 a.o A x a.d := by
                    rw [← plus_plus]
                    exact pa.move g4.fz (g4.keep g1.sr) Pre.refl fun z => absurd z nb
                  have ky := key_rep (py.see fz_same) q4
                  obtain ⟨c, ys, rfl, hc, hn, wc, up⟩ := upd_spd g5 q3 c1 hv
                  obtain ⟨u1, u2, u3⟩ := up (putKs ks key) (putL ks ys key x) (put_len hn)
                  have one := u2 [a] A [x] (.one pa3) (fun _ z => by simp [z]) (by show (decide (a.o = .bo) || false) = false; rw [decide_eq_false nb]; rfl)
                  cases one with
                  | cons one _ =>
                    refine ⟨c, _, rfl, .inl ⟨_, key, hc, ky, ?_, rfl⟩, ?_⟩
                    · rw [List.length_zip, ← hn, Nat.min_self, sizeLine_eq]
                      omega
                    · rw [putK_zip hn]
                      exact h σ _ _ m3 (u3 _ (putL_rep one u1))
            | _ => exact h.elim
theorem ps_setKM {o i e : Expr} {f g : Mac} {p : Plc} {t : TE} {pos tpos : Pos} (hu : X.A.units + 1 < cLine) (he : PE X e (tM k W f)) (hp : PlR k W p t) (ho : PE X o t) (hi : PE X i (tM k W g)) (hs : swapsWith e (some (.Subscript o i tpos)) pos.line X.env = pure false := by rfl) :
    PS X (.Assign [.Subscript o i tpos] e pos) (tMS k W (mSetK f p g)) := ps_mono (ps_dput hu ho hi he hs) fun D σ H h => setK_read hp h
end
end MM

/-! A dict is walked: it is locked for the while. -/
namespace MM
open PySem PySem.Spec PyProof.Rows L2 GB
/-- the same, but that dicts may be locked or not -/
def Lik (F G : Hp) : Prop := ∀ a x, F a = some x → G a = some x ∨ ∃ kvs, (x = .dK kvs ∨ ∃ o, x = .frz o (.dK kvs)) ∧ Rd G a (.dK kvs)
section
variable {k : Ks} {m : List Addr} {F F' G H : Hp}
theorem Lik.lst {a : Addr} {xs : List V} (e : Lik F G) (h : F a = some (.lst xs)) : G a = some (.lst xs) := by
  rcases e _ _ h with z | ⟨_, z | ⟨_, z⟩, _⟩
  · exact z
  · cases z
  · cases z
theorem Lik.fzl {K : PySem.W.Frag} {a : Addr} {xs : List V} (e : Lik F G) (h : FzL K F a xs) : FzL K G a xs := by
  rcases h with ⟨o, h⟩ | h
  · rcases e _ _ h with z | ⟨_, z | ⟨_, z⟩, _⟩
    · exact .inl ⟨o, z⟩
    · cases z
    · cases z
  · exact .inr h
theorem Lik.sqt {K : PySem.W.Frag} {a : Addr} {xs : List V} (e : Lik F G) (h : SqT K F a xs) : SqT K G a xs := by
  rcases h with (h | ⟨o, h⟩) | h
  · rcases e _ _ h with z | ⟨_, z | ⟨_, z⟩, _⟩
    · exact .inl (.inl z)
    · cases z
    · cases z
  · rcases e _ _ h with z | ⟨_, z | ⟨_, z⟩, _⟩
    · exact .inl (.inr ⟨o, z⟩)
    · cases z
    · cases z
  · exact .inr h
theorem Lik.rd {a : Addr} {kvs : List (Key × V)} (e : Lik F G) (h : Rd F a (.dK kvs)) : Rd G a (.dK kvs) := by
  rcases h with h | ⟨o, h⟩
  · rcases e _ _ h with z | ⟨_, z | ⟨_, z⟩, y⟩
    · exact .inl z
    · cases z; exact y
    · cases z
  · rcases e _ _ h with z | ⟨_, z | ⟨_, z⟩, y⟩
    · exact .inr ⟨o, z⟩
    · cases z
    · cases z; exact y
theorem Lik.ins {a C dx : Addr} {fs : List (Str × V)} (e : Lik F G) (h : F a = some (.ins C dx fs)) : G a = some (.ins C dx fs) := by
  rcases e _ _ h with z | ⟨_, z | ⟨_, z⟩, _⟩
  · exact z
  · cases z
  · cases z
theorem Lik.xd {a : Addr} {fs : List (Str × V)} (e : Lik F G) (h : F a = some (.xd fs)) : G a = some (.xd fs) := by
  rcases e _ _ h with z | ⟨_, z | ⟨_, z⟩, _⟩
  · exact z
  · cases z
  · cases z
mutual
theorem Rep.lik (e : Lik F G) : ∀ {v : V} {d : D}, Rep k m F v d → Rep k m G v d
  | _, _, .non => .non
  | _, _, .bl b => .bl b
  | _, _, .int i => .int i
  | _, _, .str s => .str s
  | _, _, .lst h r => .lst (e.lst h) (RepL.lik e r)
  | _, _, .fls h r => .fls (e.fzl h) (RepL.lik e r)
  | _, _, .tup h r => .tup (e.sqt h) (RepL.lik e r)
  | _, _, .dct h n r => .dct (e.rd h) n (RepL.lik e r)
  | _, _, .obj c h n r => .obj c (e.ins h) n (RepL.lik e r)
  | _, _, .exc c h n r => .exc c (e.xd h) n (RepL.lik e r)
  | _, _, .ref h => .ref h
  | _, _, .vv v => .vv v
theorem RepL.lik (e : Lik F G) : ∀ {vs : List V} {ds : List D}, RepL k m F vs ds → RepL k m G vs ds
  | _, _, .nil => .nil
  | _, _, .cons h r => .cons (Rep.lik e h) (RepL.lik e r)
end
mutual
theorem RepA.lik (e : Lik H G) : ∀ {A : List Addr} {v : V} {d : D}, RepA k m H A v d → (∀ a ∈ A, ∀ u, H a = some u → G a = some u) → RepA k m G A v d
  | _, _, _, .imm h i, _ => .imm (h.lik e) i
  | _, _, _, .lst h r, q => .lst (q _ (by simp) _ h) (RepAL.lik e r fun a z => q a (by simp [z]))
  | _, _, _, .tup h r, q => .tup (by
      rcases e _ _ h with z | ⟨_, z | ⟨_, z⟩, _⟩
      · exact z
      · cases z
      · cases z) (RepAL.lik e r q)
  | _, _, _, .dct h n r, q => .dct (q _ (by simp) _ h) n (RepAL.lik e r fun a z => q a (by simp [z]))
  | _, _, _, .obj c h n r, q => .obj c (q _ (by simp) _ h) n (RepAL.lik e r fun a z => q a (by simp [z]))
theorem RepAL.lik (e : Lik H G) : ∀ {A : List Addr} {vs : List V} {ds : List D}, RepAL k m H A vs ds → (∀ a ∈ A, ∀ u, H a = some u → G a = some u) → RepAL k m G A vs ds
  | _, _, _, .nil, _ => .nil
  | _, _, _, .cons h r, q => .cons (RepA.lik e h fun a z => q a (by simp [z])) (RepAL.lik e r fun a z => q a (by simp [z]))
end
theorem RepO.lik {o : Own} {A : List Addr} {v : V} {d : D} (h : RepO k m F H o A v d) (f : Lik F F') (q : ∀ a ∈ A, ∀ u, H a = some u → G a = some u) (g : Lik H G) : RepO k m F' G o A v d := by
  cases h with
  | sh h => exact .sh (h.lik f)
  | bo h => exact .bo (h.lik g)
  | spl h r => exact .spl (q _ (by simp) _ h) (r.lik f)
  | spd h n r => exact .spd (q _ (by simp) _ h) n (r.lik f)
  | spo c h n r => exact .spo c (q _ (by simp) _ h) n (r.lik f)
  | al h => exact .al (h.lik g q)
end
section
variable {k : Ks} {W : WX} {P : Addr → Prop} {w w1 w2 w0 : Ow} {m m1 m2 m0 : List Addr} {σ σ1 : L2.St} {H H1 H2 H0 G : Hp} {A B : List Addr} {e e2 : Bool} {s s1 s2 : MSt} {X : Cx} {Q : VK} {v : V}
theorem Lik.fz (g : Lik H G) : Lik (MM.fz P w H) (MM.fz P w G) := fun a x h => by
  obtain ⟨n1, n2, h2⟩ := fz_inv h
  rcases g a x h2 with z | ⟨kvs, z1, z2⟩
  · exact .inl (by rw [fz_at n1 n2]; exact z)
  · refine .inr ⟨kvs, z1, ?_⟩
    rcases z2 with z2 | ⟨o, z2⟩
    · exact .inl (by rw [fz_at n1 n2]; exact z2)
    · exact .inr ⟨o, by rw [fz_at n1 n2]; exact z2⟩
theorem SR.lik (r : SR k P w m σ H s) (g : Lik H G) (q : ∀ a, (P a ∨ w a ≠ none) → ∀ u, H a = some u → G a = some u) : SR k P w m σ G s := by
  refine ⟨fun a z => ?_, r.dis, r.len, r.mlen, fun i o d h => ?_, fun i o d h => ?_⟩
  · obtain ⟨u, h, y⟩ := r.wr a z
    exact ⟨u, q a z u h, y⟩
  · obtain ⟨v, A, h1, h2, h3, h4, h5⟩ := r.env i o d h
    exact ⟨v, A, h1, h2.lik g.fz (fun a z => q a (.inr (by rw [h4 a z]; simp))) g, h3, h4, h5⟩
  · obtain ⟨v, A, h1, h2, h3, h4, h5⟩ := r.cel i o d h
    exact ⟨v, A, h1, h2.lik g.fz (fun a z => q a (.inr (by rw [h4 a z]; simp))) g, h3, h4, h5⟩
theorem lik_lock {a : Addr} {od : Obj} {kvs : List (Key × V)} (h : H a = some (.dK kvs)) : Lik H (upd H a (.frz od (.dK kvs))) := fun b x hx => by
  by_cases c : b = a
  · subst c
    rw [h] at hx
    cases hx
    exact .inr ⟨kvs, .inl rfl, .inr ⟨od, upd_same⟩⟩
  · exact .inl (by rw [upd_ne c]; exact hx)
theorem lik_unlock {a : Addr} {od : Obj} {kvs : List (Key × V)} (h : H a = some (.frz od (.dK kvs))) : Lik H (upd H a (.dK kvs)) := fun b x hx => by
  by_cases c : b = a
  · subst c
    rw [h] at hx
    cases hx
    exact .inr ⟨kvs, .inr ⟨od, rfl⟩, .inl upd_same⟩
  · exact .inl (by rw [upd_ne c]; exact hx)
theorem SR.lock {a : Addr} {od : Obj} {kvs : List (Key × V)} (r : SR k P w m σ H s) (h : H a = some (.dK kvs)) (n1 : ¬ P a) (n2 : w a = none) : SR k P w m σ (upd H a (.frz od (.dK kvs))) s :=
  r.lik (lik_lock h) fun b z u hu => by
    rw [upd_ne]
    · exact hu
    · rintro rfl
      rcases z with z | z
      · exact n1 z
      · exact z n2
theorem Stg.unlock {a : Addr} {od : Obj} {kvs : List (Key × V)} (h : H0 a = some (.dK kvs)) (n1 : ¬ P a) (n2 : w0 a = none) (g : Stg k P σ w0 m0 (upd H0 a (.frz od (.dK kvs))) A w m H s e) :
    H a = some (.frz od (.dK kvs)) ∧ Stg k P σ w0 m0 H0 A w m (upd H a (.dK kvs)) s true ∧ ∀ {o : Own} {v : V} {d : MM.D} {B : List Addr}, (∀ b ∈ B, b ∈ A) → RepO k m (MM.fz (plus A P) w H) H o B v d → RepO k m (MM.fz (plus A P) w (upd H a (.dK kvs))) (upd H a (.dK kvs)) o B v d := by
  obtain ⟨h1, h2, h3⟩ := g.st.keep a _ upd_same n2
  have off : ∀ b u, H b = some u → b ≠ a → (upd H a (.dK kvs)) b = some u := fun b u hu z => by rw [upd_ne z]; exact hu
  refine ⟨h1, ⟨g.sr.lik (lik_unlock h1) fun b z u hu => off b u hu ?_, ⟨fun b u hu n => ?_, g.st.pre⟩, g.nd, fun z => (nomatch z), g.off⟩, fun {o v d B} l p => p.lik (lik_unlock h1).fz (fun b z u hu => off b u hu ?_) (lik_unlock h1)⟩
  · rintro rfl
    rcases z with (z | z) | z
    · exact h3 z
    · exact n1 z
    · exact z h2
  · by_cases c : b = a
    · subst c
      rw [h] at hu
      cases hu
      exact ⟨upd_same, h2, h3⟩
    · obtain ⟨z1, z2, z3⟩ := g.st.keep b u (by rw [upd_ne c]; exact hu) n
      exact ⟨by rw [upd_ne c]; exact z1, z2, z3⟩
  · rintro rfl
    exact h3 (l _ z)
theorem comp_e {T : Tgt} {t : Mab} {f : Mac} {vs : List Nat} : ∀ {l : List MM.D} {acc : List Val} {s : MSt} {as : List Val} {s' : MSt} {e : Bool}, compS T t f vs l acc s = .ok as s' e → e = true
  | [], acc, s, _, _, _ => fun h => by cases h; rfl
  | d :: r, acc, s, as, s', e => fun h => by
    unfold compS at h
    cases q : T (itV d) s with
    | none => rw [q] at h; cases h
    | some s1 =>
      rw [q] at h
      dsimp only at h
      cases q2 : t s1 with
      | ok b s2 e2 =>
        rw [q2] at h
        cases b with
        | true =>
          dsimp only at h
          cases q3 : f s2 with
          | ok y s3 e3 =>
            rw [q3] at h
            dsimp only at h
            cases q4 : decide (y.o = .bo) with
            | true => rw [q4] at h; cases h
            | false =>
              rw [q4] at h
              exact comp_e h
          | err _ _ _ _ => rw [q3] at h; cases h
          | bad => rw [q3] at h; cases h
        | false => exact comp_e h
      | err _ _ _ _ => rw [q2] at h; cases h
      | bad => rw [q2] at h; cases h
/-- the keys of the dict in a slot -/
def shD (s : MSt) (i : Nat) : Option MM.D := match s.env[i]? with
  | some (some ⟨.sh, .ref n⟩) => match s.cells[n]? with
    | some (some ⟨.sh, d⟩) => some d
    | _ => none
  | some (some ⟨.sh, d⟩) => some d
  | _ => none
theorem SR.shd {d : MM.D} {i : Nat} (r : SR k P w m σ H s) (q : shD s i = some d) : ∃ v, σ[i]? = some (some v) ∧ Rep k m (fz P w H) v d := by
  unfold shD at q
  cases q1 : s.env[i]? with
  | none => rw [q1] at q; cases q
  | some y =>
    cases y with
    | none => rw [q1] at q; cases q
    | some b =>
      obtain ⟨o2, d2⟩ := b
      obtain ⟨v, A, h1, h2, h3, h4, h5⟩ := r.env i _ _ q1
      rw [q1] at q
      cases h2 with
      | sh h2 =>
        cases d2 with
        | ref n =>
          dsimp only at q
          cases q2 : s.cells[n]? with
          | none => rw [q2] at q; cases q
          | some y =>
            cases y with
            | none => rw [q2] at q; cases q
            | some b =>
              obtain ⟨o3, d3⟩ := b
              obtain ⟨a, A, e1, e2, e3, e4, e5⟩ := r.cel n _ _ q2
              rw [q2] at q
              cases e2 with
              | sh e2 =>
                cases q
                cases h2 with
                | ref h2 =>
                  rw [h2] at e1
                  cases e1
                  exact ⟨_, h1, e2⟩
              | _ => cases q
        | _ => cases q; exact ⟨_, h1, h2⟩
      | _ => cases q
def itKeys (i : Nat) : Itm := fun s => match shD s i with
  | some (.dct ks _) => .ok (ks.map keyD) s true
  | _ => .bad
/-- what is known while it is locked -/
def Lkd (i : Nat) (σ : L2.St) (H : Hp) : Prop := ∃ a o kvs, σ[i]? = some (some (V.ref a)) ∧ H a = some (.frz o (.dK kvs))
theorem src_keys {a : Addr} {o : Obj} {ks : List Key} {xs : List V} (hn : ks.length = xs.length) : Src k m (Itk a o (ks.zip xs)) (ks.map keyD) (fun F => F a = some (.frz o (.dK (ks.zip xs)))) where
  mono := fun F F' h sm => sm _ _ h
  go := fun i F H h sm hi => ⟨sm _ _ h, by rw [List.length_zip, ← hn, Nat.min_self]; rw [List.length_map] at hi; exact hi⟩
  stop := fun i F H h sm hi => ⟨sm _ _ h, by rw [List.length_zip, ← hn, Nat.min_self]; rw [List.length_map] at hi; exact hi⟩
  yld := fun i F H x H' d h sm hd ⟨e, kk, vv, hk, ex⟩ => by
    subst e ex
    refine ⟨fun _ _ z => z, fun m' F2 pm s2 _ => ?_⟩
    rw [List.getElem?_map] at hd
    obtain ⟨k2, h1, h2⟩ := Option.map_eq_some_iff.mp hd
    rw [List.getElem?_zip_eq_some] at hk
    rw [hk.1] at h1
    cases h1
    subst h2
    cases kk with
    | inl i => exact .int i
    | inr z => exact .str z
theorem keys_read {i : Nat} {R : It → Hp → Prop} (f : Lkd i σ H) (h : tMI k W (itKeys i) σ H R) : iKeys (tVar i) σ H R := by
  obtain ⟨a, o, kvs, ha, hf⟩ := f
  obtain ⟨P, w, m, s, r, h⟩ := h
  refine ⟨_, ha, a, o, rfl, .inl ⟨kvs, hf, ?_⟩⟩
  unfold itKeys at h
  cases q : shD s i with
  | none => rw [q] at h; exact h.elim
  | some d =>
      rw [q] at h
      cases d <;> first | (exact h.elim) | skip
      rename_i ks l
      dsimp only at h
      obtain ⟨v, h1, h2⟩ := r.shd q
      rw [ha] at h1
      cases h1
      cases h2 with
        | @dct _ _ xs _ z hn rr =>
          have e := Rd.eq (Same.rd fz_same z) (.inr ⟨o, hf⟩)
          rw [← e] at hf ⊢
          refine h _ H w m _ ((Stg.refl r).ef fun z => (nomatch z)) (src_keys hn) ?_
          have n := r.notree a _ hf (by intro z; exact z)
          rw [fz_at n.1 n.2]
          exact hf
/-- a comprehension over a dict's keys -/
theorem lock_read {i : Nat} {T : Tgt} {t : Mab} {f : Mac} {vs : List Nat} (h : tM k W (mComp (itKeys i) T t f vs) σ H Q) : tLockE (fun σ H Q => Lkd i σ H ∧ tM k W (mComp (itKeys i) T t f vs) σ H Q) σ H Q ∨ (Lkd i σ H ∧ tM k W (mComp (itKeys i) T t f vs) σ H Q) := by
  obtain ⟨P, w, m, s, r, h⟩ := h
  have h0 := h
  unfold mComp itKeys at h
  cases q : shD s i with
  | none => rw [q] at h; exact h.elim
  | some d =>
      rw [q] at h
      cases d <;> first | (exact h.elim) | skip
      clear h
      obtain ⟨v, h1, h2⟩ := r.shd q
      cases h2 with
        | @dct a _ xs _ z hn rr =>
          rcases z with z | ⟨od, z⟩
          · left
            obtain ⟨n1, n2, hd⟩ := fz_inv z
            refine ⟨a, _, hd, trivial, fun od => ⟨⟨a, od, _, h1, upd_same⟩, P, w, m, s, r.lock hd n1 n2, ?_⟩⟩
            cases q2 : mComp (itKeys i) T t f vs s with
            | bad => rw [q2] at h0; exact h0
            | err c ns l s2 =>
              exfalso
              unfold mComp itKeys at q2
              rw [q] at q2
              dsimp only at q2
              revert q2
              cases decide (List.length (List.map keyD _) ≤ 10000000) with
              | false => intro q2; cases q2
              | true =>
                intro q2
                dsimp only [cond_true] at q2
                cases q3 : compS T t f vs _ [] (wipes vs s) with
                | ok _ _ _ => rw [q3] at q2; cases q2
                | err _ _ _ _ => exact comp_noerr q3
                | bad => rw [q3] at q2; cases q2
            | ok a2 s2 e2 =>
              rw [q2] at h0
              intro v H' A w' m' g p
              obtain ⟨u1, u2, u3⟩ := g.unlock hd n1 n2
              have e2t : e2 = true := by
                unfold mComp itKeys at q2
                rw [q] at q2
                dsimp only at q2
                revert q2
                cases decide (List.length (List.map keyD _) ≤ 10000000) with
                | false => intro q2; cases q2
                | true =>
                  intro q2
                  dsimp only [cond_true] at q2
                  cases q3 : compS T t f vs _ [] (wipes vs s) with
                  | ok _ _ _ => rw [q3] at q2; cases q2; exact comp_e q3
                  | err _ _ _ _ => exact (comp_noerr q3).elim
                  | bad => rw [q3] at q2; cases q2
              subst e2t
              exact ⟨u1, h0 v _ A w' m' u2 (u3 (fun _ z => z) p)⟩
          · right
            obtain ⟨n1, n2, hd⟩ := fz_inv z
            exact ⟨⟨a, od, _, h1, hd⟩, P, w, m, s, r, h0⟩
theorem pe_lcKM {elt tg : Expr} {x : Str} {ifs : List Expr} {scope : Scope} {own : List (Str × Nat)} {pos p2 : Pos} {i : Nat} {js : List Nat} {T : Tgt} {t : Mab} {f : Mac} (hc : X.calm = true) (hN : X.N.Nodup) (hx : X.N[i]? = some x) (hv : Vis X.env.scope x) (ok : BlkOk X.N X.env.scope scope own)
    (hg : ∀ (s : Shared) (H : Hp) (C : Addr) (cl : List (Str × Addr)) (fp : List Addr), PG (X.blk s H scope (compEnvC scope cl C X.env) fp) tg (tMG k js T)) (ht : ∀ (s : Shared) (H : Hp) (C : Addr) (cl : List (Str × Addr)) (fp : List Addr), PTs (X.blk s H scope (compEnvC scope cl C X.env) fp) ifs (tMT k W0 t))
    (he : ∀ (s : Shared) (H : Hp) (C : Addr) (cl : List (Str × Addr)) (fp : List Addr), PE (X.blk s H scope (compEnvC scope cl C X.env) fp) elt (tM k W0 f)) (sub : ∀ j ∈ js, j ∈ own.map (·.2)) (hs : ∀ y, foldedSetIterable (.Name x p2) X.env y = pure y := by intro _; rfl) (hd : (x == ("__debug__" : Str)) = false := by decide) (hcd : (x == ("__classdict__" : Str)) = false := by decide) :
    PE X (.ListComp elt [⟨tg, .Name x p2, ifs, 0⟩] scope pos) (tM k W (mComp (itKeys i) T t f (own.map (·.2)))) := by
  have base : PE X (.ListComp elt [⟨tg, .Name x p2, ifs, 0⟩] scope pos) (fun σ H Q => Lkd i σ H ∧ tM k W (mComp (itKeys i) T t f (own.map (·.2))) σ H Q) :=
    pe_mono (pe_lc (wi := fun σ H R => Lkd i σ H ∧ tMI k W (itKeys i) σ H R) hc hN (pi_mono (pi_keys (pe_var hx hv hd hcd)) fun σ H R ⟨h1, h2⟩ => keys_read h1 h2) ok hg ht he hs) fun σ H Q ⟨h1, h2⟩ => ⟨h1, comp_read sub h2⟩
  refine ⟨fun pins s σ H Q I h => ?_⟩
  rcases lock_read h with h | h
  · exact (pe_lock base).run pins s σ H Q I h
  · exact base.run pins s σ H Q I h
end
theorem hu1 {A : Around} {k : Nat} (hr : Room k A) : A.units + 1 < cLine := by
  have := eu_of hr
  omega
/-- what is not looked at -/
def eStop : Mac := fun _ => .bad
def mStop : Mas := fun _ => .bad
theorem pe_stop {k : Ks} {W : WX} {X : Cx} {e : Expr} : PE X e (tM k W eStop) := ⟨fun pins s σ H Q I h => by
  obtain ⟨_, _, _, _, _, h⟩ := h
  exact h.elim⟩
theorem ps_stop {k : Ks} {W : WX} {X : Cx} {e : Stmt} : PS X e (tMS k W mStop) := ⟨fun pins s σ H D I h => by
  obtain ⟨_, _, _, _, _, h⟩ := h
  exact h.elim⟩
/-- a recursion's end -/
def fStop : Fn := fun _ _ => .bad
theorem spM_stop {K : PySem.W.Frag} {mg : Str → Option Value} {n : Nat} {vs : List V} {H : Hp} {Q : VK} {E : XK} (h : spM K mg n fStop vs H Q E) : False := by
  obtain ⟨_, _, _, _, _, _, _, _, _, _, _, h⟩ := h
  exact h
/-- o[i], whatever o is -/
def opIxA : VOp := fun as s => match as with
  | [a, b] => match der s a.d with
    | some (.dct _ _) => opDGet [a, b] s
    | some (.str _) => opIxS [a, b] s
    | _ => opIx [a, b] s
  | _ => .bad
theorem ixA_alt {f g : Mac} (s : MSt) : e2 f g opIxA s = e2 f g opDGet s ∨ e2 f g opIxA s = e2 f g opIxS s ∨ e2 f g opIxA s = e2 f g opIx s := by
  unfold e2 eN
  cases aCons f (aCons g aNil) s with
  | err _ _ _ _ => exact .inl rfl
  | bad => exact .inl rfl
  | ok as s1 e =>
    show (opIxA as s1).ef e = (opDGet as s1).ef e ∨ (opIxA as s1).ef e = (opIxS as s1).ef e ∨ (opIxA as s1).ef e = (opIx as s1).ef e
    have h : opIxA as s1 = opDGet as s1 ∨ opIxA as s1 = opIxS as s1 ∨ opIxA as s1 = opIx as s1 := by
      match as with
      | [] => exact .inl rfl
      | [_] => exact .inl rfl
      | _ :: _ :: _ :: _ => exact .inl rfl
      | [a, b] =>
        unfold opIxA
        dsimp only
        cases der s1 a.d with
        | none => exact .inr (.inr rfl)
        | some d => cases d <;> first | exact .inl rfl | exact .inr (.inl rfl) | exact .inr (.inr rfl)
    rcases h with h | h | h
    · exact .inl (by rw [h])
    · exact .inr (.inl (by rw [h]))
    · exact .inr (.inr (by rw [h]))
theorem pe_ixAM {k : Ks} {W : WX} {X : Cx} {f g : Mac} {a b : Expr} {pos : Pos} (hu : X.A.units + 1 < cLine) (ha : PE X a (tM k W f)) (hb : PE X b (tM k W g)) (hs : PlainIx b) (hs2 : NoSl b) (hK : X.K = k.K := by rfl) : PE X (.Subscript a b pos) (tM k W (e2 f g opIxA)) := by
  refine ⟨fun pins s σ H Q I h => ?_⟩
  obtain ⟨P, w, m, st, r, h⟩ := h
  rcases ixA_alt (f := f) (g := g) st with e | e | e
  · exact (pe_dgetM hu ha hb hs2).run pins s σ H Q I ⟨P, w, m, st, r, by rw [← e]; exact h⟩
  · exact (pe_ixM fit_ixS ha hb hs hK).run pins s σ H Q I ⟨P, w, m, st, r, by rw [← e]; exact h⟩
  · exact (pe_ixM fit_ix ha hb hs hK).run pins s σ H Q I ⟨P, w, m, st, r, by rw [← e]; exact h⟩
theorem pt_dinM {k : Ks} {W : WX} {X : Cx} {f g : Mac} {a b : Expr} {pos : Pos} (hu : X.A.units + 1 < cLine) (ha : PE X a (tM k W f)) (hb : PE X b (tM k W g)) (h1 : behindInMarks .In b = false := by rfl) : PT X (.Compare a [.In] [b] pos) (tMT k W (tBl (e2 f g (opDIn false)))) :=
  pt_mono (pt_cmp (pc_din hu ha hb) h1) fun σ H Q h => tM_mono (fun v H1 h => tM_mono (fun u H2 h => by
    obtain ⟨a, o, e1, e2, e3⟩ := fit_din (n := false) W σ _ v u H2 h
    exact ⟨a, o, e1, e2, by cases o <;> exact e3⟩) h) (read2 (tBl_read h))
theorem pt_dnotinM {k : Ks} {W : WX} {X : Cx} {f g : Mac} {a b : Expr} {pos : Pos} (hu : X.A.units + 1 < cLine) (ha : PE X a (tM k W f)) (hb : PE X b (tM k W g)) (h1 : behindInMarks .NotIn b = false := by rfl) : PT X (.Compare a [.NotIn] [b] pos) (tMT k W (tBl (e2 f g (opDIn true)))) :=
  pt_mono (pt_cmp (pc_dnotin hu ha hb) h1) fun σ H Q h => tM_mono (fun v H1 h => tM_mono (fun u H2 h => by
    obtain ⟨a, o, e1, e2, e3⟩ := fit_din (n := true) W σ _ v u H2 h
    exact ⟨a, o, e1, e2, by cases o <;> exact e3⟩) h) (read2 (tBl_read h))
/-- [..][i]: the part is taken out, the rest is given up -/
def opIxO : VOp := fun as s => match as with
  | [⟨.al, .lst l⟩, b] => match b.d.int? with
    | some i => match atI l i with
      | some d => .ok ⟨.al, d⟩ s false
      | none => .bad
    | none => .bad
  | _ => .bad
theorem fit_ixO {k : Ks} : Fit2 k (rIx k.K) opIxO := fun W σ Q x y H h => by
  obtain ⟨P, w0, m0, H0, w, m, s, as, A, e, g1, p, h⟩ := h
  obtain ⟨a, b, A1, A2, rfl, rfl, p1, p2⟩ := p.two_inv
  obtain ⟨o, d0⟩ := a
  unfold opIxO at h
  cases o <;> first | exact h.elim | skip
  cases d0 <;> first | exact h.elim | skip
  rename_i l
  dsimp only at h p1
  obtain ⟨i, q2⟩ : ∃ zz, b.d.int? = some zz := by
    cases q : b.d.int? with
    | none => exfalso; simp only [q] at h; exact h
    | some z => exact ⟨z, rfl⟩
  simp only [q2] at h
  obtain ⟨d, q3⟩ : ∃ zz, atI l i = some zz := by
    cases q : atI l i with
    | none => exfalso; simp only [q] at h; exact h
    | some z => exact ⟨z, rfl⟩
  simp only [q3] at h
  rw [int?_eq q2] at p2
  cases p1 with
  | al p1 =>
    cases p1 with
    | imm _ z => cases z
    | @lst c AL xs _ hc r =>
      have q4 := q3
      unfold atI at q4
      cases q5 : ixN l.length i with
      | none => rw [q5] at q4; cases q4
      | some j =>
        rw [q5] at q4
        obtain ⟨v, B1, B2, B3, f1, f2, f3, _⟩ := r.focus q4
        have at1 : atI xs i = some v := by
          unfold atI
          rw [r.len, q5]
          exact f1
        refine .inl ⟨c, xs, i, v, rfl, rep_of_int p2, .inl (.inl hc), at1, ?_⟩
        have nd := g1.nd
        have sub : ∀ z ∈ B2, z ∈ c :: AL ++ A2 := fun z hz => by rw [f2]; simp [hz]
        have n2 : B2.Nodup := by
          have n1 := (List.nodup_append.mp nd).1
          have n3 := (List.nodup_cons.mp n1).2
          rw [f2] at n3
          exact (List.nodup_append.mp (List.nodup_append.mp n3).1).2.1
        exact h v H B2 w m ((g1.less sub n2).ef fun z => by simpa using z) (.al f3)
end MM

/-! Reckoning with machines: each piece by a row for simp; what waits stands folded. -/
namespace MM
open L2 GB PySem
section
variable {s s1 s2 : MSt} {e e1' e2' : Bool} {a b c' : Val} {as : List Val} {c : Str} {ns : List Str} {l l2 : List MM.D} {d d2 : MM.D} {o o1 o2 : Own} {i j : Int} {n m : Nat} {env cells : List Ent} {f g h : Mac} {fs gs : Macs} {t u : Mab} {F G : Mas} {op : VOp}
@[simp] theorem bind_ok {α β : Type} {a : α} {K : α → MSt → Res β} : (Res.ok a s e).bind K = (K a s).ef e := (rfl)
@[simp] theorem bind_err {α β : Type} {K : α → MSt → Res β} : (Res.err c ns l s : Res α).bind K = .err c ns l s := (rfl)
@[simp] theorem bind_bad {α β : Type} {K : α → MSt → Res β} : (Res.bad : Res α).bind K = .bad := (rfl)
@[simp] theorem ef_ok {α : Type} {a : α} {e' : Bool} : (Res.ok a s e).ef e' = .ok a s (e' || e) := (rfl)
@[simp] theorem ef_err {α : Type} {e' : Bool} : (Res.err c ns l s : Res α).ef e' = .err c ns l s := (rfl)
@[simp] theorem ef_bad {α : Type} {e' : Bool} : (Res.bad : Res α).ef e' = .bad := (rfl)
/-! arguments -/
@[simp] theorem eN_s : eN fs op s = (fs s).bind op := (rfl)
@[simp] theorem e1_s {f : Mac} : e1 f op s = (aCons f aNil s).bind op := (rfl)
@[simp] theorem e2_s {f g : Mac} : e2 f g op s = (aCons f (aCons g aNil) s).bind op := (rfl)
@[simp] theorem aNil_s : aNil s = .ok [] s false := (rfl)
def acR (r : Res Val) (g : Macs) : Res (List Val) := match r with
  | .ok a s1 e1 => (match g s1 with
    | .ok as s2 e2 => bif e2 && decide (a.o = .bo) then .bad else .ok (a :: as) s2 (e1 || e2)
    | .err c ns l s2 => .err c ns l s2
    | .bad => .bad)
  | .err c ns l s2 => .err c ns l s2
  | .bad => .bad
def acR2 (a : Val) (e1 : Bool) (r : Res (List Val)) : Res (List Val) := match r with
    | .ok as s2 e2 => bif e2 && decide (a.o = .bo) then .bad else .ok (a :: as) s2 (e1 || e2)
    | .err c ns l s2 => .err c ns l s2
    | .bad => .bad
@[simp] theorem aCons_s {f : Mac} {g : Macs} : aCons f g s = acR (f s) g := (rfl)
@[simp] theorem acR_ok {g : Macs} : acR (.ok a s e) g = acR2 a e (g s) := (rfl)
@[simp] theorem acR_err {g : Macs} : acR (.err c ns l s) g = .err c ns l s := (rfl)
@[simp] theorem acR_bad {g : Macs} : acR .bad g = .bad := (rfl)
@[simp] theorem acR2_ok : acR2 a e1' (.ok as s e) = bif e && decide (a.o = .bo) then .bad else .ok (a :: as) s (e1' || e) := (rfl)
@[simp] theorem acR2_err : acR2 a e1' (.err c ns l s) = .err c ns l s := (rfl)
@[simp] theorem acR2_bad : acR2 a e1' .bad = .bad := (rfl)
/-! names, constants -/
def varR (x : Option Ent) (s : MSt) : Res Val := match x with
  | some (some a) => .ok ⟨rdO a, a.d⟩ s false
  | _ => .bad
@[simp] theorem eVar_s {i : Nat} : eVar i s = varR s.env[i]? s := (rfl)
@[simp] theorem varR_some : varR (some (some a)) s = .ok ⟨rdO a, a.d⟩ s false := (rfl)
@[simp] theorem varR_none : varR (some none) s = .bad := (rfl)
theorem rdO_mk : rdO ⟨o, d⟩ = bif imm d then .al else bif decide (o = .sh) then .sh else .bo := (rfl)
@[simp] theorem eC_s : eC d s = bif imm d then .ok ⟨.al, d⟩ s false else .bad := (rfl)

@[simp] theorem imm_non : imm .non = true := (rfl)
@[simp] theorem imm_bl {b : Bool} : imm (.bl b) = true := (rfl)
@[simp] theorem imm_int : imm (.int i) = true := (rfl)
@[simp] theorem imm_str {z : Str} : imm (.str z) = true := (rfl)
@[simp] theorem imm_lst : imm (.lst l) = false := (rfl)
@[simp] theorem imm_dct {ks : List Key} : imm (.dct ks l) = false := (rfl)
@[simp] theorem imm_tup : imm (.tup l) = immL l := (rfl)
@[simp] theorem imm_fls : imm (.fls l) = immL l := (rfl)
@[simp] theorem imm_ref : imm (.ref n) = true := (rfl)
@[simp] theorem immL_nil : immL [] = true := (rfl)
@[simp] theorem immL_cons : immL (d :: l) = (imm d && immL l) := (rfl)
theorem immL_all (h : ∀ d ∈ l, imm d = true) : immL l = true := by
  induction l with
  | nil => rfl
  | cons x l ih =>
    rw [immL_cons, h x (by simp), ih fun d z => h d (by simp [z])]
    rfl
@[simp] theorem immL_int {il : List Int} : immL (il.map .int) = true := immL_all (by simp)
@[simp] theorem int?_int : (MM.D.int i).int? = some i := rfl
@[simp] theorem bl?_bl {b : Bool} : (MM.D.bl b).bl? = some b := (rfl)
@[simp] theorem str?_str {z : Str} : (MM.D.str z).str? = some z := (rfl)
@[simp] theorem seq?_lst : (MM.D.lst l).seq? = some l := (rfl)
@[simp] theorem seq?_fls : (MM.D.fls l).seq? = some l := (rfl)
@[simp] theorem seq?_tup : (MM.D.tup l).seq? = some l := (rfl)
@[simp] theorem lst?_lst : (MM.D.lst l).lst? = some l := (rfl)
@[simp] theorem lst?_fls : (MM.D.fls l).lst? = some l := (rfl)
/-! what stands in a cell -/
def derR (x : Option Ent) : Option MM.D := match x with
  | some (some a) => some a.d
  | _ => none
@[simp] theorem der_ref : der s (.ref n) = derR s.cells[n]? := (rfl)
@[simp] theorem derR_some : derR (some (some a)) = some a.d := (rfl)
@[simp] theorem der_non : der s .non = some .non := (rfl)
@[simp] theorem der_bl {b : Bool} : der s (.bl b) = some (.bl b) := (rfl)
@[simp] theorem der_int : der s (.int i) = some (.int i) := (rfl)
@[simp] theorem der_str {z : Str} : der s (.str z) = some (.str z) := (rfl)
@[simp] theorem der_lst : der s (.lst l) = some (.lst l) := (rfl)
@[simp] theorem der_fls : der s (.fls l) = some (.fls l) := (rfl)
@[simp] theorem der_tup : der s (.tup l) = some (.tup l) := (rfl)
@[simp] theorem der_dct {ks : List Key} : der s (.dct ks l) = some (.dct ks l) := (rfl)
@[simp] theorem nb_lst : nb ⟨o, .lst l⟩ = decide (o ≠ .bo) := (rfl)
@[simp] theorem nb_fls : nb ⟨o, .fls l⟩ = decide (o ≠ .bo) := (rfl)
@[simp] theorem nb_tup : nb ⟨o, .tup l⟩ = decide (o ≠ .bo) := (rfl)
@[simp] theorem nb_ref : nb ⟨o, .ref n⟩ = false := (rfl)
theorem inO_s : inO a d = bif imm d then .al else bif nb a then .sh else .bo := (rfl)
theorem inO_imm (h : imm d = true) : inO a d = .al := by rw [inO_s, h]; rfl
theorem inO_lst : inO a (.lst l) = bif nb a then .sh else .bo := (rfl)
/-! reckoning -/
def opR (x : Option MM.D) (s : MSt) : Res Val := match x with
  | some d => .ok ⟨.al, d⟩ s false
  | none => .bad
@[simp] theorem opR_some : opR (some d) s = .ok ⟨.al, d⟩ s false := (rfl)
@[simp] theorem opR_none : opR none s = .bad := (rfl)
@[simp] theorem opII_s {q : Int → Int → Option MM.D} : opII q ([⟨o1, .int i⟩, ⟨o2, .int j⟩] : List Val) s = opR (q i j) s := by
  unfold opII opR
  dsimp only [int?_int]
  all_goals cases q i j <;> rfl
@[simp] theorem gI_s {q : Int → Int → Int} : gI q i j = some (.int (q i j)) := (rfl)
@[simp] theorem gB_s {q : Int → Int → Bool} : gB q i j = some (.bl (q i j)) := (rfl)
theorem gIc_s {C : Int → Int → Prop} {q : Int → Int → Int} (h : C i j) : gIc C q i j = some (.int (q i j)) := if_pos h
@[simp] theorem gIc_mod {q : Int → Int → Int} (h : ¬ j = 0) : gIc (fun _ j => ¬ j = 0) q i j = some (.int (q i j)) := if_pos h
@[simp] theorem atI_pos {α : Type} {l : List α} (h : 0 ≤ i) : atI l i = l[i.toNat]? := by
  unfold atI ixN
  rw [if_pos h]
  by_cases c : i < l.length
  · rw [if_pos c]
    rfl
  · rw [if_neg c]
    exact (List.getElem?_eq_none (by omega)).symm
theorem atI_last {α : Type} {l : List α} : atI l (-1) = l.getLast? := by
  unfold atI ixN
  rw [if_neg (by omega), List.getLast?_eq_getElem?]
  by_cases c : -(l.length : Int) ≤ -1
  · rw [if_pos c]
    show l[(-1 + (l.length : Int)).toNat]? = _
    congr 1
    omega
  · rw [if_neg c]
    exact (List.getElem?_eq_none (by omega)).symm
@[simp] theorem ixN_pos (h : 0 ≤ i) (h1 : i < (n : Int)) : ixN n i = some i.toNat := by
  unfold ixN
  rw [if_pos h, if_pos h1]
@[simp] theorem opI_s {q : Int → MM.D} : opI q [⟨o1, .int i⟩] s = .ok ⟨.al, q i⟩ s false := (rfl)
@[simp] theorem opAbs_s : opAbs [⟨o1, .int i⟩] s = .ok ⟨.al, .int (if i < 0 then -i else i)⟩ s false := (rfl)
@[simp] theorem opInt_i : opInt [⟨o1, .int i⟩] s = .ok ⟨.al, .int i⟩ s false := (rfl)
@[simp] theorem opInt_b {b : Bool} : opInt [⟨o1, .bl b⟩] s = .ok ⟨.al, .int (if b then 1 else 0)⟩ s false := (rfl)
def ixR (a : Val) (x : Option MM.D) (s : MSt) : Res Val := match x with
  | some d => .ok ⟨inO a d, d⟩ s false
  | none => .bad
@[simp] theorem ixR_some : ixR a (some d) s = .ok ⟨inO a d, d⟩ s false := (rfl)
def ixR2 (a : Val) (x : Option (List MM.D)) (i : Int) (s : MSt) : Res Val := match x with
  | some l => ixR a (atI l i) s
  | none => .bad
@[simp] theorem ixR2_some : ixR2 a (some l) i s = ixR a (atI l i) s := (rfl)
@[simp] theorem opIx_s : opIx [a, ⟨o2, .int i⟩] s = ixR2 a ((der s a.d).bind D.seq?) i s := by
  unfold opIx ixR2 ixR
  dsimp only [int?_int]
  cases (der s a.d).bind D.seq? with
  | none => rfl
  | some l => cases atI l i <;> rfl
def lenR (x : Option Nat) (s : MSt) : Res Val := match x with
  | some n => .ok ⟨.al, .int n⟩ s false
  | none => .bad
@[simp] theorem lenR_some : lenR (some n) s = .ok ⟨.al, .int n⟩ s false := (rfl)
@[simp] theorem opLen_s : opLen [a] s = lenR ((der s a.d).bind lenD) s := by
  unfold opLen lenR
  dsimp only
  all_goals cases (der s a.d).bind lenD <;> rfl
@[simp] theorem lenD_lst : lenD (.lst l) = some l.length := (rfl)
@[simp] theorem lenD_fls : lenD (.fls l) = some l.length := (rfl)
@[simp] theorem lenD_tup : lenD (.tup l) = some l.length := (rfl)
@[simp] theorem lenD_dct {ks : List Key} : lenD (.dct ks l) = some ks.length := (rfl)
@[simp] theorem anyBo_nil : anyBo [] = false := (rfl)
@[simp] theorem anyBo_cons : anyBo (a :: as) = (decide (a.o = .bo) || anyBo as) := (rfl)
@[simp] theorem allAl_nil : allAl [] = true := (rfl)
@[simp] theorem allAl_cons : allAl (a :: as) = (decide (a.o = .al) && allAl as) := (rfl)
@[simp] theorem dsOf_nil : dsOf [] = [] := (rfl)
@[simp] theorem dsOf_cons : dsOf (a :: as) = a.d :: dsOf as := (rfl)
@[simp] theorem opLst_s : opLst as s = bif anyBo as || decide (1000 < as.length) then .bad else .ok ⟨bif allAl as then .al else .sp, .lst (dsOf as)⟩ s false := (rfl)
@[simp] theorem opTup_s : opTup as s = bif anyBo as || decide (1000 < as.length) then .bad else .ok ⟨bif allAl as then .al else .sh, .tup (dsOf as)⟩ s false := (rfl)
def intsR (x : Option (List Int)) (q : List Int → Option MM.D) (s : MSt) : Res Val := match x with
  | some l => opR (q l) s
  | none => .bad
@[simp] theorem intsR_some {il : List Int} {q : List Int → Option MM.D} : intsR (some il) q s = opR (q il) s := (rfl)
@[simp] theorem opInts_s {q : List Int → Option MM.D} : opInts q [a] s = intsR (((der s a.d).bind D.lst?).bind intsOf) q s := by
  unfold opInts intsR opR
  dsimp only
  all_goals cases ((der s a.d).bind D.lst?).bind intsOf with
  | none => rfl
  | some il => cases q il <;> rfl
def blsR (x : Option (List Bool)) (q : List Bool → Bool) (s : MSt) : Res Val := match x with
  | some l => .ok ⟨.al, .bl (q l)⟩ s false
  | none => .bad
@[simp] theorem blsR_some {il : List Bool} {q : List Bool → Bool} : blsR (some il) q s = .ok ⟨.al, .bl (q il)⟩ s false := (rfl)
@[simp] theorem opBls_s {q : List Bool → Bool} : opBls q [a] s = blsR (((der s a.d).bind D.lst?).bind blsOf) q s := by
  unfold opBls blsR
  dsimp only
  all_goals cases ((der s a.d).bind D.lst?).bind blsOf <;> rfl
@[simp] theorem minL_cons {il : List Int} : minL (i :: il) = some (.int (il.foldl min i)) := (rfl)
@[simp] theorem maxL_cons {il : List Int} : maxL (i :: il) = some (.int (il.foldl max i)) := (rfl)
/-! equal, in, is -/
def eqR (n : Bool) (x : Option Bool) (s : MSt) : Res Val := match x with
  | some r => .ok ⟨.al, .bl (n != r)⟩ s false
  | none => .bad
@[simp] theorem eqR_some {n r : Bool} : eqR n (some r) s = .ok ⟨.al, .bl (n != r)⟩ s false := (rfl)
@[simp] theorem opEqS_s : opEqS [a, b] s = eqR false (eqS a.d b.d) s := by
  unfold opEqS eqR
  dsimp only
  cases eqS a.d b.d with
  | none => rfl
  | some r => cases r <;> rfl
@[simp] theorem opNeS_s : opNeS [a, b] s = eqR true (eqS a.d b.d) s := by
  unfold opNeS eqR
  dsimp only
  cases eqS a.d b.d with
  | none => rfl
  | some r => cases r <;> rfl
@[simp] theorem eqS_int : eqS (.int i) (.int j) = some (decide (i = j)) := (rfl)
@[simp] theorem eqS_str {z y : Str} : eqS (.str z) (.str y) = some (decide (z = y)) := (rfl)
@[simp] theorem eqS_bl {z y : Bool} : eqS (.bl z) (.bl y) = some (decide (z = y)) := (rfl)
def eqDR (n : Bool) (x y : Option PyData) (s : MSt) : Res Val := match x, y with
  | some p, some q => .ok ⟨.al, .bl (n != PyData.eqv p q)⟩ s false
  | _, _ => .bad
@[simp] theorem eqDR_some {n : Bool} {p q : PyData} : eqDR n (some p) (some q) s = .ok ⟨.al, .bl (n != PyData.eqv p q)⟩ s false := (rfl)
@[simp] theorem opEqD_s {n : Bool} : opEqD n [a, b] s = eqDR n (pdOf s a) (pdOf s b) s := by
  unfold opEqD eqDR
  dsimp only
  all_goals rfl
@[simp] theorem opIsN_s {n : Bool} : opIsN n [a, ⟨o2, .non⟩] s = eqR n (a.d.isNon) s := by
  unfold opIsN eqR
  dsimp only
  cases a.d.isNon <;> rfl
@[simp] theorem isNon_non : D.isNon .non = some true := (rfl)
@[simp] theorem isNon_bl {b : Bool} : D.isNon (.bl b) = some false := (rfl)
@[simp] theorem isNon_int : D.isNon (.int i) = some false := (rfl)
@[simp] theorem isNon_str {z : Str} : D.isNon (.str z) = some false := (rfl)
@[simp] theorem isNon_lst : D.isNon (.lst l) = some false := (rfl)
@[simp] theorem isNon_tup : D.isNon (.tup l) = some false := (rfl)
@[simp] theorem isNon_dct {ks : List Key} : D.isNon (.dct ks l) = some false := (rfl)
@[simp] theorem isNon_ref : D.isNon (.ref n) = some false := (rfl)
@[simp] theorem opIsB_s {n x y : Bool} : opIsB n [⟨o1, .bl x⟩, ⟨o2, .bl y⟩] s = .ok ⟨.al, .bl (n != decide (x = y))⟩ s false := (rfl)
/-! truth -/
def blR (x : Option Bool) (s : MSt) : Res Bool := match x with
  | some b => .ok b s false
  | none => .bad
@[simp] theorem blR_some {b : Bool} : blR (some b) s = .ok b s false := (rfl)
def truR (r : Res Val) : Res Bool := r.bind fun a s1 => match truD s1 a.d with
  | some b => .ok b s1 false
  | none => .bad
@[simp] theorem tTru_s : tTru f s = truR (f s) := (rfl)
@[simp] theorem truR_ok : truR (.ok a s e) = (blR (truD s a.d) s).ef e := (rfl)
@[simp] theorem truR_err : truR (.err c ns l s) = .err c ns l s := (rfl)
@[simp] theorem truR_bad : truR .bad = .bad := (rfl)
@[simp] theorem truD_bl {b : Bool} : truD s (.bl b) = some b := (rfl)
@[simp] theorem truD_non : truD s .non = some false := (rfl)
@[simp] theorem truD_int : truD s (.int i) = some (i != 0) := (rfl)
@[simp] theorem truD_lst : truD s (.lst l) = some (!l.isEmpty) := (rfl)
@[simp] theorem truD_tup : truD s (.tup l) = some (!l.isEmpty) := (rfl)
def tblR (r : Res Val) : Res Bool := r.bind fun a s1 => match a.d.bl? with
  | some b => .ok b s1 false
  | none => .bad
@[simp] theorem tBl_s : tBl f s = tblR (f s) := (rfl)
@[simp] theorem tblR_ok : tblR (.ok a s e) = (blR a.d.bl? s).ef e := (rfl)
@[simp] theorem tblR_err : tblR (.err c ns l s) = .err c ns l s := (rfl)
@[simp] theorem tblR_bad : tblR .bad = .bad := (rfl)
def andR (r : Res Bool) (u : Mab) : Res Bool := r.bind fun b s1 => bif b then u s1 else .ok false s1 false
def orR (r : Res Bool) (u : Mab) : Res Bool := r.bind fun b s1 => bif b then .ok true s1 false else u s1
def notR (r : Res Bool) : Res Bool := r.bind fun b s1 => .ok (!b) s1 false
@[simp] theorem tAndM_s : tAndM t u s = andR (t s) u := (rfl)
@[simp] theorem andR_ok {b : Bool} : andR (.ok b s e) u = (bif b then u s else .ok false s false).ef e := (rfl)
@[simp] theorem andR_err : andR (.err c ns l s) u = .err c ns l s := (rfl)
@[simp] theorem andR_bad : andR .bad u = .bad := (rfl)
@[simp] theorem tOrM_s : tOrM t u s = orR (t s) u := (rfl)
@[simp] theorem orR_ok {b : Bool} : orR (.ok b s e) u = (bif b then .ok true s false else u s).ef e := (rfl)
@[simp] theorem orR_err : orR (.err c ns l s) u = .err c ns l s := (rfl)
@[simp] theorem orR_bad : orR .bad u = .bad := (rfl)
@[simp] theorem tNotM_s : tNotM t s = notR (t s) := (rfl)
@[simp] theorem notR_ok {b : Bool} : notR (.ok b s e) = .ok (!b) s (e || false) := (rfl)
@[simp] theorem notR_err : notR (.err c ns l s) = .err c ns l s := (rfl)
@[simp] theorem notR_bad : notR .bad = .bad := (rfl)
def eAndR (r : Res Bool) (g : Mac) : Res Val := r.bind fun b s1 => bif b then g s1 else .ok ⟨.al, .bl false⟩ s1 false
def eOrR (r : Res Bool) (g : Mac) : Res Val := r.bind fun b s1 => bif b then .ok ⟨.al, .bl true⟩ s1 false else g s1
def eNotR (r : Res Bool) : Res Val := r.bind fun b s1 => .ok ⟨.al, .bl (!b)⟩ s1 false
def eIfR (r : Res Bool) (f g : Mac) : Res Val := r.bind fun b s1 => bif b then f s1 else g s1
@[simp] theorem eAnd_s : eAnd f g s = eAndR (tblR (f s)) g := (rfl)
@[simp] theorem eAndR_ok {b : Bool} : eAndR (.ok b s e) g = (bif b then g s else .ok ⟨.al, .bl false⟩ s false).ef e := (rfl)
@[simp] theorem eAndR_err : eAndR (.err c ns l s) g = .err c ns l s := (rfl)
@[simp] theorem eAndR_bad : eAndR .bad g = .bad := (rfl)
@[simp] theorem eOr_s : eOr f g s = eOrR (tblR (f s)) g := (rfl)
@[simp] theorem eOrR_ok {b : Bool} : eOrR (.ok b s e) g = (bif b then .ok ⟨.al, .bl true⟩ s false else g s).ef e := (rfl)
@[simp] theorem eOrR_err : eOrR (.err c ns l s) g = .err c ns l s := (rfl)
@[simp] theorem eOrR_bad : eOrR .bad g = .bad := (rfl)
@[simp] theorem eNot_s : eNot f s = eNotR (tblR (f s)) := (rfl)
@[simp] theorem eNotR_ok {b : Bool} : eNotR (.ok b s e) = .ok ⟨.al, .bl (!b)⟩ s (e || false) := (rfl)
@[simp] theorem eNotR_err : eNotR (.err c ns l s) = .err c ns l s := (rfl)
@[simp] theorem eNotR_bad : eNotR .bad = .bad := (rfl)
@[simp] theorem eIf_s : eIf t f g s = eIfR (t s) f g := (rfl)
@[simp] theorem eIfR_ok {b : Bool} : eIfR (.ok b s e) f g = (bif b then f s else g s).ef e := (rfl)
@[simp] theorem eIfR_err : eIfR (.err c ns l s) f g = .err c ns l s := (rfl)
@[simp] theorem eIfR_bad : eIfR .bad f g = .bad := (rfl)
/-! isinstance -/
def isiR (x : Option MM.D) (q : MM.D → Bool) (s : MSt) : Res Val := match x with
  | some d => (match d.tyS with
    | some _ => .ok ⟨.al, .bl (q d)⟩ s false
    | none => .bad)
  | none => .bad
@[simp] theorem opIsi_s {y : Ty} : opIsi y [a] s = isiR (der s a.d) (fun d => d.isA y) s := by
  unfold opIsi isiR
  dsimp only
  all_goals cases der s a.d with
  | none => rfl
  | some d => dsimp only; cases d.tyS <;> rfl
@[simp] theorem opIsiQ_s {y z : Ty} : opIsiQ y z [a] s = isiR (der s a.d) (fun d => d.isA y || d.isA z) s := by
  unfold opIsiQ isiR
  dsimp only
  all_goals cases der s a.d with
  | none => rfl
  | some d => dsimp only; cases d.tyS <;> rfl
def plain (d : MM.D) : Bool := d.tyS.isSome
theorem isiR_some {q : MM.D → Bool} (h : plain d = true) : isiR (some d) q s = .ok ⟨.al, .bl (q d)⟩ s false := by
  unfold plain at h
  unfold isiR
  dsimp only
  cases z : d.tyS with
  | none => rw [z] at h; cases h
  | some _ => rfl
@[simp] theorem isiR_non {q : MM.D → Bool} : isiR (some .non) q s = .ok ⟨.al, .bl (q .non)⟩ s false := (rfl)
@[simp] theorem isiR_bl {b : Bool} {q : MM.D → Bool} : isiR (some (.bl b)) q s = .ok ⟨.al, .bl (q (.bl b))⟩ s false := (rfl)
@[simp] theorem isiR_int {q : MM.D → Bool} : isiR (some (.int i)) q s = .ok ⟨.al, .bl (q (.int i))⟩ s false := (rfl)
@[simp] theorem isiR_str {z : Str} {q : MM.D → Bool} : isiR (some (.str z)) q s = .ok ⟨.al, .bl (q (.str z))⟩ s false := (rfl)
@[simp] theorem isiR_lst {q : MM.D → Bool} : isiR (some (.lst l)) q s = .ok ⟨.al, .bl (q (.lst l))⟩ s false := (rfl)
@[simp] theorem isiR_tup {q : MM.D → Bool} : isiR (some (.tup l)) q s = .ok ⟨.al, .bl (q (.tup l))⟩ s false := (rfl)
@[simp] theorem isiR_fls {q : MM.D → Bool} : isiR (some (.fls l)) q s = .ok ⟨.al, .bl (q (.fls l))⟩ s false := (rfl)
@[simp] theorem isiR_dct {ks : List Key} {q : MM.D → Bool} : isiR (some (.dct ks l)) q s = .ok ⟨.al, .bl (q (.dct ks l))⟩ s false := (rfl)
@[simp] theorem isA_non_int : D.isA .non .int = false := (rfl)
@[simp] theorem isA_non_bool : D.isA .non .bool = false := (rfl)
@[simp] theorem isA_non_str : D.isA .non .str = false := (rfl)
@[simp] theorem isA_non_list : D.isA .non .list = false := (rfl)
@[simp] theorem isA_non_tuple : D.isA .non .tuple = false := (rfl)
@[simp] theorem isA_non_dict : D.isA .non .dict = false := (rfl)
@[simp] theorem isA_bl_int {x : Bool} : D.isA (.bl x) .int = true := (rfl)
@[simp] theorem isA_bl_bool {x : Bool} : D.isA (.bl x) .bool = true := (rfl)
@[simp] theorem isA_bl_str {x : Bool} : D.isA (.bl x) .str = false := (rfl)
@[simp] theorem isA_bl_list {x : Bool} : D.isA (.bl x) .list = false := (rfl)
@[simp] theorem isA_bl_tuple {x : Bool} : D.isA (.bl x) .tuple = false := (rfl)
@[simp] theorem isA_bl_dict {x : Bool} : D.isA (.bl x) .dict = false := (rfl)
@[simp] theorem isA_int_int : D.isA (.int i) .int = true := (rfl)
@[simp] theorem isA_int_bool : D.isA (.int i) .bool = false := (rfl)
@[simp] theorem isA_int_str : D.isA (.int i) .str = false := (rfl)
@[simp] theorem isA_int_list : D.isA (.int i) .list = false := (rfl)
@[simp] theorem isA_int_tuple : D.isA (.int i) .tuple = false := (rfl)
@[simp] theorem isA_int_dict : D.isA (.int i) .dict = false := (rfl)
@[simp] theorem isA_str_int {x : Str} : D.isA (.str x) .int = false := (rfl)
@[simp] theorem isA_str_bool {x : Str} : D.isA (.str x) .bool = false := (rfl)
@[simp] theorem isA_str_str {x : Str} : D.isA (.str x) .str = true := (rfl)
@[simp] theorem isA_str_list {x : Str} : D.isA (.str x) .list = false := (rfl)
@[simp] theorem isA_str_tuple {x : Str} : D.isA (.str x) .tuple = false := (rfl)
@[simp] theorem isA_str_dict {x : Str} : D.isA (.str x) .dict = false := (rfl)
@[simp] theorem isA_lst_int : D.isA (.lst l) .int = false := (rfl)
@[simp] theorem isA_lst_bool : D.isA (.lst l) .bool = false := (rfl)
@[simp] theorem isA_lst_str : D.isA (.lst l) .str = false := (rfl)
@[simp] theorem isA_lst_list : D.isA (.lst l) .list = true := (rfl)
@[simp] theorem isA_lst_tuple : D.isA (.lst l) .tuple = false := (rfl)
@[simp] theorem isA_lst_dict : D.isA (.lst l) .dict = false := (rfl)
@[simp] theorem isA_fls_int : D.isA (.fls l) .int = false := (rfl)
@[simp] theorem isA_fls_bool : D.isA (.fls l) .bool = false := (rfl)
@[simp] theorem isA_fls_str : D.isA (.fls l) .str = false := (rfl)
@[simp] theorem isA_fls_list : D.isA (.fls l) .list = true := (rfl)
@[simp] theorem isA_fls_tuple : D.isA (.fls l) .tuple = false := (rfl)
@[simp] theorem isA_fls_dict : D.isA (.fls l) .dict = false := (rfl)
@[simp] theorem isA_tup_int : D.isA (.tup l) .int = false := (rfl)
@[simp] theorem isA_tup_bool : D.isA (.tup l) .bool = false := (rfl)
@[simp] theorem isA_tup_str : D.isA (.tup l) .str = false := (rfl)
@[simp] theorem isA_tup_list : D.isA (.tup l) .list = false := (rfl)
@[simp] theorem isA_tup_tuple : D.isA (.tup l) .tuple = true := (rfl)
@[simp] theorem isA_tup_dict : D.isA (.tup l) .dict = false := (rfl)
@[simp] theorem isA_dct_int {x : List Key} : D.isA (.dct x l) .int = false := (rfl)
@[simp] theorem isA_dct_bool {x : List Key} : D.isA (.dct x l) .bool = false := (rfl)
@[simp] theorem isA_dct_str {x : List Key} : D.isA (.dct x l) .str = false := (rfl)
@[simp] theorem isA_dct_list {x : List Key} : D.isA (.dct x l) .list = false := (rfl)
@[simp] theorem isA_dct_tuple {x : List Key} : D.isA (.dct x l) .tuple = false := (rfl)
@[simp] theorem isA_dct_dict {x : List Key} : D.isA (.dct x l) .dict = true := (rfl)

/-! statements -/
def sqR (r : Res Fl) (g : Mas) : Res Fl := match r with
  | .ok .nx s1 _ => g s1
  | r => r
@[simp] theorem mSeq_s : mSeq F G s = sqR (F s) G := by
  unfold mSeq sqR
  cases F s with
  | ok fl s1 e => cases fl <;> rfl
  | err _ _ _ _ => rfl
  | bad => rfl
@[simp] theorem sqR_nx : sqR (.ok .nx s e) G = G s := (rfl)
@[simp] theorem sqR_rt : sqR (.ok (.rt a) s e) G = .ok (.rt a) s e := (rfl)
@[simp] theorem sqR_bk : sqR (.ok .bk s e) G = .ok .bk s e := (rfl)
@[simp] theorem sqR_ct : sqR (.ok .ct s e) G = .ok .ct s e := (rfl)
@[simp] theorem sqR_err : sqR (.err c ns l s) G = .err c ns l s := (rfl)
@[simp] theorem sqR_bad : sqR .bad G = .bad := (rfl)
@[simp] theorem mNext_s : mNext s = .ok .nx s true := (rfl)
@[simp] theorem mBreak_s : mBreak s = .ok .bk s true := (rfl)
@[simp] theorem mCont_s : mCont s = .ok .ct s true := (rfl)
def retR (r : Res Val) : Res Fl := match r with
  | .ok a s1 e => .ok (.rt a) s1 e
  | .err c ns l s' => .err c ns l s'
  | .bad => .bad
@[simp] theorem mRet_s : mRet f s = retR (f s) := (rfl)
@[simp] theorem retR_ok : retR (.ok a s e) = .ok (.rt a) s e := (rfl)
@[simp] theorem retR_err : retR (.err c ns l s) = .err c ns l s := (rfl)
@[simp] theorem retR_bad : retR .bad = .bad := (rfl)
@[simp] theorem mRetN_s : mRetN s = .ok (.rt ⟨.al, .non⟩) s true := (rfl)
def retvR (x : Option Ent) (i : Nat) (s : MSt) : Res Fl := match x with
  | some (some a) => .ok (.rt a) (put s (.inl i) none) true
  | _ => .bad
@[simp] theorem mRetV_s {i : Nat} : mRetV i s = retvR s.env[i]? i s := (rfl)
@[simp] theorem retvR_some {i : Nat} : retvR (some (some a)) i s = .ok (.rt a) (put s (.inl i) none) true := (rfl)
def setR (fr : Bool) (i : Nat) (r : Res Val) : Res Fl := match r with
  | .ok a s1 _ => bif decide (a.o = .bo) || decide (s1.env.length ≤ i) then .bad else .ok .nx (put s1 (.inl i) (some (stO fr a))) true
  | .err c ns l s' => .err c ns l s'
  | .bad => .bad
@[simp] theorem mSet_s {fr : Bool} {i : Nat} : mSet fr i f s = setR fr i (f s) := (rfl)
@[simp] theorem setR_ok {fr : Bool} {i : Nat} : setR fr i (.ok a s e) = bif decide (a.o = .bo) || decide (s.env.length ≤ i) then .bad else .ok .nx (put s (.inl i) (some (stO fr a))) true := (rfl)
@[simp] theorem setR_err {fr : Bool} {i : Nat} : setR fr i (.err c ns l s) = .err c ns l s := (rfl)
@[simp] theorem setR_bad {fr : Bool} {i : Nat} : setR fr i .bad = .bad := (rfl)
@[simp] theorem stO_t : stO true a = ⟨.sh, a.d⟩ := (rfl)
@[simp] theorem stO_f : stO false a = a := (rfl)
@[simp] theorem put_l {i : Nat} {x : Option Val} : put ⟨env, cells⟩ (.inl i) x = ⟨env.set i x, cells⟩ := (rfl)
@[simp] theorem put_r {i : Nat} {x : Option Val} : put ⟨env, cells⟩ (.inr i) x = ⟨env, cells.set i x⟩ := (rfl)
def expR (r : Res Val) : Res Fl := match r with
  | .ok _ s1 _ => .ok .nx s1 true
  | .err c ns l s' => .err c ns l s'
  | .bad => .bad
@[simp] theorem mExpr_s : mExpr f s = expR (f s) := (rfl)
@[simp] theorem expR_ok : expR (.ok a s e) = .ok .nx s true := (rfl)
@[simp] theorem expR_err : expR (.err c ns l s) = .err c ns l s := (rfl)
@[simp] theorem expR_bad : expR .bad = .bad := (rfl)
def ifR (r : Res Bool) (F G : Mas) : Res Fl := match r with
  | .ok b s1 _ => bif b then F s1 else G s1
  | .err c ns l s' => .err c ns l s'
  | .bad => .bad
@[simp] theorem mIf_s : mIf t F G s = ifR (t s) F G := (rfl)
@[simp] theorem ifR_ok {b : Bool} : ifR (.ok b s e) F G = bif b then F s else G s := (rfl)
@[simp] theorem ifR_err : ifR (.err c ns l s) F G = .err c ns l s := (rfl)
@[simp] theorem ifR_bad : ifR .bad F G = .bad := (rfl)
@[simp] theorem wipes_nil : wipes [] s = s := (rfl)
@[simp] theorem wipes_cons {i : Nat} {js : List Nat} : wipes (i :: js) s = wipes js (put s (.inl i) none) := (rfl)
def refR (i : Nat) (r : Res Val) : Res Fl := match r with
  | .ok a s1 _ => bif imm a.d && decide (a.o ≠ .bo) && decide (i < s1.env.length) then .ok .nx (put s1 (.inl i) (some (stO true a))) true else bif (decide (a.o = .al) || decide (a.o = .sp)) && isRoot a.d && decide (i < s1.env.length) then .ok .nx (put (newCell s1 a) (.inl i) (some ⟨.al, .ref s1.cells.length⟩)) true else .bad
  | .err c ns l s' => .err c ns l s'
  | .bad => .bad
@[simp] theorem mSetRef_s {i : Nat} : mSetRef i f s = refR i (f s) := (rfl)
@[simp] theorem refR_ok {i : Nat} : refR i (.ok a s e) = bif imm a.d && decide (a.o ≠ .bo) && decide (i < s.env.length) then .ok .nx (put s (.inl i) (some (stO true a))) true else bif (decide (a.o = .al) || decide (a.o = .sp)) && isRoot a.d && decide (i < s.env.length) then .ok .nx (put (newCell s a) (.inl i) (some ⟨.al, .ref s.cells.length⟩)) true else .bad := (rfl)
@[simp] theorem newCell_s : newCell ⟨env, cells⟩ a = ⟨env, cells ++ [some a]⟩ := (rfl)
@[simp] theorem isRoot_lst : isRoot (.lst l) = true := (rfl)
@[simp] theorem isRoot_dct {ks : List Key} : isRoot (.dct ks l) = true := (rfl)
def rseR (c : Str) (ns : List Str) (r : Res (List Val)) : Res Fl := match r with
  | .ok as s1 _ => bif anyBo as || decide (as.length ≠ ns.length) then .bad else .err c ns.reverse (dsOf as).reverse s1
  | .err c ns l s' => .err c ns l s'
  | .bad => .bad
@[simp] theorem mRaise_s : mRaise c ns fs s = rseR c ns (fs s) := (rfl)
@[simp] theorem rseR_ok : rseR c ns (.ok as s e) = bif anyBo as || decide (as.length ≠ ns.length) then .bad else .err c ns.reverse (dsOf as).reverse s := (rfl)
@[simp] theorem rseR_err {c2 : Str} {ns2 : List Str} : rseR c2 ns2 (.err c ns l s) = .err c ns l s := (rfl)
@[simp] theorem rseR_bad : rseR c ns .bad = .bad := (rfl)
def asgR (r : Res Val) (T : Tgt) : Res Fl := match r with
  | .ok a s1 _ => (match T a s1 with
    | some s2 => .ok .nx s2 true
    | none => .bad)
  | .err c ns l s' => .err c ns l s'
  | .bad => .bad
def asgR2 (x : Option MSt) : Res Fl := match x with
    | some s2 => .ok .nx s2 true
    | none => .bad
@[simp] theorem mAsg_s {T : Tgt} : mAsg f T s = asgR (f s) T := (rfl)
@[simp] theorem asgR_ok {T : Tgt} : asgR (.ok a s e) T = asgR2 (T a s) := (rfl)
@[simp] theorem asgR_err {T : Tgt} : asgR (.err c ns l s) T = .err c ns l s := (rfl)
@[simp] theorem asgR_bad {T : Tgt} : asgR .bad T = .bad := (rfl)
@[simp] theorem asgR2_some : asgR2 (some s) = .ok .nx s true := (rfl)
@[simp] theorem tgName_s {fr : Bool} {i : Nat} : tgName fr i a s = bif decide (a.o = .bo) || decide (s.env.length ≤ i) then none else some (put s (.inl i) (some (stO fr a))) := (rfl)
@[simp] theorem tgNil_s : tgNil [] s = some s := (rfl)
@[simp] theorem tgCons_s {T : Tgt} {Ts : List Val → MSt → Option MSt} : tgCons T Ts (a :: as) s = (T a s).bind (Ts as) := (rfl)
@[simp] theorem tgTup_s {Ts : List Val → MSt → Option MSt} : tgTup Ts ⟨o, .tup l⟩ s = Ts (l.map (partV ⟨o, .tup l⟩)) s := (rfl)
@[simp] theorem partV_s : partV a d = ⟨bif decide (a.o = .al) || imm d then .al else a.o, d⟩ := (rfl)
def parR (fi fj : Bool) (i j : Nat) (r : Res (List Val)) : Res Fl := match r with
  | .ok [a, b] s1 _ => bif decide (a.o = .bo) || decide (b.o = .bo) || decide (s1.env.length ≤ i) || decide (s1.env.length ≤ j) then .bad else .ok .nx (put (put s1 (.inl i) (some (stO fi a))) (.inl j) (some (stO fj b))) true
  | .err c ns l s' => .err c ns l s'
  | _ => .bad
@[simp] theorem mPar_s {fi fj : Bool} {i j : Nat} : mPar fi fj i j fs s = parR fi fj i j (fs s) := (rfl)
@[simp] theorem parR_ok {fi fj : Bool} {i j : Nat} : parR fi fj i j (.ok [a, b] s e) = bif decide (a.o = .bo) || decide (b.o = .bo) || decide (s.env.length ≤ i) || decide (s.env.length ≤ j) then .bad else .ok .nx (put (put s (.inl i) (some (stO fi a))) (.inl j) (some (stO fj b))) true := (rfl)
/-! places -/
def mvR (x : Option Ent) (i : Nat) (s : MSt) : Res Val := match x with
  | some (some a) => .ok a (put s (.inl i) none) true
  | _ => .bad
@[simp] theorem eMv_s {i : Nat} : eMv i s = mvR s.env[i]? i s := (rfl)
@[simp] theorem mvR_some {i : Nat} : mvR (some (some a)) i s = .ok a (put s (.inl i) none) true := (rfl)
def plvR (x : Option Ent) (i : Nat) (s : MSt) : Option ((Nat ⊕ Nat) × List Nat × MSt) := match x with
  | some (some ⟨_, .ref n⟩) => some (.inr n, [], s)
  | some (some _) => some (.inl i, [], s)
  | _ => none
@[simp] theorem plVar_s {i : Nat} : plVar i s = plvR s.env[i]? i s := by
  unfold plVar plvR
  cases s.env[i]? with
  | none => rfl
  | some x => cases x with
    | none => rfl
    | some a => obtain ⟨o, d⟩ := a; cases d <;> rfl
@[simp] theorem plvR_ref {i : Nat} : plvR (some (some ⟨o, .ref n⟩)) i s = some (.inr n, [], s) := (rfl)
@[simp] theorem plvR_lst {i : Nat} : plvR (some (some ⟨o, .lst l⟩)) i s = some (.inl i, [], s) := (rfl)
@[simp] theorem plvR_dct {i : Nat} {ks : List Key} : plvR (some (some ⟨o, .dct ks l⟩)) i s = some (.inl i, [], s) := (rfl)
@[simp] theorem ent_l {i : Nat} : ent s (.inl i) = (s.env[i]?).bind id := (rfl)
@[simp] theorem ent_r {i : Nat} : ent s (.inr i) = (s.cells[i]?).bind id := (rfl)
def plxR3 (q : Nat ⊕ Nat) (π : List Nat) (x : Option MM.D) (i : Option Int) (s : MSt) : Option ((Nat ⊕ Nat) × List Nat × MSt) := match x, i with
  | some (.lst l), some i => (match ixN l.length i with
    | some j => (match l[j]? with
      | some (.ref n) => some (.inr n, [], s)
      | some _ => some (q, π ++ [j], s)
      | none => none)
    | none => none)
  | _, _ => none
def plxR2 (q : Nat ⊕ Nat) (π : List Nat) (r : Res Val) : Option ((Nat ⊕ Nat) × List Nat × MSt) := match r with
    | .ok a s2 false => (match ent s2 q with
      | some ⟨.al, d⟩ => plxR3 q π (subD d π) a.d.int? s2
      | _ => none)
    | _ => none
def plxR (x : Option ((Nat ⊕ Nat) × List Nat × MSt)) (f : Mac) : Option ((Nat ⊕ Nat) × List Nat × MSt) := match x with
  | some (q, π, s1) => plxR2 q π (f s1)
  | none => none
@[simp] theorem plIx_s {p : Plc} : plIx p f s = plxR (p s) f := by
  unfold plIx plxR plxR2 plxR3
  cases p s with
  | none => rfl
  | some x =>
    obtain ⟨q, π, s1⟩ := x
    dsimp only
    all_goals cases f s1 with
    | err _ _ _ _ => rfl
    | bad => rfl
    | ok a s2 e =>
      cases e with
      | true => rfl
      | false =>
        dsimp only
        cases ent s2 q with
        | none => rfl
        | some y =>
          obtain ⟨o, d⟩ := y
          cases o <;> rfl
@[simp] theorem plxR_some {q : Nat ⊕ Nat} {π : List Nat} : plxR (some (q, π, s)) f = plxR2 q π (f s) := (rfl)
def plxR4 (q : Nat ⊕ Nat) (π : List Nat) (x : Option Val) (i : Option Int) (s : MSt) : Option ((Nat ⊕ Nat) × List Nat × MSt) := match x with
  | some ⟨.al, d⟩ => plxR3 q π (subD d π) i s
  | _ => none
@[simp] theorem plxR2_ok {q : Nat ⊕ Nat} {π : List Nat} : plxR2 q π (.ok a s false) = plxR4 q π (ent s q) a.d.int? s := (rfl)
@[simp] theorem plxR4_al {q : Nat ⊕ Nat} {π : List Nat} {x : Option Int} : plxR4 q π (some ⟨.al, d⟩) x s = plxR3 q π (subD d π) x s := (rfl)
def plxR5 (q : Nat ⊕ Nat) (π : List Nat) (x : Option MM.D) (j : Nat) (s : MSt) : Option ((Nat ⊕ Nat) × List Nat × MSt) := match x with
      | some (.ref n) => some (.inr n, [], s)
      | some _ => some (q, π ++ [j], s)
      | none => none
def plxR6 (q : Nat ⊕ Nat) (π : List Nat) (l : List MM.D) (x : Option Nat) (s : MSt) : Option ((Nat ⊕ Nat) × List Nat × MSt) := match x with
    | some j => plxR5 q π l[j]? j s
    | none => none
@[simp] theorem plxR3_some {q : Nat ⊕ Nat} {π : List Nat} : plxR3 q π (some (.lst l)) (some i) s = plxR6 q π l (ixN l.length i) s := by
  unfold plxR3 plxR6 plxR5
  dsimp only
@[simp] theorem plxR6_some {q : Nat ⊕ Nat} {π : List Nat} : plxR6 q π l (some n) s = plxR5 q π l[n]? n s := (rfl)
@[simp] theorem plxR5_ref {q : Nat ⊕ Nat} {π : List Nat} : plxR5 q π (some (.ref m)) n s = some (.inr m, [], s) := (rfl)
@[simp] theorem plxR5_lst {q : Nat ⊕ Nat} {π : List Nat} : plxR5 q π (some (.lst l)) n s = some (q, π ++ [n], s) := (rfl)
@[simp] theorem subD_nil : subD d [] = some d := by unfold subD; rfl
@[simp] theorem putD_nil : putD d [] d2 = d2 := by unfold putD; rfl
def subR (x : Option MM.D) (π : List Nat) : Option MM.D := match x with
  | some d => subD d π
  | none => none
@[simp] theorem subR_some {π : List Nat} : subR (some d) π = subD d π := (rfl)
@[simp] theorem subD_lst {π : List Nat} {i : Nat} : subD (.lst l) (i :: π) = subR l[i]? π := by
  rw [subD]
  show (match l[i]? with | some x => subD x π | none => none) = _
  cases l[i]? <;> rfl
def putR (l : List MM.D) (x : Option MM.D) (i : Nat) (π : List Nat) (y : MM.D) : MM.D := match x with
  | some z => .lst (l.set i (putD z π y))
  | none => .lst l
@[simp] theorem putR_some {π : List Nat} {i : Nat} : putR l (some d) i π d2 = .lst (l.set i (putD d π d2)) := (rfl)
@[simp] theorem putD_lst {π : List Nat} {i : Nat} : putD (.lst l) (i :: π) d2 = putR l l[i]? i π d2 := by
  rw [putD]
  show (match l[i]? with | some y => withKids (.lst l) (l.set i (putD y π d2)) | none => .lst l) = _
  cases l[i]? <;> rfl
def ndR2 (o : Own) (d : MM.D) (π : List Nat) (x : Option MM.D) : Option (Own × MM.D × List MM.D) := match x with
    | some (.lst l) => bif decide (o = .al) || (decide (o = .sp) && decide (π = [])) then some (o, d, l) else none
    | _ => none
def ndR (x : Option Val) (π : List Nat) : Option (Own × MM.D × List MM.D) := match x with
  | some ⟨o, d⟩ => ndR2 o d π (subD d π)
  | none => none
@[simp] theorem nodeL_s {q : Nat ⊕ Nat} {π : List Nat} : nodeL s q π = ndR (ent s q) π := by
  unfold nodeL ndR ndR2
  cases ent s q with
  | none => rfl
  | some y => rfl
@[simp] theorem ndR_some {π : List Nat} : ndR (some ⟨o, d⟩) π = ndR2 o d π (subD d π) := (rfl)
@[simp] theorem ndR2_lst {π : List Nat} : ndR2 o d π (some (.lst l)) = bif decide (o = .al) || (decide (o = .sp) && decide (π = [])) then some (o, d, l) else none := (rfl)
def mutR (x : Option ((Nat ⊕ Nat) × List Nat × MSt)) (f : Macs) (op : UOp) : Res Val := match x with
  | some (q, π, s1) => (match nodeL s1 q π with
    | some _ => (match f s1 with
      | .ok as s2 e2 => bif e2 && decide (π ≠ []) then .bad else (op q π as s2).ef true
      | .err c ns l s2 => .err c ns l s2
      | .bad => .bad)
    | none => .bad)
  | none => .bad
def mutR3 (q : Nat ⊕ Nat) (π : List Nat) (r : Res (List Val)) (op : UOp) : Res Val := match r with
      | .ok as s2 e2 => bif e2 && decide (π ≠ []) then .bad else (op q π as s2).ef true
      | .err c ns l s2 => .err c ns l s2
      | .bad => .bad
def mutR2 (q : Nat ⊕ Nat) (π : List Nat) (x : Option (Own × MM.D × List MM.D)) (s : MSt) (f : Macs) (op : UOp) : Res Val := match x with
  | some _ => mutR3 q π (f s) op
  | none => .bad
@[simp] theorem eMut_s {p : Plc} {op : UOp} : eMut p fs op s = mutR (p s) fs op := (rfl)
@[simp] theorem mutR_some {q : Nat ⊕ Nat} {π : List Nat} {op : UOp} : mutR (some (q, π, s)) fs op = mutR2 q π (nodeL s q π) s fs op := (rfl)
@[simp] theorem mutR2_some {q : Nat ⊕ Nat} {π : List Nat} {op : UOp} {x : Own × MM.D × List MM.D} : mutR2 q π (some x) s fs op = mutR3 q π (fs s) op := (rfl)
@[simp] theorem mutR3_ok {q : Nat ⊕ Nat} {π : List Nat} {op : UOp} : mutR3 q π (.ok as s e) op = bif e && decide (π ≠ []) then .bad else (op q π as s).ef true := (rfl)
@[simp] theorem mutR3_err {q : Nat ⊕ Nat} {π : List Nat} {op : UOp} : mutR3 q π (.err c ns l s) op = .err c ns l s := (rfl)
noncomputable def appR (q : Nat ⊕ Nat) (π : List Nat) (a : Val) (x : Option (Own × MM.D × List MM.D)) (s : MSt) : Res Val := match x with
  | some (o, d, l) => bif !small l then .bad else bif decide (o = .al) && decide (a.o = .al) then .ok ⟨.al, .non⟩ (put s q (some ⟨.al, putD d π (.lst (l ++ [a.d]))⟩)) true
    else bif decide (π = []) && decide (a.o ≠ .bo) then .ok ⟨.al, .non⟩ (put s q (some ⟨.sp, .lst (l ++ [a.d])⟩)) true else .bad
  | none => .bad
@[simp] theorem uApp_s {q : Nat ⊕ Nat} {π : List Nat} : uApp q π [a] s = appR q π a (nodeL s q π) s := by
  unfold uApp appR
  cases nodeL s q π <;> rfl
@[simp] theorem appR_some {q : Nat ⊕ Nat} {π : List Nat} : appR q π a (some (o, d, l)) s = bif !small l then .bad else bif decide (o = .al) && decide (a.o = .al) then .ok ⟨.al, .non⟩ (put s q (some ⟨.al, putD d π (.lst (l ++ [a.d]))⟩)) true
    else bif decide (π = []) && decide (a.o ≠ .bo) then .ok ⟨.al, .non⟩ (put s q (some ⟨.sp, .lst (l ++ [a.d])⟩)) true else .bad := (rfl)
theorem small_of (h : l.length < 8000000) : small l = true := by
  unfold small
  exact decide_eq_true h
def setIxR3 (q : Nat ⊕ Nat) (π : List Nat) (a : Val) (x : Option (Own × MM.D × List MM.D)) (i : Option Int) (s : MSt) : Res Fl := match x, i with
  | some (o, d, l), some i => (match ixN l.length i with
      | some j => bif decide (o = .al) && decide (a.o = .al) then .ok .nx (put s q (some ⟨.al, putD d π (.lst (l.set j a.d))⟩)) true
        else bif decide (π = []) && decide (a.o ≠ .bo) then .ok .nx (put s q (some ⟨.sp, .lst (l.set j a.d)⟩)) true else .bad
      | none => .bad)
  | _, _ => .bad
def setIxR2 (a : Val) (q : Nat ⊕ Nat) (π : List Nat) (r : Res Val) : Res Fl := match r with
  | .ok i s3 false => bif decide (a.o = .bo) then .bad else setIxR3 q π a (nodeL s3 q π) i.d.int? s3
  | _ => .bad
def setIxR1 (a : Val) (x : Option ((Nat ⊕ Nat) × List Nat × MSt)) (g : Mac) : Res Fl := match x with
  | some (q, π, s2) => setIxR2 a q π (g s2)
  | none => .bad
def setIxR (r : Res Val) (p : Plc) (g : Mac) : Res Fl := match r with
  | .ok a s1 _ => setIxR1 a (p s1) g
  | .err c ns l s' => .err c ns l s'
  | .bad => .bad
@[simp] theorem mSetIx_s {p : Plc} : mSetIx f p g s = setIxR (f s) p g := by
  unfold mSetIx setIxR
  cases f s with
  | err _ _ _ _ => rfl
  | bad => rfl
  | ok a s1 e =>
    dsimp only
    unfold setIxR1
    cases p s1 with
    | none => rfl
    | some x =>
      obtain ⟨q, π, s2⟩ := x
      dsimp only
      unfold setIxR2
      cases g s2 with
      | err _ _ _ _ => rfl
      | bad => rfl
      | ok i s3 e3 =>
        cases e3 with
        | true => rfl
        | false =>
          dsimp only
          cases decide (a.o = .bo) with
          | true => rfl
          | false =>
            dsimp only [cond_false]
            unfold uSet setIxR3
            cases nodeL s3 q π with
            | none => rfl
            | some z =>
              obtain ⟨o, d, l⟩ := z
              dsimp only
              cases i.d.int? with
              | none => rfl
              | some i =>
                dsimp only
                cases ixN l.length i with
                | none => rfl
                | some j =>
                  dsimp only
                  cases (decide (o = .al) && decide (a.o = .al)) with
                  | true => rfl
                  | false =>
                    dsimp only [cond_false]
                    cases (decide (π = []) && decide (a.o ≠ .bo)) <;> rfl
@[simp] theorem setIxR_ok {p : Plc} : setIxR (.ok a s e) p g = setIxR1 a (p s) g := (rfl)
@[simp] theorem setIxR_err {p : Plc} : setIxR (.err c ns l s) p g = .err c ns l s := (rfl)
@[simp] theorem setIxR_bad {p : Plc} : setIxR .bad p g = .bad := (rfl)
@[simp] theorem setIxR1_some {q : Nat ⊕ Nat} {π : List Nat} : setIxR1 a (some (q, π, s)) g = setIxR2 a q π (g s) := (rfl)
@[simp] theorem setIxR2_ok {q : Nat ⊕ Nat} {π : List Nat} : setIxR2 a q π (.ok b s false) = bif decide (a.o = .bo) then .bad else setIxR3 q π a (nodeL s q π) b.d.int? s := (rfl)
def setIxR4 (q : Nat ⊕ Nat) (π : List Nat) (a : Val) (o : Own) (d : MM.D) (l : List MM.D) (x : Option Nat) (s : MSt) : Res Fl := match x with
      | some j => bif decide (o = .al) && decide (a.o = .al) then .ok .nx (put s q (some ⟨.al, putD d π (.lst (l.set j a.d))⟩)) true
        else bif decide (π = []) && decide (a.o ≠ .bo) then .ok .nx (put s q (some ⟨.sp, .lst (l.set j a.d)⟩)) true else .bad
      | none => .bad
@[simp] theorem setIxR3_some {q : Nat ⊕ Nat} {π : List Nat} : setIxR3 q π a (some (o, d, l)) (some i) s = setIxR4 q π a o d l (ixN l.length i) s := (rfl)
@[simp] theorem setIxR4_some {q : Nat ⊕ Nat} {π : List Nat} : setIxR4 q π a o d l (some n) s = bif decide (o = .al) && decide (a.o = .al) then .ok .nx (put s q (some ⟨.al, putD d π (.lst (l.set n a.d))⟩)) true
        else bif decide (π = []) && decide (a.o ≠ .bo) then .ok .nx (put s q (some ⟨.sp, .lst (l.set n a.d)⟩)) true else .bad := (rfl)
/-! loops -/
def forR (r : Res (List MM.D)) (T : Tgt) (wip : List Nat) (F : Mas) : Res Fl := match r with
  | .ok l s1 _ => forS T wip F l (wipes wip s1)
  | .err c ns l s' => .err c ns l s'
  | .bad => .bad
@[simp] theorem mFor_s {it : Itm} {T : Tgt} {wip : List Nat} : mFor it T wip F s = forR (it s) T wip F := (rfl)
@[simp] theorem forR_ok {T : Tgt} {wip : List Nat} : forR (.ok l s e) T wip F = forS T wip F l (wipes wip s) := (rfl)
@[simp] theorem forR_err {T : Tgt} {wip : List Nat} : forR (.err c ns l s) T wip F = .err c ns l s := (rfl)
@[simp] theorem forR_bad {T : Tgt} {wip : List Nat} : forR .bad T wip F = .bad := (rfl)
@[simp] theorem forS_nil {T : Tgt} {wip : List Nat} : forS T wip F [] s = .ok .nx s true := (rfl)
def fsR2 (T : Tgt) (wip : List Nat) (F : Mas) (l : List MM.D) (r : Res Fl) : Res Fl := match r with
      | .ok .nx s2 _ => forS T wip F l (wipes wip s2)
      | .ok .ct s2 _ => forS T wip F l (wipes wip s2)
      | .ok .bk s2 _ => .ok .nx s2 true
      | .ok (.rt a) s2 _ => .ok (.rt a) s2 true
      | .err c ns l s2 => .err c ns l s2
      | .bad => .bad
def fsR (T : Tgt) (wip : List Nat) (F : Mas) (l : List MM.D) (x : Option MSt) : Res Fl := match x with
    | none => .bad
    | some s1 => fsR2 T wip F l (F s1)
theorem forS_cons {T : Tgt} {wip : List Nat} : forS T wip F (d :: l) s = fsR T wip F l (T (itV d) s) := (rfl)
@[simp] theorem fsR_some {T : Tgt} {wip : List Nat} : fsR T wip F l (some s) = fsR2 T wip F l (F s) := (rfl)
@[simp] theorem fsR2_nx {T : Tgt} {wip : List Nat} : fsR2 T wip F l (.ok .nx s e) = forS T wip F l (wipes wip s) := (rfl)
@[simp] theorem fsR2_ct {T : Tgt} {wip : List Nat} : fsR2 T wip F l (.ok .ct s e) = forS T wip F l (wipes wip s) := (rfl)
@[simp] theorem fsR2_bk {T : Tgt} {wip : List Nat} : fsR2 T wip F l (.ok .bk s e) = .ok .nx s true := (rfl)
@[simp] theorem fsR2_rt {T : Tgt} {wip : List Nat} : fsR2 T wip F l (.ok (.rt a) s e) = .ok (.rt a) s true := (rfl)
@[simp] theorem fsR2_err {T : Tgt} {wip : List Nat} : fsR2 T wip F l2 (.err c ns l s) = .err c ns l s := (rfl)
theorem itV_s : itV d = ⟨bif imm d then .al else .sh, d⟩ := (rfl)
def rowR (r : Res Val) : Res (List MM.D) := match r with
  | .ok a s1 e => (match (rowD s1 a).bind D.seq? with
    | some l => .ok l s1 e
    | none => .bad)
  | .err c ns l s' => .err c ns l s'
  | .bad => .bad
def rowR2 (x : Option (List MM.D)) (s : MSt) (e : Bool) : Res (List MM.D) := match x with
    | some l => .ok l s e
    | none => .bad
@[simp] theorem itRow_s : itRow f s = rowR (f s) := (rfl)
@[simp] theorem rowR_ok : rowR (.ok a s e) = rowR2 ((rowD s a).bind D.seq?) s e := (rfl)
@[simp] theorem rowD_lst : rowD s ⟨o, .lst l⟩ = bif decide (o = .bo) then none else some (.lst l) := (rfl)
@[simp] theorem rowD_tup : rowD s ⟨o, .tup l⟩ = bif decide (o = .bo) then none else some (.tup l) := (rfl)
@[simp] theorem rowD_fls : rowD s ⟨o, .fls l⟩ = bif decide (o = .bo) then none else some (.fls l) := (rfl)
def rowDR (x : Option Ent) : Option MM.D := match x with
    | some (some ⟨.sh, d⟩) => some d
    | _ => none
@[simp] theorem rowD_ref : rowD s ⟨o, .ref n⟩ = rowDR s.cells[n]? := by
  unfold rowD rowDR
  rfl
@[simp] theorem rowDR_sh : rowDR (some (some ⟨.sh, d⟩)) = some d := (rfl)
@[simp] theorem rowR_err : rowR (.err c ns l s) = .err c ns l s := (rfl)
@[simp] theorem rowR_bad : rowR .bad = .bad := (rfl)
@[simp] theorem rowR2_some : rowR2 (some l) s e = .ok l s e := (rfl)
@[simp] theorem rowOf_s : rowOf a = bif decide (a.o = .bo) then none else a.d.seq? := (rfl)
noncomputable def rngR1 (r : Res (List Val)) : Res (List MM.D) := match r with
  | .ok [a] s1 e => (match a.d.int? with
    | some j => bif fits j then .ok (rngD 0 j.toNat) s1 e else .bad
    | none => .bad)
  | .err c ns l s' => .err c ns l s'
  | _ => .bad
@[simp] theorem itRng1_s : itRng1 fs s = rngR1 (fs s) := (rfl)
@[simp] theorem rngR1_ok : rngR1 (.ok [⟨o, .int i⟩] s e) = bif fits i then .ok (rngD 0 i.toNat) s e else .bad := (rfl)
noncomputable def rngR2 (r : Res (List Val)) : Res (List MM.D) := match r with
  | .ok [a, b] s1 e => (match a.d.int?, b.d.int? with
    | some i, some j => bif fits i && fits j then .ok (rngD i (j - i).toNat) s1 e else .bad
    | _, _ => .bad)
  | .err c ns l s' => .err c ns l s'
  | _ => .bad
@[simp] theorem itRng2_s : itRng2 fs s = rngR2 (fs s) := (rfl)
@[simp] theorem rngR2_ok : rngR2 (.ok [⟨o1, .int i⟩, ⟨o2, .int j⟩] s e) = bif fits i && fits j then .ok (rngD i (j - i).toNat) s e else .bad := (rfl)
theorem fits_of (h1 : -(2 ^ 62) ≤ i) (h2 : i < 2 ^ 62) : fits i = true := by
  unfold fits
  exact decide_eq_true ⟨h1, h2⟩
def zipR (r : Res (List Val)) : Res (List MM.D) := match r with
  | .ok [a, b] s1 e => (match rowOf a, rowOf b with
    | some l, some r => .ok (zipD l r) s1 e
    | _, _ => .bad)
  | .err c ns l s' => .err c ns l s'
  | _ => .bad
def zipR2 (x y : Option (List MM.D)) (s : MSt) (e : Bool) : Res (List MM.D) := match x, y with
    | some l, some r => .ok (zipD l r) s e
    | _, _ => .bad
@[simp] theorem itZip_s : itZip fs s = zipR (fs s) := (rfl)
@[simp] theorem zipR_ok : zipR (.ok [a, b] s e) = zipR2 (rowOf a) (rowOf b) s e := (rfl)
@[simp] theorem zipR2_some : zipR2 (some l) (some l2) s e = .ok (zipD l l2) s e := (rfl)
def cmpR (T : Tgt) (t : Mab) (f : Mac) (vs : List Nat) (r : Res (List MM.D)) : Res Val := match r with
  | .ok l s1 _ => bif decide (l.length ≤ 10000000) then finC (compS T t f vs l [] (wipes vs s1)) else .bad
  | .err c ns l s' => .err c ns l s'
  | .bad => .bad
@[simp] theorem mComp_s {it : Itm} {T : Tgt} {vs : List Nat} : mComp it T t f vs s = cmpR T t f vs (it s) := (rfl)
@[simp] theorem cmpR_ok {T : Tgt} {vs : List Nat} : cmpR T t f vs (.ok l s e) = bif decide (l.length ≤ 10000000) then finC (compS T t f vs l [] (wipes vs s)) else .bad := (rfl)
@[simp] theorem cmpR_err {T : Tgt} {vs : List Nat} : cmpR T t f vs (.err c ns l s) = .err c ns l s := (rfl)
@[simp] theorem cmpR_bad {T : Tgt} {vs : List Nat} : cmpR T t f vs .bad = .bad := (rfl)
@[simp] theorem finC_ok : finC (.ok as s e) = .ok ⟨bif allAl as then .al else .sp, .lst (dsOf as)⟩ s e := (rfl)
@[simp] theorem finC_bad : finC .bad = .bad := (rfl)
@[simp] theorem mYes_s : mYes s = .ok true s false := (rfl)
@[simp] theorem compS_nil {T : Tgt} {vs : List Nat} : compS T t f vs [] as s = .ok as s true := (rfl)
def csR3 (T : Tgt) (t : Mab) (f : Mac) (vs : List Nat) (l : List MM.D) (acc : List Val) (r : Res Val) : Res (List Val) := match r with
        | .ok y s3 _ => bif decide (y.o = .bo) then .bad else compS T t f vs l (acc ++ [y]) (wipes vs s3)
        | _ => .bad
def csR2 (T : Tgt) (t : Mab) (f : Mac) (vs : List Nat) (l : List MM.D) (acc : List Val) (r : Res Bool) : Res (List Val) := match r with
      | .ok true s2 _ => csR3 T t f vs l acc (f s2)
      | .ok false s2 _ => compS T t f vs l acc (wipes vs s2)
      | _ => .bad
def csR (T : Tgt) (t : Mab) (f : Mac) (vs : List Nat) (l : List MM.D) (acc : List Val) (x : Option MSt) : Res (List Val) := match x with
    | none => .bad
    | some s1 => csR2 T t f vs l acc (t s1)
theorem compS_cons {T : Tgt} {vs : List Nat} : compS T t f vs (d :: l) as s = csR T t f vs l as (T (itV d) s) := (rfl)
@[simp] theorem csR_some {T : Tgt} {vs : List Nat} : csR T t f vs l as (some s) = csR2 T t f vs l as (t s) := (rfl)
@[simp] theorem csR2_t {T : Tgt} {vs : List Nat} : csR2 T t f vs l as (.ok true s e) = csR3 T t f vs l as (f s) := (rfl)
@[simp] theorem csR2_f {T : Tgt} {vs : List Nat} : csR2 T t f vs l as (.ok false s e) = compS T t f vs l as (wipes vs s) := (rfl)
@[simp] theorem csR3_ok {T : Tgt} {vs : List Nat} : csR3 T t f vs l as (.ok a s e) = bif decide (a.o = .bo) then .bad else compS T t f vs l (as ++ [a]) (wipes vs s) := (rfl)
/-! calls, defs -/
def fnR (r : Res Fl) : Res Val := match r with
  | .ok (.rt a) s _ => bif decide (a.o = .bo) then .bad else .ok a ⟨[], s.cells⟩ true
  | .ok .nx s _ => .ok ⟨.al, .non⟩ ⟨[], s.cells⟩ true
  | .err c ns l s => .err c ns l ⟨[], s.cells⟩
  | _ => .bad
theorem fnOf_s {z : Nat} {ds : List MM.D} {cs : List Ent} : fnOf z F ds cs = fnR (F ⟨ds.map (fun d => some ⟨.sh, d⟩) ++ List.replicate z none, cs⟩) := by
  unfold fnOf fnR
  cases F ⟨ds.map (fun d => some ⟨.sh, d⟩) ++ List.replicate z none, cs⟩ with
  | ok fl s e => cases fl <;> rfl
  | err _ _ _ _ => rfl
  | bad => rfl
@[simp] theorem fnR_rt : fnR (.ok (.rt a) s e) = bif decide (a.o = .bo) then .bad else .ok a ⟨[], s.cells⟩ true := (rfl)
@[simp] theorem fnR_nx : fnR (.ok .nx s e) = .ok ⟨.al, .non⟩ ⟨[], s.cells⟩ true := (rfl)
@[simp] theorem fnR_err : fnR (.err c ns l s) = .err c ns l ⟨[], s.cells⟩ := (rfl)
@[simp] theorem fnR_bad : fnR .bad = .bad := (rfl)
def ceR2 (s1 : MSt) (r : Res Val) : Res Val := match r with
    | .ok a s2 _ => .ok a ⟨s1.env, s2.cells⟩ true
    | .err c ns l s2 => .err c ns l ⟨s1.env, s2.cells⟩
    | .bad => .bad
def ceR (F : Fn) (r : Res (List Val)) : Res Val := match r with
  | .ok as s1 _ => bif anyBo as then .bad else ceR2 s1 (F (dsOf as) s1.cells)
  | .err c ns l s' => .err c ns l s'
  | .bad => .bad
@[simp] theorem callE_s {F : Fn} : callM .e F fs s = ceR F (fs s) := by
  show callE F fs s = _
  unfold callE ceR
  cases fs s with
  | err _ _ _ _ => rfl
  | bad => rfl
  | ok as s1 e =>
    dsimp only
    cases anyBo as with
    | true => rfl
    | false =>
      dsimp only [cond_false]
      cases F (dsOf as) s1.cells <;> rfl
@[simp] theorem ceR_ok {F : Fn} : ceR F (.ok as s e) = bif anyBo as then .bad else ceR2 s (F (dsOf as) s.cells) := (rfl)
@[simp] theorem ceR_err {F : Fn} : ceR F (.err c ns l s) = .err c ns l s := (rfl)
@[simp] theorem ceR_bad {F : Fn} : ceR F .bad = .bad := (rfl)
@[simp] theorem ceR2_ok : ceR2 s1 (.ok a s e) = .ok a ⟨s1.env, s.cells⟩ true := (rfl)
@[simp] theorem ceR2_err : ceR2 s1 (.err c ns l s) = .err c ns l ⟨s1.env, s.cells⟩ := (rfl)
@[simp] theorem ceR2_bad : ceR2 s1 .bad = .bad := (rfl)
def cpR2 (s1 : MSt) (e : Bool) (r : Res Val) : Res Val := match r with
    | .ok a s2 _ => bif decide (s2.cells.length = s1.cells.length) then .ok a s1 e else .bad
    | .err c ns l s2 => bif decide (s2.cells.length = s1.cells.length) then .err c ns l s1 else .bad
    | .bad => .bad
def cpR (F : Fn) (r : Res (List Val)) : Res Val := match r with
  | .ok as s1 e => bif anyBo as then .bad else cpR2 s1 e (F (dsOf as) (s1.cells.map fun _ => none))
  | .err c ns l s' => .err c ns l s'
  | .bad => .bad
@[simp] theorem callP_s {F : Fn} : callM .p F fs s = cpR F (fs s) := by
  show callP F fs s = _
  unfold callP cpR
  cases fs s with
  | err _ _ _ _ => rfl
  | bad => rfl
  | ok as s1 e =>
    dsimp only
    cases anyBo as with
    | true => rfl
    | false =>
      dsimp only [cond_false]
      cases F (dsOf as) (s1.cells.map fun _ => none) <;> rfl
@[simp] theorem cpR_ok {F : Fn} : cpR F (.ok as s e) = bif anyBo as then .bad else cpR2 s e (F (dsOf as) (s.cells.map fun _ => none)) := (rfl)
@[simp] theorem cpR_err {F : Fn} : cpR F (.err c ns l s) = .err c ns l s := (rfl)
@[simp] theorem cpR_bad {F : Fn} : cpR F .bad = .bad := (rfl)
@[simp] theorem cpR2_ok : cpR2 s1 e1' (.ok a s e) = bif decide (s.cells.length = s1.cells.length) then .ok a s1 e1' else .bad := (rfl)
@[simp] theorem cpR2_err : cpR2 s1 e1' (.err c ns l s) = bif decide (s.cells.length = s1.cells.length) then .err c ns l s1 else .bad := (rfl)
@[simp] theorem cpR2_bad : cpR2 s1 e1' .bad = .bad := (rfl)
def cvR2 (s1 : MSt) (e : Bool) (r : Res Val) : Res Val := match r with
    | .ok a s2 _ => bif decide (s2.cells.length = s1.cells.length) && (decide (a.o = .al) || imm a.d) then .ok ⟨.al, a.d⟩ s1 e else .bad
    | _ => .bad
def cvR (F : Fn) (r : Res (List Val)) : Res Val := match r with
  | .ok as s1 e => cvR2 s1 e (F (dsOf as) (s1.cells.map shC))
  | .err c ns l s' => .err c ns l s'
  | .bad => .bad
@[simp] theorem callV_s {F : Fn} : callM .v F fs s = cvR F (fs s) := by
  show callV F fs s = _
  unfold callV cvR cvR2
  cases fs s with
  | err _ _ _ _ => rfl
  | bad => rfl
  | ok as s1 e =>
    dsimp only
    all_goals cases F (dsOf as) (s1.cells.map shC) <;> rfl
@[simp] theorem cvR_ok {F : Fn} : cvR F (.ok as s e) = cvR2 s e (F (dsOf as) (s.cells.map shC)) := (rfl)
@[simp] theorem cvR_err {F : Fn} : cvR F (.err c ns l s) = .err c ns l s := (rfl)
@[simp] theorem cvR_bad {F : Fn} : cvR F .bad = .bad := (rfl)
@[simp] theorem cvR2_ok : cvR2 s1 e1' (.ok a s e) = bif decide (s.cells.length = s1.cells.length) && (decide (a.o = .al) || imm a.d) then .ok ⟨.al, a.d⟩ s1 e1' else .bad := (rfl)
@[simp] theorem shC_some : shC (some a) = some ⟨.sh, a.d⟩ := (rfl)
@[simp] theorem shC_none : shC none = none := (rfl)
@[simp] theorem permF_s {is : List Nat} {F : Fn} {ds : List MM.D} {cs : List Ent} : permF is F ds cs = F (byIx is ds) cs := (rfl)
end
end MM

/-! Reckoning with machines: owners of data that are not told, loops over rows. -/
namespace MM
open L2 GB PySem
section
variable {s s0 s1 s2 : MSt} {e : Bool} {a b : Val} {as acc : List Val} {l l2 : List MM.D} {d x y : MM.D} {o : Own} {T : Tgt} {t : Mab} {f : Mac} {F : Mas} {vs wip : List Nat}
@[simp] theorem rdO_imm (h : imm d = true) : rdO ⟨o, d⟩ = .al := by rw [rdO_mk, h]; rfl
@[simp] theorem rdO_sh : rdO ⟨.sh, d⟩ = (itV d).o := (rfl)
@[simp] theorem rdO_al_lst : rdO ⟨.al, .lst l⟩ = .bo := (rfl)
@[simp] theorem rdO_sp_lst : rdO ⟨.sp, .lst l⟩ = .bo := (rfl)
@[simp] theorem rdO_al_dct {ks : List Key} : rdO ⟨.al, .dct ks l⟩ = .bo := (rfl)
@[simp] theorem rdO_sp_dct {ks : List Key} : rdO ⟨.sp, .dct ks l⟩ = .bo := (rfl)
@[simp] theorem itV_imm (h : imm d = true) : (itV d).o = .al := by rw [itV_s, h]; rfl
@[simp] theorem itV_lst : (itV (.lst l)).o = .sh := (rfl)
@[simp] theorem itV_dct {ks : List Key} : (itV (.dct ks l)).o = .sh := (rfl)
@[simp] theorem itV_d : (itV d).d = d := (rfl)
@[simp] theorem itV_nb : ((itV d).o = .bo) = False := by
  rw [itV_s]
  cases imm d <;> simp
@[simp] theorem inO_imm2 (h : imm d = true) : inO a d = .al := inO_imm h
@[simp] theorem inO_nb (h : nb a = true) : inO a d = (itV d).o := by rw [inO_s, h]; rfl
@[simp] theorem inO_bo (h : nb a = false) (h2 : imm d = false) : inO a d = .bo := by rw [inO_s, h, h2]; rfl
@[simp] theorem tgName_it {i : Nat} : tgName true i (itV d) s = bif decide (s.env.length ≤ i) then none else some (put s (.inl i) (some ⟨.sh, d⟩)) := by
  rw [tgName_s]
  simp
theorem part_it (h : x ∈ l) : partV ⟨(itV (.tup l)).o, .tup l⟩ x = itV x := by
  rw [partV_s, itV_s, itV_s]
  show (⟨bif decide ((bif immL l then Own.al else .sh) = .al) || imm x then .al else (bif immL l then .al else .sh), x⟩ : Val) = ⟨bif imm x then .al else .sh, x⟩
  cases q : immL l with
  | true =>
    have : imm x = true := by
      obtain ⟨i, hi⟩ := List.getElem?_of_mem h
      exact immL_at q hi
    rw [this]
    rfl
  | false => cases imm x <;> rfl
@[simp] theorem tgTup_it2 {Ts : List Val → MSt → Option MSt} : tgTup Ts (itV (.tup [x, y])) s = Ts [itV x, itV y] s := by
  show Ts ([x, y].map (partV (itV (.tup [x, y])))) s = _
  have h1 := part_it (l := [x, y]) (x := x) (by simp)
  have h2 := part_it (l := [x, y]) (x := y) (by simp)
  show Ts [partV ⟨(itV (.tup [x, y])).o, .tup [x, y]⟩ x, partV ⟨(itV (.tup [x, y])).o, .tup [x, y]⟩ y] s = _
  rw [h1, h2]
@[simp] theorem itV_e (h : imm d = true) : itV d = ⟨.al, d⟩ := by rw [itV_s, h]; rfl
@[simp] theorem itV_el : itV (.lst l) = ⟨.sh, .lst l⟩ := (rfl)
@[simp] theorem itV_ed {ks : List Key} : itV (.dct ks l) = ⟨.sh, .dct ks l⟩ := (rfl)
/-- a comprehension whose turns leave no trace -/
theorem comp_ev {g : MM.D → Val} (h : ∀ d ∈ l, csR T t f vs [] [] (T (itV d) s0) = .ok [g d] s0 true) (h2 : ∀ d ∈ l, ∀ l acc, csR T t f vs l acc (T (itV d) s0) = compS T t f vs l (acc ++ [g d]) s0) : compS T t f vs l acc s0 = .ok (acc ++ l.map g) s0 true := by
  clear h
  induction l generalizing acc with
  | nil => simp
  | cons d l ih =>
    rw [compS_cons, h2 d (by simp), ih fun d z => h2 d (by simp [z])]
    simp
theorem comp_map {g : MM.D → Val} (h : ∀ d ∈ l, ∀ l acc, csR T t f vs l acc (T (itV d) s0) = compS T t f vs l (acc ++ [g d]) s0) : compS T t f vs l acc s0 = .ok (acc ++ l.map g) s0 true := by
  induction l generalizing acc with
  | nil => simp
  | cons d l ih =>
    rw [compS_cons, h d (by simp), ih fun d z => h d (by simp [z])]
    simp
/-- a loop by its states -/
theorem for_ev {g : Nat → MSt} (h0 : s0 = g 0) (h : ∀ i (lt : i < l.length) (r : List MM.D), fsR T wip F r (T (itV l[i]) (g i)) = forS T wip F r (g (i + 1))) : forS T wip F l s0 = .ok .nx (g l.length) true := by
  subst h0
  have z : ∀ n i, i + n = l.length → forS T wip F (l.drop i) (g i) = .ok .nx (g l.length) true := by
    intro n
    induction n with
    | zero =>
      intro i e
      rw [List.drop_eq_nil_of_le (by omega), forS_nil]
      have : i = l.length := by omega
      rw [this]
    | succ n ih =>
      intro i e
      rw [List.drop_eq_getElem_cons (show i < l.length by omega), forS_cons, h i (by omega)]
      exact ih (i + 1) (by omega)
  exact z l.length 0 (by omega)
theorem rngD_len {lo : Int} {n : Nat} : (rngD lo n).length = n := by unfold rngD; simp
theorem rngD_get {lo : Int} {n i : Nat} (h : i < (rngD lo n).length) : (rngD lo n)[i] = .int (lo + i) := by
  have z : (rngD lo n)[i]? = some (.int (lo + i)) := by
    unfold rngD at h ⊢
    rw [List.length_map, List.length_range] at h
    rw [List.getElem?_map, List.getElem?_range h]
    rfl
  rw [List.getElem?_eq_getElem h] at z
  exact Option.some.inj z
/-- .. over numbers -/
theorem for_rng {lo : Int} {n : Nat} {g : Nat → MSt} (h0 : s0 = g 0) (h : ∀ i, i < n → ∀ r : List MM.D, fsR T wip F r (T (itV (.int (lo + i))) (g i)) = forS T wip F r (g (i + 1))) : forS T wip F (rngD lo n) s0 = .ok .nx (g n) true := by
  have z := for_ev (l := rngD lo n) (T := T) (wip := wip) (F := F) (g := g) h0 fun i lt r => by
    rw [rngD_get lt]
    exact h i (by rw [rngD_len] at lt; exact lt) r
  rw [rngD_len] at z
  exact z
theorem comp_rng {lo : Int} {n : Nat} {g : Nat → Val} (h : ∀ i, i < n → ∀ l acc, csR T t f vs l acc (T (itV (.int (lo + i))) s0) = compS T t f vs l (acc ++ [g i]) s0) : compS T t f vs (rngD lo n) acc s0 = .ok (acc ++ (List.range n).map g) s0 true := by
  have z : ∀ k, k ≤ n → compS T t f vs ((rngD lo n).drop (n - k)) (acc ++ (List.range (n - k)).map g) s0 = .ok (acc ++ (List.range n).map g) s0 true := by
    intro k
    induction k with
    | zero =>
      intro _
      rw [List.drop_eq_nil_of_le (by rw [rngD_len]; omega), compS_nil]
      rfl
    | succ k ih =>
      intro hk
      have lt : n - (k + 1) < (rngD lo n).length := by rw [rngD_len]; omega
      rw [List.drop_eq_getElem_cons lt, compS_cons, rngD_get lt, h _ (by omega)]
      have e : n - (k + 1) + 1 = n - k := by omega
      rw [e]
      have e2 : acc ++ (List.range (n - (k + 1))).map g ++ [g (n - (k + 1))] = acc ++ (List.range (n - k)).map g := by
        rw [← e, List.range_succ, List.map_append, List.append_assoc]
        rfl
      rw [e2]
      exact ih (by omega)
  have y := z n (Nat.le_refl n)
  rw [Nat.sub_self] at y
  simpa using y
theorem allAl_map {α : Type} {q : α → Val} {l : List α} (h : ∀ z ∈ l, (q z).o = .al) : allAl (l.map q) = true := by
  unfold allAl
  rw [List.all_map]
  exact List.all_eq_true.mpr fun z hz => decide_eq_true (h z hz)
theorem dsOf_map {α : Type} {q : α → Val} {l : List α} : dsOf (l.map q) = l.map fun z => (q z).d := by
  unfold dsOf
  rw [List.map_map]
  rfl
@[simp] theorem intsOf_m {il : List Int} : intsOf (il.map .int) = some il := intsOf_map il
@[simp] theorem blsOf_m {α : Type} {q : α → Bool} {l : List α} : blsOf (l.map fun z => .bl (q z)) = some (l.map q) := by
  have := blsOf_map (l.map q)
  rw [List.map_map] at this
  exact this
@[simp] theorem intsOf_m2 {α : Type} {q : α → Int} {l : List α} : intsOf (l.map fun z => .int (q z)) = some (l.map q) := by
  have := intsOf_map (l.map q)
  rw [List.map_map] at this
  exact this
def ixoR (x : Option MM.D) (s : MSt) : Res Val := match x with
  | some d => .ok ⟨.al, d⟩ s false
  | none => .bad
@[simp] theorem ixoR_some : ixoR (some d) s = .ok ⟨.al, d⟩ s false := (rfl)
@[simp] theorem opIxO_s {i : Int} : opIxO [⟨.al, .lst l⟩, ⟨o, .int i⟩] s = ixoR (atI l i) s := by
  unfold opIxO ixoR
  dsimp only [int?_int]
  all_goals cases atI l i <;> rfl
def newO (x : Option Own) (l : List MM.D) (s : MSt) : Res Val := match x with
  | some o => .ok ⟨o, .lst l⟩ s false
  | none => .bad
@[simp] theorem newO_some : newO (some o) l s = .ok ⟨o, .lst l⟩ s false := (rfl)
theorem opRep_s {n : Int} {o2 : Own} : opRep [⟨o, .lst l⟩, ⟨o2, .int n⟩] s = bif decide (-(2 ^ 63) ≤ n) && decide (n < 2 ^ 63) && decide (l.length * n.toNat ≤ 16000000) then newO (rowO ⟨o, .lst l⟩ (List.replicate n.toNat l).flatten) (List.replicate n.toNat l).flatten s else .bad := by
  unfold opRep newO
  rfl
@[simp] theorem opList_s : opList [a] s = (match (der s a.d).bind D.seq? with | some l => newO (rowO a l) l s | none => .bad) := by
  unfold opList newO
  rfl
theorem rowO_imm (h : immL l = true) : rowO a l = some .al := by
  unfold rowO
  rw [h]
  rfl
theorem rowO_nb (h : immL l = false) (n : nb a = true) : rowO a l = some .sp := by
  unfold rowO
  rw [h, n]
  rfl
end
end MM

/-! What all laws share: draws, the comparison, values that grow. -/
namespace MM
open L2 GB PySem
noncomputable def takeM (p q : Int) : Fn := fnOf 2
    ((mSeq (mIf (tAndM (tTru (e2 (eVar 0) (eC (.int 1)) opIx)) (tBl (e2 (e2 (eVar 0) (eC (.int 0)) opIx) (eC (.int 0)) (opII (gB fun i j => decide (j < i))))))
      (mSeq (mSet true 2 (e2 (eN (aCons (e2 (eVar 0) (eC (.int 0)) opIx) aNil) opInt) (eVar 1) (opII (gIc (fun _ j => j ≠ 0) Int.fmod))))
      (mSeq (mSetIx (e2 (eN (aCons (e2 (eVar 0) (eC (.int 0)) opIx) aNil) opInt) (eVar 1) (opII (gIc CDivN Int.fdiv))) (plVar 0) (eC (.int 0)))
      (mRet (eVar 2))))
      mNext)
      (mSeq (mSetIx (e2 (e2 (eVar 0) (eC (.int 3)) opIx) (eC (.int 1)) (opII (gI (· + ·)))) (plVar 0) (eC (.int 3)))
      (mSeq (mSet true 3 (e2 (eN (aCons (e2 (e2 (e2 (e2 (eVar 0) (eC (.int 2)) opIx) (e2 (eC (.int p)) (e2 (eVar 0) (eC (.int 3)) opIx) (opII (gIc CMulW (· * ·)))) (opII (gI (· + ·)))) (eC (.int q)) (opII (gI (· + ·)))) (eC (.int 5)) (opII (gIc CPow fun i j => i ^ j.toNat))) aNil) opInt) (eC (.int 2147483647)) (opII (gIc (fun _ j => j ≠ 0) Int.fmod))))
      (mRet (e2 (eN (aCons (e2 (e2 (eN (aCons (e2 (e2 (e2 (eVar 3) (eC (.int 48271)) (opII (gIc CMulW (· * ·)))) (e2 (eC (.int 104933)) (e2 (eVar 0) (eC (.int 3)) opIx) (opII (gIc CMulW (· * ·)))) (opII (gI (· + ·)))) (eC (.int 3)) (opII (gIc CPow fun i j => i ^ j.toNat))) aNil) opInt) (eC (.int 2147483587)) (opII (gIc (fun _ j => j ≠ 0) Int.fmod))) (eC (.int 64)) (opII (gIc CDivN Int.fdiv))) aNil) opInt) (eVar 1) (opII (gIc (fun _ j => j ≠ 0) Int.fmod))))))))
noncomputable def cellM (p : Int) : Fn := fnOf 0
    ((mRet (eIf (tBl (e2 (eVar 1) (eN (aCons (eVar 0) aNil) opLen) (opII (gB fun i j => decide (i < j))))) (e2 (eVar 0) (eVar 1) opIx) (e2 (e2 (eC (.int p)) (eVar 1) (opII (gIc CMulW (· * ·)))) (e2 (eN (aCons (eN (aCons (eSl (eVar 0) pNo (pSo (eC (.int 1)))) aNil) (opInts fun l => some (.int l.sum))) aNil) opInt) (eC (.int 1000003)) (opII (gIc (fun _ j => j ≠ 0) Int.fmod))) (opII (gI (· + ·)))))))
noncomputable def boxM : Fn := fnOf 0
    ((mRet (eN (aCons (eN (aCons (eVar 0) aNil) opAbs) (aCons (e2 (eN (aCons (eVar 0) aNil) opAbs) (e2 (eC (.int 10)) (eC (.int 18)) (opII (gIc CPow fun i j => i ^ j.toNat))) (opII (gB fun i j => decide (j ≤ i)))) (aCons (e2 (eN (aCons (eN (aCons (eVar 0) aNil) opAbs) aNil) opInt) (eC (.int 2147483629)) (opII (gIc (fun _ j => j ≠ 0) Int.fmod))) (aCons (eC (.int 0)) aNil)))) opLst)))
noncomputable def sameM : Nat → Fn
  | 0 => fStop
  | n + 1 => fnOf 2
    ((mSeq (mIf (tBl (e2 (eVar 1) (eC .non) (opIsN false)))
      (mRet (e2 (eVar 0) (eC .non) (opIsN false)))
      mNext)
      (mSeq (mIf (tTru (e1 (eVar 1) (opIsi .bool)))
      (mRet (eAnd (e1 (eVar 0) (opIsi .bool)) (e2 (e2 (eVar 0) (eC (.bl true)) (opIsB false)) (e2 (eVar 1) (eC (.bl true)) (opIsB false)) opEqS)))
      mNext)
      (mSeq (mIf (tTru (e1 (eVar 1) (opIsi .int)))
      (mRet (eAnd (e1 (eVar 0) (opIsi .int)) (eAnd (eNot (e1 (eVar 0) (opIsi .bool))) (e2 (e2 (eN (aCons (eVar 0) aNil) opInt) (eVar 1) (opII (gI (· - ·)))) (eC (.int 0)) opEqS))))
      mNext)
      (mSeq (mIf (tTru (e1 (eVar 1) (opIsi .str)))
      (mRet (eAnd (e1 (eVar 0) (opIsi .str)) (eAnd (e2 (eN (aCons (eVar 0) aNil) opLen) (eN (aCons (eVar 1) aNil) opLen) opEqS) (e2 (mComp (itRng1 (aCons (eN (aCons (eVar 1) aNil) opLen) aNil)) (tgName true 2) (tBl (e2 (eSl (eVar 0) (pSo (eVar 2)) (pSo (e2 (eVar 2) (eC (.int 1)) (opII (gI (· + ·)))))) (e2 (eVar 1) (eVar 2) opIxA) opNeS)) (eVar 2) [2]) (eN aNil opLst) (opEqD false)))))
      mNext)
      (mSeq (mIf (tTru (e1 (eVar 1) (opIsi .dict)))
      (mRet (eAnd (e1 (eVar 0) (opIsi .dict)) (eAnd (e2 (eN (aCons (eVar 0) aNil) opLen) (eN (aCons (eVar 1) aNil) opLen) opEqS) (e2 (mComp (itKeys 1) (tgName true 3) (tOrM (tBl (e2 (eVar 3) (eVar 0) (opDIn true))) (tNotM (tTru (callM .v (sameM n) (aCons (e2 (eVar 0) (eVar 3) opIxA) (aCons (e2 (eVar 1) (eVar 3) opIxA) aNil)))))) (eVar 3) [3]) (eN aNil opLst) (opEqD false)))))
      mNext)
      (mSeq (mIf (tOrM (tNotM (tTru (e1 (eVar 1) (opIsiQ .list .tuple)))) (tNotM (tTru (e1 (eVar 0) (opIsiQ .list .tuple)))))
      (mRet (eC (.bl false)))
      mNext)
      (mSeq (mIf (tOrM (tBl (e2 (e1 (eVar 0) (opIsi .list)) (e1 (eVar 1) (opIsi .list)) opNeS)) (tBl (e2 (eN (aCons (eVar 0) aNil) opLen) (eN (aCons (eVar 1) aNil) opLen) opNeS)))
      (mRet (eC (.bl false)))
      mNext)
      (mRet (e2 (mComp (itRng1 (aCons (eN (aCons (eVar 1) aNil) opLen) aNil)) (tgName true 2) (tNotM (tTru (callM .v (sameM n) (aCons (e2 (eVar 0) (eVar 2) opIxA) (aCons (e2 (eVar 1) (eVar 2) opIxA) aNil))))) (eVar 2) [2]) (eN aNil opLst) (opEqD false)))))))))))
noncomputable def grownM : Fn := fnOf 0
    ((mSeq (mIf (tTru (e1 (eVar 0) (opIsi .list)))
      (mExpr (eMut (plVar 0) (aCons (eC (.str "more")) aNil) uApp))
      mNext)
      (mIf (tTru (e1 (eVar 0) (opIsi .dict)))
      (mSetK (eC (.int 1)) (plVar 0) (eC (.str "more")))
      mNext)))
noncomputable def mixedM (p q : Int) : Fn := fnOf 2
    ((mSeq (mPar false false 2 3 (aCons (eN (aCons (eVar 1) aNil) opList) (aCons (eN aNil opLst) aNil)))
      (mSeq (mWhile (tBl (e2 (eVar 2) (eN aNil opLst) (opEqD true))) []
      (mExpr (eMut (plVar 3) (aCons (eMut (plVar 2) (aCons (callM .e (takeM p q) (aCons (eVar 0) (aCons (eN (aCons (eVar 2) aNil) opLen) aNil))) aNil) uPopAt) aNil) uApp)))
      (mRetV 3))))
/-- what is seen of an argument; what is walked -/
def Dr (cs : List Ent) (v d : D) : Prop := ∀ env, der ⟨env, cs⟩ v = some d
def Rw (cs : List Ent) (v d : D) : Prop := ∀ env o, o ≠ .bo → rowD ⟨env, cs⟩ ⟨o, v⟩ = some d
theorem Dr.plain {cs : List Ent} {v : D} (p : plain v = true) : Dr cs v v := fun env => by cases v <;> first | rfl | cases p
theorem Rw.plain {cs : List Ent} {v : D} (p : plain v = true) : Rw cs v v := fun env o h => by
  cases v <;> first | (cases p; done) | (show (bif decide (o = .bo) then none else some _) = _; rw [decide_eq_false h]; rfl)
theorem Dr.sh {cs : List Ent} {v d : D} (h : Dr cs v d) : Dr (cs.map shC) v d := fun env => by
  have z := h env
  cases v <;> first | exact z | skip
  rename_i n
  show derR (cs.map shC)[n]? = _
  have z : derR cs[n]? = some d := z
  rw [List.getElem?_map]
  cases q : cs[n]? with
  | none => rw [q] at z; cases z
  | some x => cases x with
    | none => rw [q] at z; cases z
    | some a => rw [q] at z; exact z
theorem Rw.sh {cs : List Ent} {v d : D} (h : Dr cs v d) : Rw (cs.map shC) v d := fun env o ho => by
  have z := h env
  cases v <;> first | (cases z; show (bif decide (o = .bo) then none else some _) = _; rw [decide_eq_false ho]; rfl) | skip
  rename_i n
  rw [rowD_ref]
  show rowDR (cs.map shC)[n]? = _
  have z : derR cs[n]? = some d := z
  rw [List.getElem?_map]
  cases q : cs[n]? with
  | none => rw [q] at z; cases z
  | some x => cases x with
    | none => rw [q] at z; cases z
    | some a => rw [q] at z; exact z
/-- rows of numbers -/
abbrev iL (l : List Int) : D := .lst (l.map .int)
abbrev tL (l : List (List Int)) : D := .lst (l.map iL)
abbrev uL (l : List (List (List Int))) : D := .lst (l.map tL)
/-- a list or a tuple -/
def cD (b : Bool) (l : List D) : D := bif b then .tup l else .lst l
abbrev cV (b : Bool) (l : List Int) : D := cD b (l.map .int)
section
variable {b : Bool} {l : List D} {s : MSt} {o : Own}
@[simp] theorem der_cD : der s (cD b l) = some (cD b l) := by cases b <;> rfl
@[simp] theorem seq_cD : (cD b l).seq? = some l := by cases b <;> rfl
@[simp] theorem lenD_cD : lenD (cD b l) = some l.length := by cases b <;> rfl
@[simp] theorem nb_cD : nb ⟨o, cD b l⟩ = decide (o ≠ .bo) := by cases b <;> rfl
@[simp] theorem plain_cD : plain (cD b l) = true := by cases b <;> rfl
@[simp] theorem rowD_cD : rowD s ⟨o, cD b l⟩ = bif decide (o = .bo) then none else some (cD b l) := by cases b <;> rfl
end
theorem atI_map {α β : Type} {g : α → β} {l : List α} {i : Int} : atI (l.map g) i = (atI l i).map g := by
  unfold atI
  rw [List.length_map]
  cases ixN l.length i with
  | none => rfl
  | some j => show (l.map g)[j]? = (l[j]?).map g; rw [List.getElem?_map]
theorem cut_mid {l : List D} {f : Nat} (h : f < l.length) : cutD l (some (f : Int)) (some (-1)) = (l.drop f).take (l.length - 1 - f) := by
  unfold cutD
  have e1 : HT.sIx l.length 0 (some (f : Int)) = f := by
    unfold HT.sIx
    simp [show ¬ ((f : Int) < 0) by omega]
    omega
  have e2 : HT.sIx l.length l.length (some (-1)) = l.length - 1 := by
    unfold HT.sIx
    simp
    omega
  rw [e1, e2]
def slR3 (a : Val) (e : Bool) (l : Option Int) (x : Option (Option Int × MSt)) : Res Val := match x with
      | some (h, s3) => (opSl l h a s3).ef e
      | none => .bad
def slR2 (a : Val) (e : Bool) (x : Option (Option Int × MSt)) (hi : Prt) : Res Val := match x with
    | some (l, s2) => slR3 a e l (hi s2)
    | none => .bad
def slR (r : Res Val) (lo hi : Prt) : Res Val := match r with
  | .ok a s1 e1 => slR2 a e1 (lo s1) hi
  | .err c ns l s' => .err c ns l s'
  | .bad => .bad
@[simp] theorem eSl_s {f : Mac} {lo hi : Prt} {s : MSt} : eSl f lo hi s = slR (f s) lo hi := (rfl)
@[simp] theorem slR_ok {a : Val} {s : MSt} {e : Bool} {lo hi : Prt} : slR (.ok a s e) lo hi = slR2 a e (lo s) hi := (rfl)
@[simp] theorem slR2_some {a : Val} {e : Bool} {l : Option Int} {s : MSt} {hi : Prt} : slR2 a e (some (l, s)) hi = slR3 a e l (hi s) := (rfl)
@[simp] theorem slR3_some {a : Val} {e : Bool} {l h : Option Int} {s : MSt} : slR3 a e l (some (h, s)) = (opSl l h a s).ef e := (rfl)
def pSoR (r : Res Val) : Option (Option Int × MSt) := match r with
  | .ok a s1 false => match a.d.int? with
    | some i => some (some i, s1)
    | none => none
  | _ => none
@[simp] theorem pSo_s {f : Mac} {s : MSt} : pSo f s = pSoR (f s) := (rfl)
@[simp] theorem pSoR_i {o : Own} {i : Int} {s : MSt} : pSoR (.ok ⟨o, .int i⟩ s false) = some (some i, s) := (rfl)
@[simp] theorem pNo_s {s : MSt} : pNo s = some (none, s) := (rfl)
theorem opSl_lst {a : Val} {l : List D} {lo hi : Option Int} {s : MSt} {o : Own} (h : rowO ⟨o, .lst l⟩ (cutD l lo hi) = some o) : opSl lo hi ⟨o, .lst l⟩ s = .ok ⟨o, .lst (cutD l lo hi)⟩ s false := by
  unfold opSl
  simp [h]
theorem opSl_i {il : List Int} {lo hi : Option Int} {s : MSt} {o : Own} : opSl lo hi ⟨o, iL il⟩ s = .ok ⟨.al, .lst (cutD (il.map .int) lo hi)⟩ s false := by
  have h : immL (cutD (il.map D.int) lo hi) = true := by
    unfold cutD
    rw [← List.map_drop, ← List.map_take]
    exact immL_int
  unfold opSl rowO
  simp [h]
theorem opSl_cD {il : List Int} {lo hi : Option Int} {s : MSt} {o : Own} {b : Bool} : opSl lo hi ⟨o, cV b il⟩ s = .ok ⟨.al, cD b (cutD (il.map .int) lo hi)⟩ s false := by
  cases b with
  | false => exact opSl_i
  | true =>
    have h : imm (.tup (cutD (il.map D.int) lo hi)) = true := by
      show immL (cutD (il.map D.int) lo hi) = true
      unfold cutD
      rw [← List.map_drop, ← List.map_take]
      exact immL_int
    show (Res.ok ⟨inO ⟨o, .tup (il.map .int)⟩ (.tup (cutD (il.map .int) lo hi)), .tup (cutD (il.map .int) lo hi)⟩ s false : Res Val) = _
    rw [inO_imm2 h]
    rfl
theorem getI {l : List Int} {i : Nat} {x : Int} (h : l[i]? = some x) : (l.map D.int)[i]? = some (.int x) := by rw [List.getElem?_map, h]; rfl
theorem at_of {α : Type} {l : List α} {i : Int} {n : Nat} {d : α} (e : i = n) (h : l[n]? = some d) : atI l i = some d := by
  subst e
  rw [atI_pos (by omega), Int.toNat_natCast]
  exact h
theorem getL {α : Type} {g : α → D} {l : List α} {i : Nat} {x : α} (h : l[i]? = some x) : (l.map g)[i]? = some (g x) := by rw [List.getElem?_map, h]; rfl
def isI : D → Bool
  | .int _ => true
  | _ => false
theorem isI_is (v : D) : (v.isA .int && !(v.isA .bool)) = isI v := by cases v <;> rfl
def btw (lo hi : Int) : D → Bool
  | .int i => decide (lo ≤ i) && decide (i ≤ hi)
  | _ => false
@[simp] theorem chain_int {p1 p2 : Int → Int → Bool} {h : Mac} {i j : Int} {o1 o2 : Own} {s : MSt} : kCh p1 p2 h [⟨o1, .int i⟩, ⟨o2, .int j⟩] s = bif p1 i j then (h s).bind fun c s2 => (match c.d.int? with
        | some z => .ok ⟨.al, .bl (p2 j z)⟩ s2 false
        | none => .bad) else .ok ⟨.al, .bl false⟩ s false := (rfl)
@[simp] theorem eCh_s {p1 p2 : Int → Int → Bool} {f g h : Mac} {s : MSt} : eCh p1 p2 f g h s = (aCons f (aCons g aNil) s).bind (kCh p1 p2 h) := (rfl)
theorem lenD_seq {d : D} {l : List D} (h : d.seq? = some l) : lenD d = some l.length := by cases d <;> first | (cases h; rfl) | cases h
theorem isA_seq {d : D} : (d.isA .list || d.isA .tuple) = d.seq?.isSome := by cases d <;> rfl
def plN : Nat → D → Prop
  | 0, v => plain v = true
  | n + 1, v => plain v = true ∧ ∀ l, v.seq? = some l → ∀ x ∈ l, plN n x
theorem plN.p : ∀ {n : Nat} {v : D}, plN n v → plain v = true
  | 0, _, h => h
  | _ + 1, _, h => h.1
theorem mem_zipD {l r : List D} {d : D} (h : d ∈ zipD l r) : ∃ x y, d = .tup [x, y] ∧ x ∈ l ∧ y ∈ r := by
  unfold zipD at h
  obtain ⟨p, hp, rfl⟩ := List.mem_map.mp h
  exact ⟨p.1, p.2, rfl, (List.of_mem_zip hp).1, (List.of_mem_zip hp).2⟩
theorem zip_len {l r : List D} : (zipD l r).length ≤ l.length := by
  unfold zipD
  rw [List.length_map, List.length_zip]
  exact Nat.min_le_left _ _
section
variable {t : ET} {f : Mas} {hs : List Ch} {s : MSt} {e : Bool} {fl : Fl} {c : Str} {ns : List Str} {l : List D}
def tryRR (t : ET) (hs : List Ch) (r : Res Fl) : Res Fl := match r with
  | .err c ns l s1 => tryR t c ns l s1 hs
  | r => r
@[simp] theorem mTry_s : mTry t f hs s = tryRR t hs (f s) := by
  unfold mTry tryRR
  cases f s <;> rfl
@[simp] theorem tryRR_ok : tryRR t hs (.ok fl s e) = .ok fl s e := (rfl)
@[simp] theorem tryRR_err : tryRR t hs (.err c ns l s) = tryR t c ns l s hs := (rfl)
@[simp] theorem tryRR_bad : tryRR t hs .bad = .bad := (rfl)
def xfR (x : Option Ent) (n : Str) (s : MSt) : Res Val := match x with
  | some (some ⟨_, .exc ns l⟩) => match (ns.zip l).lookup n with
    | some d => .ok (itV d) s false
    | none => .bad
  | _ => .bad
@[simp] theorem eXf_s {i : Nat} {n : Str} : eXf i n s = xfR s.env[i]? n s := (rfl)
def xfR2 (x : Option D) (s : MSt) : Res Val := match x with
    | some d => .ok (itV d) s false
    | none => .bad
@[simp] theorem xfR_some {n : Str} {o : Own} : xfR (some (some ⟨o, .exc ns l⟩)) n s = xfR2 ((ns.zip l).lookup n) s := (rfl)
@[simp] theorem xfR2_some {d : D} : xfR2 (some d) s = .ok (itV d) s false := (rfl)
end
theorem cut_part {l : List Int} {j n : Nat} (h : j + n ≤ l.length) : cutD (l.map D.int) (some (j : Int)) (some ((j : Int) + n)) = ((l.drop j).take n).map D.int := by
  unfold cutD
  have e1 : HT.sIx (l.map D.int).length 0 (some (j : Int)) = j := by
    unfold HT.sIx
    simp [show ¬ ((j : Int) < 0) by omega]
    omega
  have e2 : HT.sIx (l.map D.int).length (l.map D.int).length (some ((j : Int) + n)) = j + n := by
    unfold HT.sIx
    simp [show ¬ ((j : Int) + n < 0) by omega]
    omega
  rw [e1, e2, show j + n - j = n by omega, List.map_take, List.map_drop]
theorem log_lt {i : Int} {n : Nat} (h : i.natAbs < 2 ^ n) (hn : 0 < n) : i.natAbs.log2 < n := by
  by_cases z : i.natAbs = 0
  · rw [z, Nat.log2_zero]
    exact hn
  · exact (Nat.log2_lt z).mpr h
theorem mul_ok {i j : Int} (h1 : i.natAbs < 2 ^ 400) (h2 : j.natAbs < 2 ^ 400) : gIc CMulW (· * ·) i j = some (.int (i * j)) := by
  refine gIc_s ?_
  have := log_lt h1 (by omega)
  have := log_lt h2 (by omega)
  unfold CMulW
  omega
theorem pow_ok {i j : Int} (h0 : 0 ≤ j) (h1 : j ≤ 1000) (h2 : i.natAbs < 2 ^ 64) : gIc CPow (fun i j => i ^ j.toNat) i j = some (.int (i ^ j.toNat)) := gIc_s ⟨h0, by omega, h2⟩
theorem div_ok {i j : Int} (h0 : 0 < j) (h1 : j < 1073741824) : gIc CDivN Int.fdiv i j = some (.int (i.fdiv j)) := gIc_s ⟨by omega, by omega⟩
/-! ### boxes -/
structure Bx where
  a : Int
  b : Bool
  c : Int
  k : Int
def Bx.d (x : Bx) : D := .lst [.int x.a, .bl x.b, .int x.c, .int x.k]
def Bx.e (x : Bx) : Ent := some ⟨.al, x.d⟩
/-- so many takes more -/
structure Bx.Ok (j : Int) (x : Bx) : Prop where
  a0 : 0 ≤ x.a
  c0 : 0 ≤ x.c
  c1 : x.c < 2 ^ 31
  k0 : 0 ≤ x.k
  k1 : x.k + j < 2 ^ 31
theorem Bx.Ok.less {i j : Int} {x : Bx} (h : x.Ok j) (l : i ≤ j) : x.Ok i := ⟨h.a0, h.c0, h.c1, h.k0, by have := h.k1; omega⟩
def dg (p q : Int) (x : Bx) (m : Int) : Int := if x.b = true ∧ 0 < x.a then x.a.fmod m else
  (((((((x.c + p * (x.k + 1) + q) ^ 5).fmod 2147483647) * 48271 + 104933 * (x.k + 1)) ^ 3).fmod 2147483587).fdiv 64).fmod m
def nx (x : Bx) (m : Int) : Bx := if x.b = true ∧ 0 < x.a then ⟨x.a.fdiv m, x.b, x.c, x.k⟩ else ⟨x.a, x.b, x.c, x.k + 1⟩
theorem dg_nn {p q m : Int} {x : Bx} (h : 0 < m) : 0 ≤ dg p q x m := by
  unfold dg
  split <;> exact Int.fmod_nonneg_of_pos _ h
theorem dg_lt {p q m : Int} {x : Bx} (h : 0 < m) : dg p q x m < m := by
  unfold dg
  split <;> exact Int.fmod_lt_of_pos _ h
theorem nx_ok {j m : Int} {x : Bx} (h : 0 < m) (o : x.Ok (j + 1)) : (nx x m).Ok j := by
  obtain ⟨a0, c0, c1, k0, k1⟩ := o
  unfold nx
  split
  · exact ⟨Int.fdiv_nonneg a0 (by omega), c0, c1, k0, by show x.k + j < _; omega⟩
  · exact ⟨a0, c0, c1, by show 0 ≤ x.k + 1; omega, by show x.k + 1 + j < _; omega⟩
theorem ev_take {n : Nat} {cs : List Ent} {x : Bx} {p q m : Int} (hn : n < cs.length) (ok : x.Ok 1) (h1 : 0 < m) (h2 : m < 1073741824) (p0 : 0 ≤ p) (p1 : p < 2 ^ 30) (q0 : 0 ≤ q) (q1 : q < 2 ^ 30) :
    takeM p q [.ref n, .int m] (cs.set n x.e) = .ok ⟨.al, .int (dg p q x m)⟩ ⟨[], cs.set n (nx x m).e⟩ true := by
  obtain ⟨ha, c0, c1, k0, k1⟩ := ok
  obtain ⟨a, b, c, k⟩ := x
  dsimp only at ha c0 c1 k0 k1
  have self : ∀ x : Option Val, (cs.set n x)[n]? = some x := fun x => by rw [List.getElem?_set_self hn]
  have m0 : ¬ m = 0 := by omega
  by_cases d : b = true ∧ 0 < a
  · obtain ⟨rfl, d⟩ := d
    simp [takeM, fnOf_s, Bx.e, Bx.d, self, d, m0, div_ok h1 h2, dg, nx]
  · have d' : (b && decide (0 < a)) = false := by
      cases b with
      | false => rfl
      | true => simp; exact Int.not_lt.mp fun z => d ⟨rfl, z⟩
    have pk : (p * (k + 1)).natAbs < 2 ^ 62 := by
      rw [Int.natAbs_mul]
      exact Nat.lt_of_lt_of_le (Nat.mul_lt_mul'' (show p.natAbs < 2 ^ 30 by omega) (show (k + 1).natAbs < 2 ^ 32 by omega)) (by decide)
    have g1 := mul_ok (i := p) (j := k + 1) (by omega) (by omega)
    have g2 := pow_ok (i := c + p * (k + 1) + q) (j := 5) (by omega) (by omega) (by omega)
    generalize hb : c + p * (k + 1) + q = base at g2
    have mx0 := Int.fmod_nonneg_of_pos (base ^ (5 : Int).toNat) (show (0 : Int) < 2147483647 by omega)
    have mx1 := Int.fmod_lt_of_pos (base ^ (5 : Int).toNat) (show (0 : Int) < 2147483647 by omega)
    generalize hm : (base ^ (5 : Int).toNat).fmod 2147483647 = mixed at mx0 mx1
    have g3 := mul_ok (i := mixed) (j := 48271) (by omega) (by omega)
    have g4 := mul_ok (i := 104933) (j := k + 1) (by omega) (by omega)
    have g5 := pow_ok (i := mixed * 48271 + 104933 * (k + 1)) (j := 3) (by omega) (by omega) (by omega)
    generalize hq : mixed * 48271 + 104933 * (k + 1) = top at g5
    have g6 := div_ok (i := (top ^ (3 : Int).toNat).fmod 2147483587) (j := 64) (by omega) (by omega)
    have p5 : (5 : Int).toNat = 5 := rfl
    have p3 : (3 : Int).toNat = 3 := rfl
    rw [p5] at g2 hm
    rw [p3] at g5 g6
    cases b with
    | false => simp [takeM, fnOf_s, Bx.e, Bx.d, self, m0, g1, hb, g2, hm, g3, g4, hq, g5, g6, dg, nx]
    | true =>
      have d2 : ¬ 0 < a := by simpa using d'
      simp [takeM, fnOf_s, Bx.e, Bx.d, self, m0, d2, g1, hb, g2, hm, g3, g4, hq, g5, g6, dg, nx]
theorem cut_one {l : List D} : cutD l none (some 1) = l.take 1 := by
  unfold cutD
  have e1 : HT.sIx l.length 0 none = 0 := rfl
  have e2 : l.take (HT.sIx l.length l.length (some 1)) = l.take 1 := by
    unfold HT.sIx
    cases l with
    | nil => simp
    | cons x l =>
      simp only [List.length_cons]
      simp
  rw [e1, List.drop_zero, Nat.sub_zero]
  exact e2
theorem opSl_fls {il : List Int} {s : MSt} {o : Own} : opSl none (some 1) ⟨o, .fls (il.map .int)⟩ s = .ok ⟨.al, .lst ((il.take 1).map .int)⟩ s false := by
  have h : immL ((il.map D.int).take 1) = true := by
    rw [← List.map_take]
    exact immL_int
  unfold opSl rowO
  simp [cut_one, h]
def cellV (p : Int) (xs : List Int) (k : Nat) : Int := if h : k < xs.length then xs[k] else p * (k : Int) + (xs.take 1).sum.fmod 1000003
theorem ev_cell {p : Int} {xs : List Int} {k : Nat} {cs : List Ent} (p0 : 0 ≤ p) (p1 : p < 2 ^ 30) (hk : k < 1000) : cellM p [.fls (xs.map .int), .int k] cs = .ok ⟨.al, .int (cellV p xs k)⟩ ⟨[], cs⟩ true := by
  unfold cellV
  by_cases h : k < xs.length
  · have a1 : atI (xs.map D.int) (k : Int) = some (.int xs[k]) := at_of (n := k) rfl (getI (List.getElem?_eq_getElem h))
    simp [cellM, fnOf_s, h, a1]
  · have g1 := mul_ok (i := p) (j := k) (by omega) (by omega)
    have io : intsOf ((xs.map D.int).take 1) = some (xs.take 1) := by rw [← List.map_take]; exact intsOf_map _
    simp [cellM, fnOf_s, h, g1, opSl_fls, Int.ofNat_lt, io]
def mkBx (g : Int) : Bx := ⟨if g < 0 then -g else g, decide ((10 : Int) ^ (18 : Int).toNat ≤ if g < 0 then -g else g), (if g < 0 then -g else g).fmod 2147483629, 0⟩
theorem ev_box {g : Int} {cs : List Ent} : boxM [.int g] cs = .ok ⟨.al, (mkBx g).d⟩ ⟨[], cs⟩ true := by
  have g1 := pow_ok (i := 10) (j := 18) (by omega) (by omega) (by omega)
  simp [boxM, fnOf_s, g1, mkBx, Bx.d]
theorem mkBx_ok {g j : Int} (h : j < 2 ^ 31) : (mkBx g).Ok j := by
  have mx0 := Int.fmod_nonneg_of_pos (if g < 0 then -g else g) (show (0 : Int) < 2147483629 by omega)
  have mx1 := Int.fmod_lt_of_pos (if g < 0 then -g else g) (show (0 : Int) < 2147483629 by omega)
  exact ⟨by unfold mkBx; dsimp only; split <;> omega, mx0, by show Int.fmod _ _ < _; omega, Int.le_refl _, by show 0 + j < _; omega⟩
end MM

namespace N
open PySem PySem.Spec PyProof.Rows L2 GB MM
def top (i : Nat) : Stmt := PySem.Challenge.pw_diffcompiler_k29_cost_tables.main.body.getD i (.Pass ⟨0, 0, 0, 0⟩)
abbrev s_InvalidCosts_init : Stmt := inClass (top 2) 0
theorem sc_InvalidCosts_init : FnScope ["self", "given"] ["self", "given"] (defScope s_InvalidCosts_init) := ⟨rfl, rfl, rfl, by decide +kernel, rfl, by decide +kernel, by decide +kernel⟩
abbrev s_InvalidSlots_init : Stmt := inClass (top 3) 0
theorem sc_InvalidSlots_init : FnScope ["self", "given"] ["self", "given"] (defScope s_InvalidSlots_init) := ⟨rfl, rfl, rfl, by decide +kernel, rfl, by decide +kernel, by decide +kernel⟩
abbrev s_is_integer : Stmt := top 5
theorem sc_is_integer : FnScope ["value"] ["value"] (defScope s_is_integer) := ⟨rfl, rfl, rfl, by decide +kernel, rfl, by decide +kernel, by decide +kernel⟩
theorem bd_is_integer : Bd "is_integer" s_is_integer ["value"] := fun _ _ _ _ _ _ us hl => match us, hl with | [_], _ => rfl
abbrev s_is_between : Stmt := top 6
theorem sc_is_between : FnScope ["value", "low", "high"] ["value", "low", "high"] (defScope s_is_between) := ⟨rfl, rfl, rfl, by decide +kernel, rfl, by decide +kernel, by decide +kernel⟩
theorem bd_is_between : Bd "is_between" s_is_between ["value", "low", "high"] := fun _ _ _ _ _ _ us hl => match us, hl with | [_, _, _], _ => rfl
abbrev s_is_list : Stmt := top 7
theorem sc_is_list : FnScope ["value"] ["value"] (defScope s_is_list) := ⟨rfl, rfl, rfl, by decide +kernel, rfl, by decide +kernel, by decide +kernel⟩
theorem bd_is_list : Bd "is_list" s_is_list ["value"] := fun _ _ _ _ _ _ us hl => match us, hl with | [_], _ => rfl
abbrev s_are_costs : Stmt := top 12
theorem sc_are_costs : FnScope ["value", "cost"] ["value"] (defScope s_are_costs) := ⟨rfl, rfl, rfl, by decide +kernel, rfl, by decide +kernel, by decide +kernel⟩
theorem bd_are_costs : Bd "are_costs" s_are_costs ["value"] := fun _ _ _ _ _ _ us hl => match us, hl with | [_], _ => rfl
abbrev s_check_costs : Stmt := top 13
theorem sc_check_costs : FnScope ["costs"] ["costs"] (defScope s_check_costs) := ⟨rfl, rfl, rfl, by decide +kernel, rfl, by decide +kernel, by decide +kernel⟩
theorem bd_check_costs : Bd "check_costs" s_check_costs ["costs"] := fun _ _ _ _ _ _ us hl => match us, hl with | [_], _ => rfl
abbrev s_check_slots : Stmt := top 14
theorem sc_check_slots : FnScope ["c"] ["c"] (defScope s_check_slots) := ⟨rfl, rfl, rfl, by decide +kernel, rfl, by decide +kernel, by decide +kernel⟩
theorem bd_check_slots : Bd "check_slots" s_check_slots ["c"] := fun _ _ _ _ _ _ us hl => match us, hl with | [_], _ => rfl
abbrev s_lone_row : Stmt := top 16
theorem sc_lone_row : FnScope ["costs", "first", "found", "ahead", "cost"] ["costs", "first"] (defScope s_lone_row) := ⟨rfl, rfl, rfl, by decide +kernel, rfl, by decide +kernel, by decide +kernel⟩
theorem bd_lone_row : Bd "lone_row" s_lone_row ["costs", "first"] := fun _ _ _ _ _ _ us hl => match us, hl with | [_, _], _ => rfl
abbrev s_split_costs : Stmt := top 17
theorem sc_split_costs : FnScope ["costs", "fewer", "same", "first", "many", "found", "ahead", "part"] ["costs", "fewer", "same", "first", "many"] (defScope s_split_costs) := ⟨rfl, rfl, rfl, by decide +kernel, rfl, by decide +kernel, by decide +kernel⟩
theorem bd_split_costs : Bd "split_costs" s_split_costs ["costs", "fewer", "same", "first", "many"] := fun _ _ _ _ _ _ us hl => match us, hl with | [_, _, _, _, _], _ => rfl
abbrev s_table_of : Stmt := top 18
theorem sc_table_of : FnScope ["costs", "c", "rounds", "found", "_", "rows", "first", "row", "many"] ["costs", "c"] (defScope s_table_of) := ⟨rfl, rfl, rfl, by decide +kernel, rfl, by decide +kernel, by decide +kernel⟩
theorem bd_table_of : Bd "table_of" s_table_of ["costs", "c"] := fun _ _ _ _ _ _ us hl => match us, hl with | [_, _], _ => rfl
abbrev s_least_cost : Stmt := top 19
theorem sc_least_cost : FnScope ["costs", "c"] ["costs", "c"] (defScope s_least_cost) := ⟨rfl, rfl, rfl, by decide +kernel, rfl, by decide +kernel, by decide +kernel⟩
theorem bd_least_cost : Bd "least_cost" s_least_cost ["costs", "c"] := fun _ _ _ _ _ _ us hl => match us, hl with | [_, _], _ => rfl
abbrev s_cost_table : Stmt := top 20
theorem sc_cost_table : FnScope ["costs", "c"] ["costs", "c"] (defScope s_cost_table) := ⟨rfl, rfl, rfl, by decide +kernel, rfl, by decide +kernel, by decide +kernel⟩
theorem bd_cost_table : Bd "cost_table" s_cost_table ["costs", "c"] := fun _ _ _ _ _ _ us hl => match us, hl with | [_, _], _ => rfl
abbrev s_are_numbers : Stmt := top 21
theorem sc_are_numbers : FnScope ["value", "due", "one", "other"] ["value", "due"] (defScope s_are_numbers) := ⟨rfl, rfl, rfl, by decide +kernel, rfl, by decide +kernel, by decide +kernel⟩
theorem bd_are_numbers : Bd "are_numbers" s_are_numbers ["value", "due"] := fun _ _ _ _ _ _ us hl => match us, hl with | [_, _], _ => rfl
abbrev s_are_rows : Stmt := top 22
theorem sc_are_rows : FnScope ["value", "due", "row", "other"] ["value", "due"] (defScope s_are_rows) := ⟨rfl, rfl, rfl, by decide +kernel, rfl, by decide +kernel, by decide +kernel⟩
theorem bd_are_rows : Bd "are_rows" s_are_rows ["value", "due"] := fun _ _ _ _ _ _ us hl => match us, hl with | [_, _], _ => rfl
abbrev s_is_cost_table : Stmt := top 23
theorem sc_is_cost_table : FnScope ["costs", "c", "value", "due", "rows", "others"] ["costs", "c", "value"] (defScope s_is_cost_table) := ⟨rfl, rfl, rfl, by decide +kernel, rfl, by decide +kernel, by decide +kernel⟩
theorem bd_is_cost_table : Bd "is_cost_table" s_is_cost_table ["costs", "c", "value"] := fun _ _ _ _ _ _ us hl => match us, hl with | [_, _, _], _ => rfl
abbrev s__law_cell : Stmt := top 25
theorem sc__law_cell : FnScope ["script", "k"] ["script", "k"] (defScope s__law_cell) := ⟨rfl, rfl, rfl, by decide +kernel, rfl, by decide +kernel, by decide +kernel⟩
theorem bd__law_cell : Bd "_law_cell" s__law_cell ["script", "k"] := fun _ _ _ _ _ _ us hl => match us, hl with | [_, _], _ => rfl
abbrev s__law_box : Stmt := top 26
theorem sc__law_box : FnScope ["great"] ["great"] (defScope s__law_box) := ⟨rfl, rfl, rfl, by decide +kernel, rfl, by decide +kernel, by decide +kernel⟩
theorem bd__law_box : Bd "_law_box" s__law_box ["great"] := fun _ _ _ _ _ _ us hl => match us, hl with | [_], _ => rfl
abbrev s__law_take : Stmt := top 27
theorem sc__law_take : FnScope ["box", "many", "digit", "mixed"] ["box", "many"] (defScope s__law_take) := ⟨rfl, rfl, rfl, by decide +kernel, rfl, by decide +kernel, by decide +kernel⟩
theorem bd__law_take : Bd "_law_take" s__law_take ["box", "many"] := fun _ _ _ _ _ _ us hl => match us, hl with | [_, _], _ => rfl
abbrev s__law_mixed : Stmt := top 28
theorem sc__law_mixed : FnScope ["box", "items", "left", "found"] ["box", "items"] (defScope s__law_mixed) := ⟨rfl, rfl, rfl, by decide +kernel, rfl, by decide +kernel, by decide +kernel⟩
theorem bd__law_mixed : Bd "_law_mixed" s__law_mixed ["box", "items"] := fun _ _ _ _ _ _ us hl => match us, hl with | [_, _], _ => rfl
abbrev s__law_same : Stmt := top 29
theorem sc__law_same : FnScope ["told", "due", "k", "key"] ["told", "due"] (defScope s__law_same) := ⟨rfl, rfl, rfl, by decide +kernel, rfl, by decide +kernel, by decide +kernel⟩
theorem bd__law_same : Bd "_law_same" s__law_same ["told", "due"] := fun _ _ _ _ _ _ us hl => match us, hl with | [_, _], _ => rfl
abbrev s__law_grown : Stmt := top 30
theorem sc__law_grown : FnScope ["value"] ["value"] (defScope s__law_grown) := ⟨rfl, rfl, rfl, by decide +kernel, rfl, by decide +kernel, by decide +kernel⟩
theorem bd__law_grown : Bd "_law_grown" s__law_grown ["value"] := fun _ _ _ _ _ _ us hl => match us, hl with | [_], _ => rfl
abbrev s__law_table : Stmt := top 31
theorem sc__law_table : FnScope ["costs", "c", "many", "found", "slots", "rows", "size", "first", "sums", "k", "part"] ["costs", "c"] (defScope s__law_table) := ⟨rfl, rfl, rfl, by decide +kernel, rfl, by decide +kernel, by decide +kernel⟩
theorem bd__law_table : Bd "_law_table" s__law_table ["costs", "c"] := fun _ _ _ _ _ _ us hl => match us, hl with | [_, _], _ => rfl
abbrev s__law_copy : Stmt := top 32
theorem sc__law_copy : FnScope ["rows", "one", "row"] ["rows"] (defScope s__law_copy) := ⟨rfl, rfl, rfl, by decide +kernel, rfl, by decide +kernel, by decide +kernel⟩
theorem bd__law_copy : Bd "_law_copy" s__law_copy ["rows"] := fun _ _ _ _ _ _ us hl => match us, hl with | [_], _ => rfl
abbrev s__law_values : Stmt := top 33
theorem sc__law_values : FnScope ["box", "due", "slots", "first", "size", "found", "turn", "one", "row"] ["box", "due"] (defScope s__law_values) := ⟨rfl, rfl, rfl, by decide +kernel, rfl, by decide +kernel, by decide +kernel⟩
theorem bd__law_values : Bd "_law_values" s__law_values ["box", "due"] := fun _ _ _ _ _ _ us hl => match us, hl with | [_, _], _ => rfl
abbrev s__law_is_table : Stmt := top 34
theorem sc__law_is_table : FnScope ["due", "value", "one", "other", "row", "right"] ["due", "value"] (defScope s__law_is_table) := ⟨rfl, rfl, rfl, by decide +kernel, rfl, by decide +kernel, by decide +kernel⟩
theorem bd__law_is_table : Bd "_law_is_table" s__law_is_table ["due", "value"] := fun _ _ _ _ _ _ us hl => match us, hl with | [_, _], _ => rfl
abbrev s__law_met : Stmt := top 35
theorem sc__law_met : FnScope ["kind", "args", "by_name", "e"] ["kind", "args", "by_name"] (defScope s__law_met) := ⟨rfl, rfl, rfl, by decide +kernel, rfl, by decide +kernel, by decide +kernel⟩
theorem bd__law_met : Bd "_law_met" s__law_met ["kind", "args", "by_name"] := fun _ _ _ _ _ _ us hl => match us, hl with | [_, _, _], _ => rfl
abbrev s__law_table_right : Stmt := top 36
theorem sc__law_table_right : FnScope ["box", "costs", "c", "by_name", "due", "turn", "told", "last", "value"] ["box", "costs", "c", "by_name"] (defScope s__law_table_right) := ⟨rfl, rfl, rfl, by decide +kernel, rfl, by decide +kernel, by decide +kernel⟩
theorem bd__law_table_right : Bd "_law_table_right" s__law_table_right ["box", "costs", "c", "by_name"] := fun _ _ _ _ _ _ us hl => match us, hl with | [_, _, _, _], _ => rfl
abbrev s__law_refused_right : Stmt := top 37
theorem sc__law_refused_right : FnScope ["box", "by_name", "kind", "odd", "told"] ["box", "by_name"] (defScope s__law_refused_right) := ⟨rfl, rfl, rfl, by decide +kernel, rfl, by decide +kernel, by decide +kernel⟩
theorem bd__law_refused_right : Bd "_law_refused_right" s__law_refused_right ["box", "by_name"] := fun _ _ _ _ _ _ us hl => match us, hl with | [_, _], _ => rfl
abbrev s_law : Stmt := top 38
theorem sc_law : FnScope ["script", "great", "k", "box", "by_name", "many", "c", "costs", "turn"] ["script"] (defScope s_law) := ⟨rfl, rfl, rfl, by decide +kernel, rfl, by decide +kernel, by decide +kernel⟩
theorem bd_law : Bd "law" s_law ["script"] := fun _ _ _ _ _ _ us hl => match us, hl with | [_], _ => rfl
def etab : ET := [("InvalidCosts", ["given"], [("InvalidCosts", true), ("InvalidSlots", false)]), ("InvalidSlots", ["given"], [("InvalidCosts", false), ("InvalidSlots", true)])]
end N

namespace N
open PySem PySem.Spec PyProof.Rows L2 GB MM
theorem k_cost_table_1_0 : Bk "cost_table" s_cost_table ["costs", "c"] ["c", "costs"] (fun {α} => @byIx [1, 0] α) := fun _ _ _ _ _ _ us hl => match us, hl with | [_, _], _ => rfl
theorem k_is_cost_table_2_1_0 : Bk "is_cost_table" s_is_cost_table ["costs", "c", "value"] ["value", "c", "costs"] (fun {α} => @byIx [2, 1, 0] α) := fun _ _ _ _ _ _ us hl => match us, hl with | [_, _, _], _ => rfl
theorem k_least_cost_1_0 : Bk "least_cost" s_least_cost ["costs", "c"] ["c", "costs"] (fun {α} => @byIx [1, 0] α) := fun _ _ _ _ _ _ us hl => match us, hl with | [_, _], _ => rfl
noncomputable def F_is_integer : Fn := fnOf 0
    ((mRet (eAnd (e1 (eVar 0) (opIsi .int)) (eNot (e1 (eVar 0) (opIsi .bool))))))
theorem df_is_integer {P : Program} {w : World} {K : PySem.W.Frag} {mg : Str → Option Value} {base : Heap} (F : At K mg "is_integer" s_is_integer) (B : Bi mg) : Df P w K mg base 1 "is_integer" s_is_integer ["value"] F_is_integer := by
  obtain ⟨f, fd, F, gm⟩ := F
  refine ⟨f, fd, F.okX sc_is_integer (fun vs H Q E h => spM_len h) (fun cdv A outer s H vs Q E hr h => ?_), gm, F⟩
  have h := body_ok (N := ["value"]) (z := 0) rfl h
  have tk : Takes (cxOf (L2.CX P w) P w K mg base ["value"] "is_integer" (defScope s_is_integer) f cdv A outer s H E) (fun c d _ H => E c d H) := takes_of rfl rfl rfl rfl
  exact ⟨_, (pss_oneM (ps_retM (pe_andM (pe_isiM (t := .int) rfl (by rfl) B.isinstance (pe_varM rfl (by first | exact .inl rfl | exact .inr (.inl rfl) | exact .inr (.inr rfl))) (pe_bltn (v := .ty "int") (by rfl) B.int (by decide +kernel) rfl)) (pe_oneM (pe_notM (pe_isiM (t := .bool) rfl (by rfl) B.isinstance (pe_varM rfl (by first | exact .inl rfl | exact .inr (.inl rfl) | exact .inr (.inr rfl))) (pe_bltn (v := .ty "bool") (by rfl) B.bool (by decide +kernel) rfl))))))), h⟩
noncomputable def F_is_between : Fn := fnOf 0
    ((mRet (eAnd (callM .v F_is_integer (aCons (eVar 0) aNil)) (eCh (fun i j => decide (i ≤ j)) (fun i j => decide (i ≤ j)) (eVar 1) (eVar 0) (eVar 2)))))
theorem df_is_between {P : Program} {w : World} {K : PySem.W.Frag} {mg : Str → Option Value} {base : Heap} (F : At K mg "is_between" s_is_between) (B : Bi mg) (d_is_integer : Df P w K mg base 1 "is_integer" s_is_integer ["value"] F_is_integer) : Df P w K mg base 2 "is_between" s_is_between ["value", "low", "high"] F_is_between := by
  obtain ⟨f, fd, F, gm⟩ := F
  refine ⟨f, fd, F.okX sc_is_between (fun vs H Q E h => spM_len h) (fun cdv A outer s H vs Q E hr h => ?_), gm, F⟩
  have h := body_ok (N := ["value", "low", "high"]) (z := 0) rfl h
  have tk : Takes (cxOf (L2.CX P w) P w K mg base ["value", "low", "high"] "is_between" (defScope s_is_between) f cdv A outer s H E) (fun c d _ H => E c d H) := takes_of rfl rfl rfl rfl
  exact ⟨_, (pss_oneM (ps_retM (pe_andM (pe_clM .v d_is_integer bd_is_integer (hr.mono (by omega)) tk (pa_consM (pe_varM rfl (by first | exact .inl rfl | exact .inr (.inl rfl) | exact .inr (.inr rfl))) pa_nilM) (aCons_n aNil_n)) (pe_oneM (pe_chM op_le op_le (pe_varM rfl (by first | exact .inl rfl | exact .inr (.inl rfl) | exact .inr (.inr rfl))) (pe_varM rfl (by first | exact .inl rfl | exact .inr (.inl rfl) | exact .inr (.inr rfl))) (pe_varM rfl (by first | exact .inl rfl | exact .inr (.inl rfl) | exact .inr (.inr rfl)))))))), h⟩
noncomputable def F_is_list : Fn := fnOf 0
    ((mRet (e1 (eVar 0) (opIsiQ .list .tuple))))
theorem df_is_list {P : Program} {w : World} {K : PySem.W.Frag} {mg : Str → Option Value} {base : Heap} (F : At K mg "is_list" s_is_list) (B : Bi mg) : Df P w K mg base 1 "is_list" s_is_list ["value"] F_is_list := by
  obtain ⟨f, fd, F, gm⟩ := F
  refine ⟨f, fd, F.okX sc_is_list (fun vs H Q E h => spM_len h) (fun cdv A outer s H vs Q E hr h => ?_), gm, F⟩
  have h := body_ok (N := ["value"]) (z := 0) rfl h
  have tk : Takes (cxOf (L2.CX P w) P w K mg base ["value"] "is_list" (defScope s_is_list) f cdv A outer s H E) (fun c d _ H => E c d H) := takes_of rfl rfl rfl rfl
  exact ⟨_, (pss_oneM (ps_retM (pe_isiQM (t := .list) (u := .tuple) rfl (by rfl) B.isinstance (pe_varM rfl (by first | exact .inl rfl | exact .inr (.inl rfl) | exact .inr (.inr rfl))) (pe_bltn (v := .ty "list") (by rfl) B.list (by decide +kernel) rfl) (pe_bltn (v := .ty "tuple") (by rfl) B.tuple (by decide +kernel) rfl)))), h⟩
noncomputable def F_are_costs : Fn := fnOf 1
    ((mSeq (mIf (tOrM (tNotM (tTru (callM .v F_is_list (aCons (eVar 0) aNil)))) (tNotM (tBl (eCh (fun i j => decide (i ≤ j)) (fun i j => decide (i ≤ j)) (eC (.int 1)) (eN (aCons (eVar 0) aNil) opLen) (eC (.int 60))))))
      (mRet (eC (.bl false)))
      mNext)
      (mRet (eN (aCons (mComp (itRow (eVar 0)) (tgName true 1) mYes (callM .v F_is_between (aCons (eVar 1) (aCons (eC (.int 1)) (aCons (eC (.int 1000000)) aNil)))) [1]) aNil) (opBls fun l => l.all id)))))
theorem df_are_costs {P : Program} {w : World} {K : PySem.W.Frag} {mg : Str → Option Value} {base : Heap} (F : At K mg "are_costs" s_are_costs) (B : Bi mg) (d_is_between : Df P w K mg base 2 "is_between" s_is_between ["value", "low", "high"] F_is_between) (d_is_list : Df P w K mg base 1 "is_list" s_is_list ["value"] F_is_list) (g_MOST_COST : ∃ t, mg "MOST_COST" = some (.int (1000000) t)) (g_MOST_ROUNDS : ∃ t, mg "MOST_ROUNDS" = some (.int (60) t)) : Df P w K mg base 3 "are_costs" s_are_costs ["value"] F_are_costs := by
  obtain ⟨f, fd, F, gm⟩ := F
  refine ⟨f, fd, F.okX sc_are_costs (fun vs H Q E h => spM_len h) (fun cdv A outer s H vs Q E hr h => ?_), gm, F⟩
  have h := body_ok (N := ["value", "cost"]) (z := 1) rfl h
  have tk : Takes (cxOf (L2.CX P w) P w K mg base ["value", "cost"] "are_costs" (defScope s_are_costs) f cdv A outer s H E) (fun c d _ H => E c d H) := takes_of rfl rfl rfl rfl
  exact ⟨_, (pss_consM (ps_ifM (PW.pt (pt_orM (pt_notM (pt_truM (pe_clM .v d_is_list bd_is_list (hr.mono (by omega)) tk (pa_consM (pe_varM rfl (by first | exact .inl rfl | exact .inr (.inl rfl) | exact .inr (.inr rfl))) pa_nilM) (aCons_n aNil_n)))) (pt_or1M (pt_notM (pt_chM op_le op_le pe_intM (pe_callM cr_len fit_len (by rfl) B.len (by decide +kernel) (pa_consM (pe_varM rfl (by first | exact .inl rfl | exact .inr (.inl rfl) | exact .inr (.inr rfl))) pa_nilM)) (pe_constM (pe_globI g_MOST_ROUNDS) fun _ _ => .int _))))))
      (pss_oneM (ps_retM pe_blM))
      pss_nilM)
      (pss_oneM (ps_retM (pe_callM (cr_allM rfl) fit_all (by rfl) B.all (by decide +kernel) (pa_consM (pe_lcM (js := [1]) rfl sc_are_costs.nd (pi_rowM (pe_varM rfl (by first | exact .inl rfl | exact .inr (.inl rfl) | exact .inr (.inr rfl)))) (blkOk_by (own := [("cost", 1)]) (N := ["value", "cost"]) (sc := defScope s_are_costs) (by decide +kernel)) (fun _ _ _ _ _ => ((pg_nameM true sc_are_costs.nd rfl (Or.inl rfl)))) (fun _ _ _ _ _ => (pts_nilM)) (fun _ _ _ _ _ => ((pe_clM .v d_is_between bd_is_between (hr.mono (by omega)) takes0W (pa_consM (pe_varM rfl (by first | exact .inl rfl | exact .inr (.inl rfl) | exact .inr (.inr rfl))) (pa_consM pe_intM (pa_consM (pe_constM (pe_globI g_MOST_COST) fun _ _ => .int _) pa_nilM))) (aCons_n (aCons_n (aCons_n aNil_n)))))) (by decide)) pa_nilM))))), h⟩
noncomputable def F_check_costs : Fn := fnOf 0
    ((mIf (tNotM (tTru (callM .v F_are_costs (aCons (eVar 0) aNil))))
      (mRaise "InvalidCosts" ["given"] (aCons (eVar 0) aNil))
      mNext))
theorem df_check_costs {P : Program} {w : World} {K : PySem.W.Frag} {mg : Str → Option Value} {base : Heap} (F : At K mg "check_costs" s_check_costs) (B : Bi mg) (d_are_costs : Df P w K mg base 3 "are_costs" s_are_costs ["value"] F_are_costs) {C_InvalidCosts : Addr} (e_InvalidCosts : Er P w K mg base "InvalidCosts" C_InvalidCosts ["given"]) : Df P w K mg base 4 "check_costs" s_check_costs ["costs"] F_check_costs := by
  obtain ⟨f, fd, F, gm⟩ := F
  refine ⟨f, fd, F.okX sc_check_costs (fun vs H Q E h => spM_len h) (fun cdv A outer s H vs Q E hr h => ?_), gm, F⟩
  have h := body_ok (N := ["costs"]) (z := 0) rfl h
  have tk : Takes (cxOf (L2.CX P w) P w K mg base ["costs"] "check_costs" (defScope s_check_costs) f cdv A outer s H E) (fun c d _ H => E c d H) := takes_of rfl rfl rfl rfl
  exact ⟨_, (pss_oneM (ps_ifM (pt_notM (pt_truM (pe_clM .v d_are_costs bd_are_costs (hr.mono (by omega)) tk (pa_consM (pe_varM rfl (by first | exact .inl rfl | exact .inr (.inl rfl) | exact .inr (.inr rfl))) pa_nilM) (aCons_n aNil_n))))
      (pss_oneM (ps_raiseM rfl e_InvalidCosts (hr.mono (by omega)) tk (pa_consM (pe_varM rfl (by first | exact .inl rfl | exact .inr (.inl rfl) | exact .inr (.inr rfl))) pa_nilM)))
      pss_nilM)), h⟩
noncomputable def F_check_slots : Fn := fnOf 0
    ((mIf (tNotM (tTru (callM .v F_is_between (aCons (eVar 0) (aCons (eC (.int 1)) (aCons (eC (.int 40)) aNil))))))
      (mRaise "InvalidSlots" ["given"] (aCons (eVar 0) aNil))
      mNext))
theorem df_check_slots {P : Program} {w : World} {K : PySem.W.Frag} {mg : Str → Option Value} {base : Heap} (F : At K mg "check_slots" s_check_slots) (B : Bi mg) (d_is_between : Df P w K mg base 2 "is_between" s_is_between ["value", "low", "high"] F_is_between) (g_MOST_SLOTS : ∃ t, mg "MOST_SLOTS" = some (.int (40) t)) {C_InvalidSlots : Addr} (e_InvalidSlots : Er P w K mg base "InvalidSlots" C_InvalidSlots ["given"]) : Df P w K mg base 3 "check_slots" s_check_slots ["c"] F_check_slots := by
  obtain ⟨f, fd, F, gm⟩ := F
  refine ⟨f, fd, F.okX sc_check_slots (fun vs H Q E h => spM_len h) (fun cdv A outer s H vs Q E hr h => ?_), gm, F⟩
  have h := body_ok (N := ["c"]) (z := 0) rfl h
  have tk : Takes (cxOf (L2.CX P w) P w K mg base ["c"] "check_slots" (defScope s_check_slots) f cdv A outer s H E) (fun c d _ H => E c d H) := takes_of rfl rfl rfl rfl
  exact ⟨_, (pss_oneM (ps_ifM (pt_notM (pt_truM (pe_clM .v d_is_between bd_is_between (hr.mono (by omega)) tk (pa_consM (pe_varM rfl (by first | exact .inl rfl | exact .inr (.inl rfl) | exact .inr (.inr rfl))) (pa_consM pe_intM (pa_consM (pe_constM (pe_globI g_MOST_SLOTS) fun _ _ => .int _) pa_nilM))) (aCons_n (aCons_n (aCons_n aNil_n))))))
      (pss_oneM (ps_raiseM rfl e_InvalidSlots (hr.mono (by omega)) tk (pa_consM (pe_varM rfl (by first | exact .inl rfl | exact .inr (.inl rfl) | exact .inr (.inr rfl))) pa_nilM)))
      pss_nilM)), h⟩
noncomputable def F_lone_row : Fn := fnOf 3
    ((mSeq (mPar false true 2 3 (aCons (eN (aCons (eC (.int 0)) aNil) opLst) (aCons (eC (.int 0)) aNil)))
      (mSeq (mFor (itRow (eSl (eVar 0) (pSo (eVar 1)) (pSo (e1 (eC (.int 1)) (opI fun i => .int (-i)))))) (tgName true 4) [4]
      (mSeq (mSet true 3 (e2 (eVar 3) (eVar 4) (opII (gI (· + ·)))))
      (mExpr (eMut (plVar 2) (aCons (e2 (e2 (eVar 2) (e1 (eC (.int 1)) (opI fun i => .int (-i))) opIx) (eVar 3) (opII (gI (· + ·)))) aNil) uApp))))
      (mRetV 2))))
theorem df_lone_row {P : Program} {w : World} {K : PySem.W.Frag} {mg : Str → Option Value} {base : Heap} (F : At K mg "lone_row" s_lone_row) (B : Bi mg) : Df P w K mg base 1 "lone_row" s_lone_row ["costs", "first"] F_lone_row := by
  obtain ⟨f, fd, F, gm⟩ := F
  refine ⟨f, fd, F.okX sc_lone_row (fun vs H Q E h => spM_len h) (fun cdv A outer s H vs Q E hr h => ?_), gm, F⟩
  have h := body_ok (N := ["costs", "first", "found", "ahead", "cost"]) (z := 3) rfl h
  have tk : Takes (cxOf (L2.CX P w) P w K mg base ["costs", "first", "found", "ahead", "cost"] "lone_row" (defScope s_lone_row) f cdv A outer s H E) (fun c d _ H => E c d H) := takes_of rfl rfl rfl rfl
  exact ⟨_, (pss_consM (ps_parM false true (by rfl) sc_lone_row.nd rfl rfl (by decide) rfl rfl (pa_consM (pe_lstM (pa_consM pe_intM pa_nilM)) (pa_consM pe_intM pa_nilM)) (by rfl))
      (pss_consM (ps_forM [4] (passes_of rfl) rfl (pi_rowM (pe_slM (pe_varM rfl (by first | exact .inl rfl | exact .inr (.inl rfl) | exact .inr (.inr rfl))) (po_some (pe_varM rfl (by first | exact .inl rfl | exact .inr (.inl rfl) | exact .inr (.inr rfl)))) (po_some (pe_unM un_neg fit_neg pe_intM)) pr_so pr_so)) (pg_nameM true sc_lone_row.nd rfl (Or.inl rfl))
      (pss_consM (ps_setM true sc_lone_row.nd rfl (Or.inl rfl) (pe_opM op_add fit_I0 (pe_varM rfl (by first | exact .inl rfl | exact .inr (.inl rfl) | exact .inr (.inr rfl))) (pe_varM rfl (by first | exact .inl rfl | exact .inr (.inl rfl) | exact .inr (.inr rfl)))))
      (pss_oneM (ps_exprM (pe_mutM fit_app PySem.F.plainAttrs_list PySem.F.slot_list_append PySem.F.type_list_append mt_append pl_var (pe_var rfl (by first | exact .inl rfl | exact .inr (.inl rfl) | exact .inr (.inr rfl))) (pa_consM (pe_opM op_add fit_I0 (pe_ixM fit_ix (pe_varM rfl (by first | exact .inl rfl | exact .inr (.inl rfl) | exact .inr (.inr rfl))) (pe_unM un_neg fit_neg pe_intM) (fun _ _ => rfl)) (pe_varM rfl (by first | exact .inl rfl | exact .inr (.inl rfl) | exact .inr (.inr rfl)))) pa_nilM))))))
      (pss_oneM (ps_retVM rfl (by first | exact .inl rfl | exact .inr (.inl rfl)))))), h⟩
noncomputable def F_split_costs : Fn := fnOf 3
    ((mSeq (mPar false true 5 6 (aCons (eN aNil opLst) (aCons (eC (.int 0)) aNil)))
      (mSeq (mFor (itRng2 (aCons (eC (.int 1)) (aCons (eVar 4) aNil))) (tgName true 7) [7]
      (mSeq (mSet true 6 (e2 (eVar 6) (e2 (eVar 0) (e2 (e2 (eVar 3) (eVar 7) (opII (gI (· + ·)))) (eC (.int 1)) (opII (gI (· - ·)))) opIx) (opII (gI (· + ·)))))
      (mExpr (eMut (plVar 5) (aCons (e2 (e2 (eVar 6) (e2 (e2 (eVar 1) (e2 (eVar 3) (eVar 7) (opII (gI (· + ·)))) opIx) (e2 (e2 (eVar 4) (eVar 7) (opII (gI (· - ·)))) (eC (.int 1)) (opII (gI (· - ·)))) opIx) (opII (gI (· + ·)))) (e2 (eVar 2) (e2 (eVar 7) (eC (.int 1)) (opII (gI (· - ·)))) opIx) (opII (gI (· + ·)))) aNil) uApp))))
      (mRetV 5))))
theorem df_split_costs {P : Program} {w : World} {K : PySem.W.Frag} {mg : Str → Option Value} {base : Heap} (F : At K mg "split_costs" s_split_costs) (B : Bi mg) : Df P w K mg base 1 "split_costs" s_split_costs ["costs", "fewer", "same", "first", "many"] F_split_costs := by
  obtain ⟨f, fd, F, gm⟩ := F
  refine ⟨f, fd, F.okX sc_split_costs (fun vs H Q E h => spM_len h) (fun cdv A outer s H vs Q E hr h => ?_), gm, F⟩
  have h := body_ok (N := ["costs", "fewer", "same", "first", "many", "found", "ahead", "part"]) (z := 3) rfl h
  have tk : Takes (cxOf (L2.CX P w) P w K mg base ["costs", "fewer", "same", "first", "many", "found", "ahead", "part"] "split_costs" (defScope s_split_costs) f cdv A outer s H E) (fun c d _ H => E c d H) := takes_of rfl rfl rfl rfl
  exact ⟨_, (pss_consM (ps_parM false true (by rfl) sc_split_costs.nd rfl rfl (by decide) rfl rfl (pa_consM (pe_lstM pa_nilM) (pa_consM pe_intM pa_nilM)) (by rfl))
      (pss_consM (ps_forM [7] (passes_of rfl) rfl (pi_rng2M (by rfl) B.range (pa_consM pe_intM (pa_consM (pe_varM rfl (by first | exact .inl rfl | exact .inr (.inl rfl) | exact .inr (.inr rfl))) pa_nilM))) (pg_nameM true sc_split_costs.nd rfl (Or.inl rfl))
      (pss_consM (ps_setM true sc_split_costs.nd rfl (Or.inl rfl) (pe_opM op_add fit_I0 (pe_varM rfl (by first | exact .inl rfl | exact .inr (.inl rfl) | exact .inr (.inr rfl))) (pe_ixM fit_ix (pe_varM rfl (by first | exact .inl rfl | exact .inr (.inl rfl) | exact .inr (.inr rfl))) (pe_opM op_sub fit_I0 (pe_opM op_add fit_I0 (pe_varM rfl (by first | exact .inl rfl | exact .inr (.inl rfl) | exact .inr (.inr rfl))) (pe_varM rfl (by first | exact .inl rfl | exact .inr (.inl rfl) | exact .inr (.inr rfl)))) pe_intM) (fun _ _ => rfl))))
      (pss_oneM (ps_exprM (pe_mutM fit_app PySem.F.plainAttrs_list PySem.F.slot_list_append PySem.F.type_list_append mt_append pl_var (pe_var rfl (by first | exact .inl rfl | exact .inr (.inl rfl) | exact .inr (.inr rfl))) (pa_consM (pe_opM op_add fit_I0 (pe_opM op_add fit_I0 (pe_varM rfl (by first | exact .inl rfl | exact .inr (.inl rfl) | exact .inr (.inr rfl))) (pe_ixM fit_ix (pe_ixM fit_ix (pe_varM rfl (by first | exact .inl rfl | exact .inr (.inl rfl) | exact .inr (.inr rfl))) (pe_opM op_add fit_I0 (pe_varM rfl (by first | exact .inl rfl | exact .inr (.inl rfl) | exact .inr (.inr rfl))) (pe_varM rfl (by first | exact .inl rfl | exact .inr (.inl rfl) | exact .inr (.inr rfl)))) (fun _ _ => rfl)) (pe_opM op_sub fit_I0 (pe_opM op_sub fit_I0 (pe_varM rfl (by first | exact .inl rfl | exact .inr (.inl rfl) | exact .inr (.inr rfl))) (pe_varM rfl (by first | exact .inl rfl | exact .inr (.inl rfl) | exact .inr (.inr rfl)))) pe_intM) (fun _ _ => rfl))) (pe_ixM fit_ix (pe_varM rfl (by first | exact .inl rfl | exact .inr (.inl rfl) | exact .inr (.inr rfl))) (pe_opM op_sub fit_I0 (pe_varM rfl (by first | exact .inl rfl | exact .inr (.inl rfl) | exact .inr (.inr rfl))) pe_intM) (fun _ _ => rfl))) pa_nilM))))))
      (pss_oneM (ps_retVM rfl (by first | exact .inl rfl | exact .inr (.inl rfl)))))), h⟩
noncomputable def F_table_of : Fn := fnOf 7
    ((mSeq (mSet true 2 (eN (aCons (eVar 0) aNil) opLen))
      (mSeq (mSet false 3 (eN (aCons (mComp (itRng1 (aCons (eVar 2) aNil)) (tgName true 6) mYes (callM .v F_lone_row (aCons (eVar 0) (aCons (eVar 6) aNil))) [6]) aNil) opLst))
      (mSeq (mFor (itRng1 (aCons (e2 (eVar 1) (eC (.int 1)) (opII (gI (· - ·)))) aNil)) (tgName true 4) [4, 5, 6, 7, 8]
      (mSeq (mSet false 5 (eN aNil opLst))
      (mSeq (mFor (itRng1 (aCons (eVar 2) aNil)) (tgName true 6) [6, 7, 8]
      (mSeq (mSet false 7 (eN (aCons (eC (.int 0)) aNil) opLst))
      (mSeq (mFor (itRng2 (aCons (eC (.int 2)) (aCons (e2 (e2 (eVar 2) (eVar 6) (opII (gI (· - ·)))) (eC (.int 1)) (opII (gI (· + ·)))) aNil))) (tgName true 8) [8]
      (mExpr (eMut (plVar 7) (aCons (eN (aCons (callM .v F_split_costs (aCons (eVar 0) (aCons (e2 (eVar 3) (e1 (eC (.int 1)) (opI fun i => .int (-i))) opIx) (aCons (eVar 7) (aCons (eVar 6) (aCons (eVar 8) aNil)))))) aNil) (opInts minL)) aNil) uApp)))
      (mExpr (eMut (plVar 5) (aCons (eMv 7) aNil) uApp)))))
      (mExpr (eMut (plVar 3) (aCons (eMv 5) aNil) uApp)))))
      (mRetV 3)))))
theorem df_table_of {P : Program} {w : World} {K : PySem.W.Frag} {mg : Str → Option Value} {base : Heap} (F : At K mg "table_of" s_table_of) (B : Bi mg) (d_lone_row : Df P w K mg base 1 "lone_row" s_lone_row ["costs", "first"] F_lone_row) (d_split_costs : Df P w K mg base 1 "split_costs" s_split_costs ["costs", "fewer", "same", "first", "many"] F_split_costs) : Df P w K mg base 2 "table_of" s_table_of ["costs", "c"] F_table_of := by
  obtain ⟨f, fd, F, gm⟩ := F
  refine ⟨f, fd, F.okX sc_table_of (fun vs H Q E h => spM_len h) (fun cdv A outer s H vs Q E hr h => ?_), gm, F⟩
  have h := body_ok (N := ["costs", "c", "rounds", "found", "_", "rows", "first", "row", "many"]) (z := 7) rfl h
  have tk : Takes (cxOf (L2.CX P w) P w K mg base ["costs", "c", "rounds", "found", "_", "rows", "first", "row", "many"] "table_of" (defScope s_table_of) f cdv A outer s H E) (fun c d _ H => E c d H) := takes_of rfl rfl rfl rfl
  exact ⟨_, (pss_consM (ps_setM true sc_table_of.nd rfl (Or.inl rfl) (pe_callM cr_len fit_len (by rfl) B.len (by decide +kernel) (pa_consM (pe_varM rfl (by first | exact .inl rfl | exact .inr (.inl rfl) | exact .inr (.inr rfl))) pa_nilM)))
      (pss_consM (ps_setM false sc_table_of.nd rfl (Or.inl rfl) (pe_lstM (pa_consM (pe_lcM (js := [6]) rfl sc_table_of.nd (pi_rng1M (by rfl) B.range (pa_consM (pe_varM rfl (by first | exact .inl rfl | exact .inr (.inl rfl) | exact .inr (.inr rfl))) pa_nilM)) (blkOk_by (own := [("first", 6)]) (N := ["costs", "c", "rounds", "found", "_", "rows", "first", "row", "many"]) (sc := defScope s_table_of) (by decide +kernel)) (fun _ _ _ _ _ => ((pg_nameM true sc_table_of.nd rfl (Or.inl rfl)))) (fun _ _ _ _ _ => (pts_nilM)) (fun _ _ _ _ _ => ((pe_clM .v d_lone_row bd_lone_row (hr.mono (by omega)) takes0W (pa_consM (pe_varM rfl (by first | exact .inl rfl | exact .inr (.inl rfl) | exact .inr (.inr rfl))) (pa_consM (pe_varM rfl (by first | exact .inl rfl | exact .inr (.inl rfl) | exact .inr (.inr rfl))) pa_nilM)) (aCons_n (aCons_n aNil_n))))) (by decide)) pa_nilM)))
      (pss_consM (ps_forM [4, 5, 6, 7, 8] (passes_of rfl) rfl (pi_rng1M (by rfl) B.range (pa_consM (pe_opM op_sub fit_I0 (pe_varM rfl (by first | exact .inl rfl | exact .inr (.inl rfl) | exact .inr (.inr rfl))) pe_intM) pa_nilM)) (pg_nameM true sc_table_of.nd rfl (Or.inl rfl))
      (pss_consM (ps_setM false sc_table_of.nd rfl (Or.inl rfl) (pe_lstM pa_nilM))
      (pss_consM (ps_forM [6, 7, 8] (passes_of rfl) rfl (pi_rng1M (by rfl) B.range (pa_consM (pe_varM rfl (by first | exact .inl rfl | exact .inr (.inl rfl) | exact .inr (.inr rfl))) pa_nilM)) (pg_nameM true sc_table_of.nd rfl (Or.inl rfl))
      (pss_consM (ps_setM false sc_table_of.nd rfl (Or.inl rfl) (pe_lstM (pa_consM pe_intM pa_nilM)))
      (pss_consM (ps_forM [8] (passes_of rfl) rfl (pi_rng2M (by rfl) B.range (pa_consM pe_intM (pa_consM (pe_opM op_add fit_I0 (pe_opM op_sub fit_I0 (pe_varM rfl (by first | exact .inl rfl | exact .inr (.inl rfl) | exact .inr (.inr rfl))) (pe_varM rfl (by first | exact .inl rfl | exact .inr (.inl rfl) | exact .inr (.inr rfl)))) pe_intM) pa_nilM))) (pg_nameM true sc_table_of.nd rfl (Or.inl rfl))
      (pss_oneM (ps_exprM (pe_mutM fit_app PySem.F.plainAttrs_list PySem.F.slot_list_append PySem.F.type_list_append mt_append pl_var (pe_var rfl (by first | exact .inl rfl | exact .inr (.inl rfl) | exact .inr (.inr rfl))) (pa_consM (pe_callM (cr_minM rfl) fit_minL (by rfl) B.min (by decide +kernel) (pa_consM (pe_clM .v d_split_costs bd_split_costs (hr.mono (by omega)) tk (pa_consM (pe_varM rfl (by first | exact .inl rfl | exact .inr (.inl rfl) | exact .inr (.inr rfl))) (pa_consM (pe_ixM fit_ix (pe_varM rfl (by first | exact .inl rfl | exact .inr (.inl rfl) | exact .inr (.inr rfl))) (pe_unM un_neg fit_neg pe_intM) (fun _ _ => rfl)) (pa_consM (pe_varM rfl (by first | exact .inl rfl | exact .inr (.inl rfl) | exact .inr (.inr rfl))) (pa_consM (pe_varM rfl (by first | exact .inl rfl | exact .inr (.inl rfl) | exact .inr (.inr rfl))) (pa_consM (pe_varM rfl (by first | exact .inl rfl | exact .inr (.inl rfl) | exact .inr (.inr rfl))) pa_nilM))))) (aCons_n (aCons_n (aCons_n (aCons_n (aCons_n aNil_n)))))) pa_nilM)) pa_nilM)))))
      (pss_oneM (ps_exprM (pe_mutM fit_app PySem.F.plainAttrs_list PySem.F.slot_list_append PySem.F.type_list_append mt_append pl_var (pe_var rfl (by first | exact .inl rfl | exact .inr (.inl rfl) | exact .inr (.inr rfl))) (pa_consM (pe_mvM rfl (by first | exact .inl rfl | exact .inr (.inl rfl) | exact .inr (.inr rfl))) pa_nilM)))))))
      (pss_oneM (ps_exprM (pe_mutM fit_app PySem.F.plainAttrs_list PySem.F.slot_list_append PySem.F.type_list_append mt_append pl_var (pe_var rfl (by first | exact .inl rfl | exact .inr (.inl rfl) | exact .inr (.inr rfl))) (pa_consM (pe_mvM rfl (by first | exact .inl rfl | exact .inr (.inl rfl) | exact .inr (.inr rfl))) pa_nilM)))))))
      (pss_oneM (ps_retVM rfl (by first | exact .inl rfl | exact .inr (.inl rfl))))))), h⟩
noncomputable def F_least_cost : Fn := fnOf 0
    ((mSeq (mExpr (callM .e F_check_costs (aCons (eVar 0) aNil)))
      (mSeq (mExpr (callM .e F_check_slots (aCons (eVar 1) aNil)))
      (mRet (e2 (e2 (e2 (callM .v F_table_of (aCons (eVar 0) (aCons (eVar 1) aNil))) (e1 (eC (.int 1)) (opI fun i => .int (-i))) opIx) (eC (.int 0)) opIx) (e1 (eC (.int 1)) (opI fun i => .int (-i))) opIx)))))
theorem df_least_cost {P : Program} {w : World} {K : PySem.W.Frag} {mg : Str → Option Value} {base : Heap} (F : At K mg "least_cost" s_least_cost) (B : Bi mg) (d_check_costs : Df P w K mg base 4 "check_costs" s_check_costs ["costs"] F_check_costs) (d_check_slots : Df P w K mg base 3 "check_slots" s_check_slots ["c"] F_check_slots) (d_table_of : Df P w K mg base 2 "table_of" s_table_of ["costs", "c"] F_table_of) : Df P w K mg base 5 "least_cost" s_least_cost ["costs", "c"] F_least_cost := by
  obtain ⟨f, fd, F, gm⟩ := F
  refine ⟨f, fd, F.okX sc_least_cost (fun vs H Q E h => spM_len h) (fun cdv A outer s H vs Q E hr h => ?_), gm, F⟩
  have h := body_ok (N := ["costs", "c"]) (z := 0) rfl h
  have tk : Takes (cxOf (L2.CX P w) P w K mg base ["costs", "c"] "least_cost" (defScope s_least_cost) f cdv A outer s H E) (fun c d _ H => E c d H) := takes_of rfl rfl rfl rfl
  exact ⟨_, (pss_consM (ps_exprM (pe_clM .e d_check_costs bd_check_costs (hr.mono (by omega)) tk (pa_consM (pe_varM rfl (by first | exact .inl rfl | exact .inr (.inl rfl) | exact .inr (.inr rfl))) pa_nilM) (aCons_n aNil_n)))
      (pss_consM (ps_exprM (pe_clM .e d_check_slots bd_check_slots (hr.mono (by omega)) tk (pa_consM (pe_varM rfl (by first | exact .inl rfl | exact .inr (.inl rfl) | exact .inr (.inr rfl))) pa_nilM) (aCons_n aNil_n)))
      (pss_oneM (ps_retM (pe_ixM fit_ix (pe_ixM fit_ix (pe_ixM fit_ix (pe_clM .v d_table_of bd_table_of (hr.mono (by omega)) tk (pa_consM (pe_varM rfl (by first | exact .inl rfl | exact .inr (.inl rfl) | exact .inr (.inr rfl))) (pa_consM (pe_varM rfl (by first | exact .inl rfl | exact .inr (.inl rfl) | exact .inr (.inr rfl))) pa_nilM)) (aCons_n (aCons_n aNil_n))) (pe_unM un_neg fit_neg pe_intM) (fun _ _ => rfl)) pe_intM (fun _ _ => rfl)) (pe_unM un_neg fit_neg pe_intM) (fun _ _ => rfl)))))), h⟩
noncomputable def F_cost_table : Fn := fnOf 0
    ((mSeq (mExpr (callM .e F_check_costs (aCons (eVar 0) aNil)))
      (mSeq (mExpr (callM .e F_check_slots (aCons (eVar 1) aNil)))
      (mRet (callM .v F_table_of (aCons (eVar 0) (aCons (eVar 1) aNil)))))))
theorem df_cost_table {P : Program} {w : World} {K : PySem.W.Frag} {mg : Str → Option Value} {base : Heap} (F : At K mg "cost_table" s_cost_table) (B : Bi mg) (d_check_costs : Df P w K mg base 4 "check_costs" s_check_costs ["costs"] F_check_costs) (d_check_slots : Df P w K mg base 3 "check_slots" s_check_slots ["c"] F_check_slots) (d_table_of : Df P w K mg base 2 "table_of" s_table_of ["costs", "c"] F_table_of) : Df P w K mg base 5 "cost_table" s_cost_table ["costs", "c"] F_cost_table := by
  obtain ⟨f, fd, F, gm⟩ := F
  refine ⟨f, fd, F.okX sc_cost_table (fun vs H Q E h => spM_len h) (fun cdv A outer s H vs Q E hr h => ?_), gm, F⟩
  have h := body_ok (N := ["costs", "c"]) (z := 0) rfl h
  have tk : Takes (cxOf (L2.CX P w) P w K mg base ["costs", "c"] "cost_table" (defScope s_cost_table) f cdv A outer s H E) (fun c d _ H => E c d H) := takes_of rfl rfl rfl rfl
  exact ⟨_, (pss_consM (ps_exprM (pe_clM .e d_check_costs bd_check_costs (hr.mono (by omega)) tk (pa_consM (pe_varM rfl (by first | exact .inl rfl | exact .inr (.inl rfl) | exact .inr (.inr rfl))) pa_nilM) (aCons_n aNil_n)))
      (pss_consM (ps_exprM (pe_clM .e d_check_slots bd_check_slots (hr.mono (by omega)) tk (pa_consM (pe_varM rfl (by first | exact .inl rfl | exact .inr (.inl rfl) | exact .inr (.inr rfl))) pa_nilM) (aCons_n aNil_n)))
      (pss_oneM (ps_retM (pe_clM .v d_table_of bd_table_of (hr.mono (by omega)) tk (pa_consM (pe_varM rfl (by first | exact .inl rfl | exact .inr (.inl rfl) | exact .inr (.inr rfl))) (pa_consM (pe_varM rfl (by first | exact .inl rfl | exact .inr (.inl rfl) | exact .inr (.inr rfl))) pa_nilM)) (aCons_n (aCons_n aNil_n))))))), h⟩
noncomputable def F_are_numbers : Fn := fnOf 2
    ((mSeq (mIf (tOrM (tNotM (tTru (callM .v F_is_list (aCons (eVar 0) aNil)))) (tBl (e2 (eN (aCons (eVar 0) aNil) opLen) (eN (aCons (eVar 1) aNil) opLen) opNeS)))
      (mRet (eC (.bl false)))
      mNext)
      (mRet (eN (aCons (mComp (itZip (aCons (eVar 0) (aCons (eVar 1) aNil))) (tgTup (tgCons (tgName true 2) (tgCons (tgName true 3) tgNil))) mYes (eAnd (callM .v F_is_integer (aCons (eVar 2) aNil)) (e2 (eVar 2) (eVar 3) opEqS)) [2, 3]) aNil) (opBls fun l => l.all id)))))
theorem df_are_numbers {P : Program} {w : World} {K : PySem.W.Frag} {mg : Str → Option Value} {base : Heap} (F : At K mg "are_numbers" s_are_numbers) (B : Bi mg) (d_is_integer : Df P w K mg base 1 "is_integer" s_is_integer ["value"] F_is_integer) (d_is_list : Df P w K mg base 1 "is_list" s_is_list ["value"] F_is_list) : Df P w K mg base 2 "are_numbers" s_are_numbers ["value", "due"] F_are_numbers := by
  obtain ⟨f, fd, F, gm⟩ := F
  refine ⟨f, fd, F.okX sc_are_numbers (fun vs H Q E h => spM_len h) (fun cdv A outer s H vs Q E hr h => ?_), gm, F⟩
  have h := body_ok (N := ["value", "due", "one", "other"]) (z := 2) rfl h
  have tk : Takes (cxOf (L2.CX P w) P w K mg base ["value", "due", "one", "other"] "are_numbers" (defScope s_are_numbers) f cdv A outer s H E) (fun c d _ H => E c d H) := takes_of rfl rfl rfl rfl
  exact ⟨_, (pss_consM (ps_ifM (PW.pt (pt_orM (pt_notM (pt_truM (pe_clM .v d_is_list bd_is_list (hr.mono (by omega)) tk (pa_consM (pe_varM rfl (by first | exact .inl rfl | exact .inr (.inl rfl) | exact .inr (.inr rfl))) pa_nilM) (aCons_n aNil_n)))) (pt_or1M (pt_cmpM op_ne fit_neS (pe_callM cr_len fit_len (by rfl) B.len (by decide +kernel) (pa_consM (pe_varM rfl (by first | exact .inl rfl | exact .inr (.inl rfl) | exact .inr (.inr rfl))) pa_nilM)) (pe_callM cr_len fit_len (by rfl) B.len (by decide +kernel) (pa_consM (pe_varM rfl (by first | exact .inl rfl | exact .inr (.inl rfl) | exact .inr (.inr rfl))) pa_nilM)) (nomark _)))))
      (pss_oneM (ps_retM pe_blM))
      pss_nilM)
      (pss_oneM (ps_retM (pe_callM (cr_allM rfl) fit_all (by rfl) B.all (by decide +kernel) (pa_consM (pe_lcM (js := [2, 3]) rfl sc_are_numbers.nd (pi_zipMM (by rfl) B.zip (pa_consM (pe_varM rfl (by first | exact .inl rfl | exact .inr (.inl rfl) | exact .inr (.inr rfl))) (pa_consM (pe_varM rfl (by first | exact .inl rfl | exact .inr (.inl rfl) | exact .inr (.inr rfl))) pa_nilM))) (blkOk_by (own := [("one", 2), ("other", 3)]) (N := ["value", "due", "one", "other"]) (sc := defScope s_are_numbers) (by decide +kernel)) (fun _ _ _ _ _ => ((pg_tupM rfl (pgs_consM (pg_nameM true sc_are_numbers.nd rfl (Or.inl rfl)) (pgs_consM (pg_nameM true sc_are_numbers.nd rfl (Or.inl rfl)) pgs_nilM)) (tgCons_n (tgCons_n tgNil_n))))) (fun _ _ _ _ _ => (pts_nilM)) (fun _ _ _ _ _ => ((pe_andM (pe_clM .v d_is_integer bd_is_integer (hr.mono (by omega)) takes0W (pa_consM (pe_varM rfl (by first | exact .inl rfl | exact .inr (.inl rfl) | exact .inr (.inr rfl))) pa_nilM) (aCons_n aNil_n)) (pe_oneM (pe_cmpM op_eq fit_eqS (pe_varM rfl (by first | exact .inl rfl | exact .inr (.inl rfl) | exact .inr (.inr rfl))) (pe_varM rfl (by first | exact .inl rfl | exact .inr (.inl rfl) | exact .inr (.inr rfl))) (nomark _)))))) (by decide)) pa_nilM))))), h⟩
noncomputable def F_are_rows : Fn := fnOf 2
    ((mSeq (mIf (tOrM (tNotM (tTru (callM .v F_is_list (aCons (eVar 0) aNil)))) (tBl (e2 (eN (aCons (eVar 0) aNil) opLen) (eN (aCons (eVar 1) aNil) opLen) opNeS)))
      (mRet (eC (.bl false)))
      mNext)
      (mRet (eN (aCons (mComp (itZip (aCons (eVar 0) (aCons (eVar 1) aNil))) (tgTup (tgCons (tgName true 2) (tgCons (tgName true 3) tgNil))) mYes (callM .v F_are_numbers (aCons (eVar 2) (aCons (eVar 3) aNil))) [2, 3]) aNil) (opBls fun l => l.all id)))))
theorem df_are_rows {P : Program} {w : World} {K : PySem.W.Frag} {mg : Str → Option Value} {base : Heap} (F : At K mg "are_rows" s_are_rows) (B : Bi mg) (d_are_numbers : Df P w K mg base 2 "are_numbers" s_are_numbers ["value", "due"] F_are_numbers) (d_is_list : Df P w K mg base 1 "is_list" s_is_list ["value"] F_is_list) : Df P w K mg base 3 "are_rows" s_are_rows ["value", "due"] F_are_rows := by
  obtain ⟨f, fd, F, gm⟩ := F
  refine ⟨f, fd, F.okX sc_are_rows (fun vs H Q E h => spM_len h) (fun cdv A outer s H vs Q E hr h => ?_), gm, F⟩
  have h := body_ok (N := ["value", "due", "row", "other"]) (z := 2) rfl h
  have tk : Takes (cxOf (L2.CX P w) P w K mg base ["value", "due", "row", "other"] "are_rows" (defScope s_are_rows) f cdv A outer s H E) (fun c d _ H => E c d H) := takes_of rfl rfl rfl rfl
  exact ⟨_, (pss_consM (ps_ifM (PW.pt (pt_orM (pt_notM (pt_truM (pe_clM .v d_is_list bd_is_list (hr.mono (by omega)) tk (pa_consM (pe_varM rfl (by first | exact .inl rfl | exact .inr (.inl rfl) | exact .inr (.inr rfl))) pa_nilM) (aCons_n aNil_n)))) (pt_or1M (pt_cmpM op_ne fit_neS (pe_callM cr_len fit_len (by rfl) B.len (by decide +kernel) (pa_consM (pe_varM rfl (by first | exact .inl rfl | exact .inr (.inl rfl) | exact .inr (.inr rfl))) pa_nilM)) (pe_callM cr_len fit_len (by rfl) B.len (by decide +kernel) (pa_consM (pe_varM rfl (by first | exact .inl rfl | exact .inr (.inl rfl) | exact .inr (.inr rfl))) pa_nilM)) (nomark _)))))
      (pss_oneM (ps_retM pe_blM))
      pss_nilM)
      (pss_oneM (ps_retM (pe_callM (cr_allM rfl) fit_all (by rfl) B.all (by decide +kernel) (pa_consM (pe_lcM (js := [2, 3]) rfl sc_are_rows.nd (pi_zipMM (by rfl) B.zip (pa_consM (pe_varM rfl (by first | exact .inl rfl | exact .inr (.inl rfl) | exact .inr (.inr rfl))) (pa_consM (pe_varM rfl (by first | exact .inl rfl | exact .inr (.inl rfl) | exact .inr (.inr rfl))) pa_nilM))) (blkOk_by (own := [("row", 2), ("other", 3)]) (N := ["value", "due", "row", "other"]) (sc := defScope s_are_rows) (by decide +kernel)) (fun _ _ _ _ _ => ((pg_tupM rfl (pgs_consM (pg_nameM true sc_are_rows.nd rfl (Or.inl rfl)) (pgs_consM (pg_nameM true sc_are_rows.nd rfl (Or.inl rfl)) pgs_nilM)) (tgCons_n (tgCons_n tgNil_n))))) (fun _ _ _ _ _ => (pts_nilM)) (fun _ _ _ _ _ => ((pe_clM .v d_are_numbers bd_are_numbers (hr.mono (by omega)) takes0W (pa_consM (pe_varM rfl (by first | exact .inl rfl | exact .inr (.inl rfl) | exact .inr (.inr rfl))) (pa_consM (pe_varM rfl (by first | exact .inl rfl | exact .inr (.inl rfl) | exact .inr (.inr rfl))) pa_nilM)) (aCons_n (aCons_n aNil_n))))) (by decide)) pa_nilM))))), h⟩
noncomputable def F_is_cost_table : Fn := fnOf 3
    ((mSeq (mExpr (callM .e F_check_costs (aCons (eVar 0) aNil)))
      (mSeq (mExpr (callM .e F_check_slots (aCons (eVar 1) aNil)))
      (mSeq (mSet true 3 (callM .v F_table_of (aCons (eVar 0) (aCons (eVar 1) aNil))))
      (mSeq (mIf (tOrM (tNotM (tTru (callM .v F_is_list (aCons (eVar 2) aNil)))) (tBl (e2 (eN (aCons (eVar 2) aNil) opLen) (eN (aCons (eVar 3) aNil) opLen) opNeS)))
      (mRet (eC (.bl false)))
      mNext)
      (mRet (eN (aCons (mComp (itZip (aCons (eVar 2) (aCons (eVar 3) aNil))) (tgTup (tgCons (tgName true 4) (tgCons (tgName true 5) tgNil))) mYes (callM .v F_are_rows (aCons (eVar 4) (aCons (eVar 5) aNil))) [4, 5]) aNil) (opBls fun l => l.all id))))))))
theorem df_is_cost_table {P : Program} {w : World} {K : PySem.W.Frag} {mg : Str → Option Value} {base : Heap} (F : At K mg "is_cost_table" s_is_cost_table) (B : Bi mg) (d_are_rows : Df P w K mg base 3 "are_rows" s_are_rows ["value", "due"] F_are_rows) (d_check_costs : Df P w K mg base 4 "check_costs" s_check_costs ["costs"] F_check_costs) (d_check_slots : Df P w K mg base 3 "check_slots" s_check_slots ["c"] F_check_slots) (d_is_list : Df P w K mg base 1 "is_list" s_is_list ["value"] F_is_list) (d_table_of : Df P w K mg base 2 "table_of" s_table_of ["costs", "c"] F_table_of) : Df P w K mg base 5 "is_cost_table" s_is_cost_table ["costs", "c", "value"] F_is_cost_table := by
  obtain ⟨f, fd, F, gm⟩ := F
  refine ⟨f, fd, F.okX sc_is_cost_table (fun vs H Q E h => spM_len h) (fun cdv A outer s H vs Q E hr h => ?_), gm, F⟩
  have h := body_ok (N := ["costs", "c", "value", "due", "rows", "others"]) (z := 3) rfl h
  have tk : Takes (cxOf (L2.CX P w) P w K mg base ["costs", "c", "value", "due", "rows", "others"] "is_cost_table" (defScope s_is_cost_table) f cdv A outer s H E) (fun c d _ H => E c d H) := takes_of rfl rfl rfl rfl
  exact ⟨_, (pss_consM (ps_exprM (pe_clM .e d_check_costs bd_check_costs (hr.mono (by omega)) tk (pa_consM (pe_varM rfl (by first | exact .inl rfl | exact .inr (.inl rfl) | exact .inr (.inr rfl))) pa_nilM) (aCons_n aNil_n)))
      (pss_consM (ps_exprM (pe_clM .e d_check_slots bd_check_slots (hr.mono (by omega)) tk (pa_consM (pe_varM rfl (by first | exact .inl rfl | exact .inr (.inl rfl) | exact .inr (.inr rfl))) pa_nilM) (aCons_n aNil_n)))
      (pss_consM (ps_setM true sc_is_cost_table.nd rfl (Or.inl rfl) (pe_clM .v d_table_of bd_table_of (hr.mono (by omega)) tk (pa_consM (pe_varM rfl (by first | exact .inl rfl | exact .inr (.inl rfl) | exact .inr (.inr rfl))) (pa_consM (pe_varM rfl (by first | exact .inl rfl | exact .inr (.inl rfl) | exact .inr (.inr rfl))) pa_nilM)) (aCons_n (aCons_n aNil_n))))
      (pss_consM (ps_ifM (PW.pt (pt_orM (pt_notM (pt_truM (pe_clM .v d_is_list bd_is_list (hr.mono (by omega)) tk (pa_consM (pe_varM rfl (by first | exact .inl rfl | exact .inr (.inl rfl) | exact .inr (.inr rfl))) pa_nilM) (aCons_n aNil_n)))) (pt_or1M (pt_cmpM op_ne fit_neS (pe_callM cr_len fit_len (by rfl) B.len (by decide +kernel) (pa_consM (pe_varM rfl (by first | exact .inl rfl | exact .inr (.inl rfl) | exact .inr (.inr rfl))) pa_nilM)) (pe_callM cr_len fit_len (by rfl) B.len (by decide +kernel) (pa_consM (pe_varM rfl (by first | exact .inl rfl | exact .inr (.inl rfl) | exact .inr (.inr rfl))) pa_nilM)) (nomark _)))))
      (pss_oneM (ps_retM pe_blM))
      pss_nilM)
      (pss_oneM (ps_retM (pe_callM (cr_allM rfl) fit_all (by rfl) B.all (by decide +kernel) (pa_consM (pe_lcM (js := [4, 5]) rfl sc_is_cost_table.nd (pi_zipMM (by rfl) B.zip (pa_consM (pe_varM rfl (by first | exact .inl rfl | exact .inr (.inl rfl) | exact .inr (.inr rfl))) (pa_consM (pe_varM rfl (by first | exact .inl rfl | exact .inr (.inl rfl) | exact .inr (.inr rfl))) pa_nilM))) (blkOk_by (own := [("rows", 4), ("others", 5)]) (N := ["costs", "c", "value", "due", "rows", "others"]) (sc := defScope s_is_cost_table) (by decide +kernel)) (fun _ _ _ _ _ => ((pg_tupM rfl (pgs_consM (pg_nameM true sc_is_cost_table.nd rfl (Or.inl rfl)) (pgs_consM (pg_nameM true sc_is_cost_table.nd rfl (Or.inl rfl)) pgs_nilM)) (tgCons_n (tgCons_n tgNil_n))))) (fun _ _ _ _ _ => (pts_nilM)) (fun _ _ _ _ _ => ((pe_clM .v d_are_rows bd_are_rows (hr.mono (by omega)) takes0W (pa_consM (pe_varM rfl (by first | exact .inl rfl | exact .inr (.inl rfl) | exact .inr (.inr rfl))) (pa_consM (pe_varM rfl (by first | exact .inl rfl | exact .inr (.inl rfl) | exact .inr (.inr rfl))) pa_nilM)) (aCons_n (aCons_n aNil_n))))) (by decide)) pa_nilM)))))))), h⟩
noncomputable def F__law_cell : Fn := fnOf 0
    ((mRet (eIf (tBl (e2 (eVar 1) (eN (aCons (eVar 0) aNil) opLen) (opII (gB fun i j => decide (i < j))))) (e2 (eVar 0) (eVar 1) opIx) (e2 (e2 (eC (.int 9007)) (eVar 1) (opII (gIc CMulW (· * ·)))) (e2 (eN (aCons (eN (aCons (eSl (eVar 0) pNo (pSo (eC (.int 1)))) aNil) (opInts fun l => some (.int l.sum))) aNil) opInt) (eC (.int 1000003)) (opII (gIc (fun _ j => j ≠ 0) Int.fmod))) (opII (gI (· + ·)))))))
theorem df__law_cell {P : Program} {w : World} {K : PySem.W.Frag} {mg : Str → Option Value} {base : Heap} (F : At K mg "_law_cell" s__law_cell) (B : Bi mg) : Df P w K mg base 1 "_law_cell" s__law_cell ["script", "k"] F__law_cell := by
  obtain ⟨f, fd, F, gm⟩ := F
  refine ⟨f, fd, F.okX sc__law_cell (fun vs H Q E h => spM_len h) (fun cdv A outer s H vs Q E hr h => ?_), gm, F⟩
  have h := body_ok (N := ["script", "k"]) (z := 0) rfl h
  have tk : Takes (cxOf (L2.CX P w) P w K mg base ["script", "k"] "_law_cell" (defScope s__law_cell) f cdv A outer s H E) (fun c d _ H => E c d H) := takes_of rfl rfl rfl rfl
  exact ⟨_, (pss_oneM (ps_retM (pe_ifM (pt_cmpM op_lt fit_B0 (pe_varM rfl (by first | exact .inl rfl | exact .inr (.inl rfl) | exact .inr (.inr rfl))) (pe_callM cr_len fit_len (by rfl) B.len (by decide +kernel) (pa_consM (pe_varM rfl (by first | exact .inl rfl | exact .inr (.inl rfl) | exact .inr (.inr rfl))) pa_nilM)) (nomark _)) (pe_ixM fit_ix (pe_varM rfl (by first | exact .inl rfl | exact .inr (.inl rfl) | exact .inr (.inr rfl))) (pe_varM rfl (by first | exact .inl rfl | exact .inr (.inl rfl) | exact .inr (.inr rfl))) (fun _ _ => rfl)) (pe_opM op_add fit_I0 (pe_opM op_mulW fit_Ic pe_intM (pe_varM rfl (by first | exact .inl rfl | exact .inr (.inl rfl) | exact .inr (.inr rfl)))) (pe_opM op_modN fit_Ic (pe_callTyM call_int1 fit_int (by rfl) B.int (by decide +kernel) (pa_consM (pe_callM (cr_sumM rfl) fit_sum (by rfl) B.sum (by decide +kernel) (pa_consM (pe_slM (pe_varM rfl (by first | exact .inl rfl | exact .inr (.inl rfl) | exact .inr (.inr rfl))) po_none (po_some pe_intM) pr_no pr_so) pa_nilM)) pa_nilM)) pe_intM))))), h⟩
noncomputable def F__law_box : Fn := fnOf 0
    ((mRet (eN (aCons (eN (aCons (eVar 0) aNil) opAbs) (aCons (e2 (eN (aCons (eVar 0) aNil) opAbs) (e2 (eC (.int 10)) (eC (.int 18)) (opII (gIc CPow fun i j => i ^ j.toNat))) (opII (gB fun i j => decide (j ≤ i)))) (aCons (e2 (eN (aCons (eN (aCons (eVar 0) aNil) opAbs) aNil) opInt) (eC (.int 2147483629)) (opII (gIc (fun _ j => j ≠ 0) Int.fmod))) (aCons (eC (.int 0)) aNil)))) opLst)))
theorem df__law_box {P : Program} {w : World} {K : PySem.W.Frag} {mg : Str → Option Value} {base : Heap} (F : At K mg "_law_box" s__law_box) (B : Bi mg) : Df P w K mg base 1 "_law_box" s__law_box ["great"] F__law_box := by
  obtain ⟨f, fd, F, gm⟩ := F
  refine ⟨f, fd, F.okX sc__law_box (fun vs H Q E h => spM_len h) (fun cdv A outer s H vs Q E hr h => ?_), gm, F⟩
  have h := body_ok (N := ["great"]) (z := 0) rfl h
  have tk : Takes (cxOf (L2.CX P w) P w K mg base ["great"] "_law_box" (defScope s__law_box) f cdv A outer s H E) (fun c d _ H => E c d H) := takes_of rfl rfl rfl rfl
  exact ⟨_, (pss_oneM (ps_retM (pe_lstM (pa_consM (pe_callM call_abs fit_abs (by rfl) B.abs (by decide +kernel) (pa_consM (pe_varM rfl (by first | exact .inl rfl | exact .inr (.inl rfl) | exact .inr (.inr rfl))) pa_nilM)) (pa_consM (pe_cmpM op_ge fit_B0 (pe_callM call_abs fit_abs (by rfl) B.abs (by decide +kernel) (pa_consM (pe_varM rfl (by first | exact .inl rfl | exact .inr (.inl rfl) | exact .inr (.inr rfl))) pa_nilM)) (pe_opM op_pow fit_Ic pe_intM pe_intM) (nomark _)) (pa_consM (pe_opM op_modN fit_Ic (pe_callTyM call_int1 fit_int (by rfl) B.int (by decide +kernel) (pa_consM (pe_callM call_abs fit_abs (by rfl) B.abs (by decide +kernel) (pa_consM (pe_varM rfl (by first | exact .inl rfl | exact .inr (.inl rfl) | exact .inr (.inr rfl))) pa_nilM)) pa_nilM)) pe_intM) (pa_consM pe_intM pa_nilM))))))), h⟩
noncomputable def F__law_take : Fn := fnOf 2
    ((mSeq (mIf (tAndM (tTru (e2 (eVar 0) (eC (.int 1)) opIx)) (tBl (e2 (e2 (eVar 0) (eC (.int 0)) opIx) (eC (.int 0)) (opII (gB fun i j => decide (j < i))))))
      (mSeq (mSet true 2 (e2 (eN (aCons (e2 (eVar 0) (eC (.int 0)) opIx) aNil) opInt) (eVar 1) (opII (gIc (fun _ j => j ≠ 0) Int.fmod))))
      (mSeq (mSetIx (e2 (eN (aCons (e2 (eVar 0) (eC (.int 0)) opIx) aNil) opInt) (eVar 1) (opII (gIc CDivN Int.fdiv))) (plVar 0) (eC (.int 0)))
      (mRet (eVar 2))))
      mNext)
      (mSeq (mSetIx (e2 (e2 (eVar 0) (eC (.int 3)) opIx) (eC (.int 1)) (opII (gI (· + ·)))) (plVar 0) (eC (.int 3)))
      (mSeq (mSet true 3 (e2 (eN (aCons (e2 (e2 (e2 (e2 (eVar 0) (eC (.int 2)) opIx) (e2 (eC (.int 15490139)) (e2 (eVar 0) (eC (.int 3)) opIx) (opII (gIc CMulW (· * ·)))) (opII (gI (· + ·)))) (eC (.int 179426587)) (opII (gI (· + ·)))) (eC (.int 5)) (opII (gIc CPow fun i j => i ^ j.toNat))) aNil) opInt) (eC (.int 2147483647)) (opII (gIc (fun _ j => j ≠ 0) Int.fmod))))
      (mRet (e2 (eN (aCons (e2 (e2 (eN (aCons (e2 (e2 (e2 (eVar 3) (eC (.int 48271)) (opII (gIc CMulW (· * ·)))) (e2 (eC (.int 104933)) (e2 (eVar 0) (eC (.int 3)) opIx) (opII (gIc CMulW (· * ·)))) (opII (gI (· + ·)))) (eC (.int 3)) (opII (gIc CPow fun i j => i ^ j.toNat))) aNil) opInt) (eC (.int 2147483587)) (opII (gIc (fun _ j => j ≠ 0) Int.fmod))) (eC (.int 64)) (opII (gIc CDivN Int.fdiv))) aNil) opInt) (eVar 1) (opII (gIc (fun _ j => j ≠ 0) Int.fmod))))))))
theorem df__law_take {P : Program} {w : World} {K : PySem.W.Frag} {mg : Str → Option Value} {base : Heap} (F : At K mg "_law_take" s__law_take) (B : Bi mg) : Df P w K mg base 1 "_law_take" s__law_take ["box", "many"] F__law_take := by
  obtain ⟨f, fd, F, gm⟩ := F
  refine ⟨f, fd, F.okX sc__law_take (fun vs H Q E h => spM_len h) (fun cdv A outer s H vs Q E hr h => ?_), gm, F⟩
  have h := body_ok (N := ["box", "many", "digit", "mixed"]) (z := 2) rfl h
  have tk : Takes (cxOf (L2.CX P w) P w K mg base ["box", "many", "digit", "mixed"] "_law_take" (defScope s__law_take) f cdv A outer s H E) (fun c d _ H => E c d H) := takes_of rfl rfl rfl rfl
  exact ⟨_, (pss_consM (ps_ifM (PW.pt (pt_andM (pt_truM (pe_ixM fit_ix (pe_varM rfl (by first | exact .inl rfl | exact .inr (.inl rfl) | exact .inr (.inr rfl))) pe_intM (fun _ _ => rfl))) (pt_and1M (pt_cmpM op_gt fit_B0 (pe_ixM fit_ix (pe_varM rfl (by first | exact .inl rfl | exact .inr (.inl rfl) | exact .inr (.inr rfl))) pe_intM (fun _ _ => rfl)) pe_intM (nomark _)))))
      (pss_consM (ps_setM true sc__law_take.nd rfl (Or.inl rfl) (pe_opM op_modN fit_Ic (pe_callTyM call_int1 fit_int (by rfl) B.int (by decide +kernel) (pa_consM (pe_ixM fit_ix (pe_varM rfl (by first | exact .inl rfl | exact .inr (.inl rfl) | exact .inr (.inr rfl))) pe_intM (fun _ _ => rfl)) pa_nilM)) (pe_varM rfl (by first | exact .inl rfl | exact .inr (.inl rfl) | exact .inr (.inr rfl)))))
      (pss_consM (ps_setIxM (pe_opM op_fdivN fit_Ic (pe_callTyM call_int1 fit_int (by rfl) B.int (by decide +kernel) (pa_consM (pe_ixM fit_ix (pe_varM rfl (by first | exact .inl rfl | exact .inr (.inl rfl) | exact .inr (.inr rfl))) pe_intM (fun _ _ => rfl)) pa_nilM)) (pe_varM rfl (by first | exact .inl rfl | exact .inr (.inl rfl) | exact .inr (.inr rfl)))) pl_var (pe_var rfl (by first | exact .inl rfl | exact .inr (.inl rfl) | exact .inr (.inr rfl))) pe_intM)
      (pss_oneM (ps_retM (pe_varM rfl (by first | exact .inl rfl | exact .inr (.inl rfl) | exact .inr (.inr rfl)))))))
      pss_nilM)
      (pss_consM (ps_setIxM (pe_opM op_add fit_I0 (pe_ixM fit_ix (pe_varM rfl (by first | exact .inl rfl | exact .inr (.inl rfl) | exact .inr (.inr rfl))) pe_intM (fun _ _ => rfl)) pe_intM) pl_var (pe_var rfl (by first | exact .inl rfl | exact .inr (.inl rfl) | exact .inr (.inr rfl))) pe_intM)
      (pss_consM (ps_setM true sc__law_take.nd rfl (Or.inl rfl) (pe_opM op_modN fit_Ic (pe_callTyM call_int1 fit_int (by rfl) B.int (by decide +kernel) (pa_consM (pe_opM op_pow fit_Ic (pe_opM op_add fit_I0 (pe_opM op_add fit_I0 (pe_ixM fit_ix (pe_varM rfl (by first | exact .inl rfl | exact .inr (.inl rfl) | exact .inr (.inr rfl))) pe_intM (fun _ _ => rfl)) (pe_opM op_mulW fit_Ic pe_intM (pe_ixM fit_ix (pe_varM rfl (by first | exact .inl rfl | exact .inr (.inl rfl) | exact .inr (.inr rfl))) pe_intM (fun _ _ => rfl)))) pe_intM) pe_intM) pa_nilM)) pe_intM))
      (pss_oneM (ps_retM (pe_opM op_modN fit_Ic (pe_callTyM call_int1 fit_int (by rfl) B.int (by decide +kernel) (pa_consM (pe_opM op_fdivN fit_Ic (pe_opM op_modN fit_Ic (pe_callTyM call_int1 fit_int (by rfl) B.int (by decide +kernel) (pa_consM (pe_opM op_pow fit_Ic (pe_opM op_add fit_I0 (pe_opM op_mulW fit_Ic (pe_varM rfl (by first | exact .inl rfl | exact .inr (.inl rfl) | exact .inr (.inr rfl))) pe_intM) (pe_opM op_mulW fit_Ic pe_intM (pe_ixM fit_ix (pe_varM rfl (by first | exact .inl rfl | exact .inr (.inl rfl) | exact .inr (.inr rfl))) pe_intM (fun _ _ => rfl)))) pe_intM) pa_nilM)) pe_intM) pe_intM) pa_nilM)) (pe_varM rfl (by first | exact .inl rfl | exact .inr (.inl rfl) | exact .inr (.inr rfl))))))))), h⟩
noncomputable def F__law_table : Fn := fnOf 9
    ((mSeq (mAsg (eN (aCons (eN (aCons (eVar 0) aNil) opLen) (aCons (eN aNil opLst) aNil)) opTup) (tgTup (tgCons (tgName true 2) (tgCons (tgName false 3) tgNil))))
      (mSeq (mFor (itRng1 (aCons (eVar 1) aNil)) (tgName true 4) [4, 5, 6, 8]
      (mSeq (mSet false 5 (mComp (itRng1 (aCons (eVar 2) aNil)) (tgName true 7) mYes (e2 (eN (aCons (eC (.int 0)) aNil) opLst) (e2 (eVar 2) (eVar 7) (opII (gI (· - ·)))) opRep) [7]))
      (mSeq (mFor (itRng2 (aCons (eC (.int 2)) (aCons (e2 (eVar 2) (eC (.int 1)) (opII (gI (· + ·)))) aNil))) (tgName true 6) [6, 8]
      (mFor (itRng1 (aCons (e2 (e2 (eVar 2) (eVar 6) (opII (gI (· - ·)))) (eC (.int 1)) (opII (gI (· + ·)))) aNil)) (tgName true 7) [8]
      (mIf (tBl (e2 (eVar 4) (eC (.int 0)) opEqS))
      (mSetIx (eN (aCons (mComp (itRng1 (aCons (e2 (eVar 6) (eC (.int 1)) (opII (gI (· - ·)))) aNil)) (tgName true 9) mYes (e2 (e2 (eVar 0) (e2 (eVar 7) (eVar 9) (opII (gI (· + ·)))) opIx) (e2 (e2 (eVar 6) (eC (.int 1)) (opII (gI (· - ·)))) (eVar 9) (opII (gI (· - ·)))) (opII (gIc CMulW (· * ·)))) [9]) aNil) (opInts fun l => some (.int l.sum))) (plIx (plVar 5) (eVar 7)) (e2 (eVar 6) (eC (.int 1)) (opII (gI (· - ·)))))
      (mSeq (mSet true 8 (mComp (itRng2 (aCons (eC (.int 1)) (aCons (eVar 6) aNil))) (tgName true 10) mYes (e2 (e2 (eN (aCons (eSl (eVar 0) (pSo (eVar 7)) (pSo (e2 (eVar 7) (eVar 10) (opII (gI (· + ·)))))) aNil) (opInts fun l => some (.int l.sum))) (e2 (e2 (e2 (eVar 3) (e2 (eVar 4) (eC (.int 1)) (opII (gI (· - ·)))) opIx) (e2 (eVar 7) (eVar 10) (opII (gI (· + ·)))) opIx) (e2 (e2 (eVar 6) (eVar 10) (opII (gI (· - ·)))) (eC (.int 1)) (opII (gI (· - ·)))) opIx) (opII (gI (· + ·)))) (e2 (e2 (eVar 5) (eVar 7) opIx) (e2 (eVar 10) (eC (.int 1)) (opII (gI (· - ·)))) opIx) (opII (gI (· + ·)))) [10]))
      (mSetIx (eN (aCons (eVar 8) aNil) (opInts minL)) (plIx (plVar 5) (eVar 7)) (e2 (eVar 6) (eC (.int 1)) (opII (gI (· - ·)))))))))
      (mExpr (eMut (plVar 3) (aCons (eMv 5) aNil) uApp)))))
      (mRetV 3))))
theorem df__law_table {P : Program} {w : World} {K : PySem.W.Frag} {mg : Str → Option Value} {base : Heap} (F : At K mg "_law_table" s__law_table) (B : Bi mg) : Df P w K mg base 1 "_law_table" s__law_table ["costs", "c"] F__law_table := by
  obtain ⟨f, fd, F, gm⟩ := F
  refine ⟨f, fd, F.okX sc__law_table (fun vs H Q E h => spM_len h) (fun cdv A outer s H vs Q E hr h => ?_), gm, F⟩
  have h := body_ok (N := ["costs", "c", "many", "found", "slots", "rows", "size", "first", "sums", "k", "part"]) (z := 9) rfl h
  have tk : Takes (cxOf (L2.CX P w) P w K mg base ["costs", "c", "many", "found", "slots", "rows", "size", "first", "sums", "k", "part"] "_law_table" (defScope s__law_table) f cdv A outer s H E) (fun c d _ H => E c d H) := takes_of rfl rfl rfl rfl
  exact ⟨_, (pss_consM (ps_asgM (pe_tupM (pa_consM (pe_callM cr_len fit_len (by rfl) B.len (by decide +kernel) (pa_consM (pe_varM rfl (by first | exact .inl rfl | exact .inr (.inl rfl) | exact .inr (.inr rfl))) pa_nilM)) (pa_consM (pe_lstM pa_nilM) pa_nilM))) (pg_tupM rfl (pgs_consM (pg_nameM true sc__law_table.nd rfl (Or.inr rfl)) (pgs_consM (pg_nameM false sc__law_table.nd rfl (Or.inr rfl)) pgs_nilM)) (tgCons_n (tgCons_n tgNil_n))))
      (pss_consM (ps_forM [4, 5, 6, 8] (passes_of rfl) rfl (pi_rng1M (by rfl) B.range (pa_consM (pe_varM rfl (by first | exact .inl rfl | exact .inr (.inl rfl) | exact .inr (.inr rfl))) pa_nilM)) (pg_nameM true sc__law_table.nd rfl (Or.inr rfl))
      (pss_consM (ps_setM false sc__law_table.nd rfl (Or.inr rfl) (pe_lcM (js := [7]) rfl sc__law_table.nd (pi_rng1M (by rfl) B.range (pa_consM (pe_varM rfl (by first | exact .inl rfl | exact .inr (.inl rfl) | exact .inr (.inr rfl))) pa_nilM)) (blkOk_by (own := [("first", 7)]) (N := ["costs", "c", "many", "found", "slots", "rows", "size", "first", "sums", "k", "part"]) (sc := defScope s__law_table) (by decide +kernel)) (fun _ _ _ _ _ => ((pg_nameM true sc__law_table.nd rfl (Or.inl rfl)))) (fun _ _ _ _ _ => (pts_nilM)) (fun _ _ _ _ _ => ((pe_opM op_rep fit_rep (pe_lstM (pa_consM pe_intM pa_nilM)) (pe_opM op_sub fit_I0 (pe_varM rfl (by first | exact .inl rfl | exact .inr (.inl rfl) | exact .inr (.inr rfl))) (pe_varM rfl (by first | exact .inl rfl | exact .inr (.inl rfl) | exact .inr (.inr rfl))))))) (by decide)))
      (pss_consM (ps_forM [6, 8] (passes_of rfl) rfl (pi_rng2M (by rfl) B.range (pa_consM pe_intM (pa_consM (pe_opM op_add fit_I0 (pe_varM rfl (by first | exact .inl rfl | exact .inr (.inl rfl) | exact .inr (.inr rfl))) pe_intM) pa_nilM))) (pg_nameM true sc__law_table.nd rfl (Or.inr rfl))
      (pss_oneM (ps_forM [8] (passes_of rfl) rfl (pi_rng1M (by rfl) B.range (pa_consM (pe_opM op_add fit_I0 (pe_opM op_sub fit_I0 (pe_varM rfl (by first | exact .inl rfl | exact .inr (.inl rfl) | exact .inr (.inr rfl))) (pe_varM rfl (by first | exact .inl rfl | exact .inr (.inl rfl) | exact .inr (.inr rfl)))) pe_intM) pa_nilM)) (pg_nameM true sc__law_table.nd rfl (Or.inr rfl))
      (pss_oneM (ps_ifM (pt_cmpM op_eq fit_eqS (pe_varM rfl (by first | exact .inl rfl | exact .inr (.inl rfl) | exact .inr (.inr rfl))) pe_intM (nomark _))
      (pss_oneM (ps_setIxM (pe_callM (cr_sumM rfl) fit_sum (by rfl) B.sum (by decide +kernel) (pa_consM (pe_lcM (js := [9]) rfl sc__law_table.nd (pi_rng1M (by rfl) B.range (pa_consM (pe_opM op_sub fit_I0 (pe_varM rfl (by first | exact .inl rfl | exact .inr (.inl rfl) | exact .inr (.inr rfl))) pe_intM) pa_nilM)) (blkOk_by (own := [("k", 9)]) (N := ["costs", "c", "many", "found", "slots", "rows", "size", "first", "sums", "k", "part"]) (sc := defScope s__law_table) (by decide +kernel)) (fun _ _ _ _ _ => ((pg_nameM true sc__law_table.nd rfl (Or.inl rfl)))) (fun _ _ _ _ _ => (pts_nilM)) (fun _ _ _ _ _ => ((pe_opM op_mulW fit_Ic (pe_ixM fit_ix (pe_varM rfl (by first | exact .inl rfl | exact .inr (.inl rfl) | exact .inr (.inr rfl))) (pe_opM op_add fit_I0 (pe_varM rfl (by first | exact .inl rfl | exact .inr (.inl rfl) | exact .inr (.inr rfl))) (pe_varM rfl (by first | exact .inl rfl | exact .inr (.inl rfl) | exact .inr (.inr rfl)))) (fun _ _ => rfl)) (pe_opM op_sub fit_I0 (pe_opM op_sub fit_I0 (pe_varM rfl (by first | exact .inl rfl | exact .inr (.inl rfl) | exact .inr (.inr rfl))) pe_intM) (pe_varM rfl (by first | exact .inl rfl | exact .inr (.inl rfl) | exact .inr (.inr rfl))))))) (by decide)) pa_nilM)) (pl_ix pl_var) (pe_ix (cr_ix ⟨K, mg, none⟩) (pe_var rfl (by first | exact .inl rfl | exact .inr (.inl rfl) | exact .inr (.inr rfl))) (pe_varM rfl (by first | exact .inl rfl | exact .inr (.inl rfl) | exact .inr (.inr rfl))) (fun _ _ => rfl)) (pe_opM op_sub fit_I0 (pe_varM rfl (by first | exact .inl rfl | exact .inr (.inl rfl) | exact .inr (.inr rfl))) pe_intM)))
      (pss_consM (ps_setLcM true (i := 8) (js := [10]) rfl sc__law_table.nd rfl rfl (sw_true rfl rfl rfl (by decide +kernel)) (pi_rng2M (by rfl) B.range (pa_consM pe_intM (pa_consM (pe_varM rfl (by first | exact .inl rfl | exact .inr (.inl rfl) | exact .inr (.inr rfl))) pa_nilM))) (blkOk_by (own := [("part", 10)]) (N := ["costs", "c", "many", "found", "slots", "rows", "size", "first", "sums", "k", "part"]) (sc := defScope s__law_table) (by decide +kernel)) (fun _ _ _ _ _ => ((pg_nameM true sc__law_table.nd rfl (Or.inl rfl)))) (fun _ _ _ _ _ => (pts_nilM)) (fun _ _ _ _ _ => ((pe_opM op_add fit_I0 (pe_opM op_add fit_I0 (pe_callM (cr_sumM rfl) fit_sum (by rfl) B.sum (by decide +kernel) (pa_consM (pe_slM (pe_varM rfl (by first | exact .inl rfl | exact .inr (.inl rfl) | exact .inr (.inr rfl))) (po_some (pe_varM rfl (by first | exact .inl rfl | exact .inr (.inl rfl) | exact .inr (.inr rfl)))) (po_some (pe_opM op_add fit_I0 (pe_varM rfl (by first | exact .inl rfl | exact .inr (.inl rfl) | exact .inr (.inr rfl))) (pe_varM rfl (by first | exact .inl rfl | exact .inr (.inl rfl) | exact .inr (.inr rfl))))) pr_so pr_so) pa_nilM)) (pe_ixM fit_ix (pe_ixM fit_ix (pe_ixM fit_ix (pe_varM rfl (by first | exact .inl rfl | exact .inr (.inl rfl) | exact .inr (.inr rfl))) (pe_opM op_sub fit_I0 (pe_varM rfl (by first | exact .inl rfl | exact .inr (.inl rfl) | exact .inr (.inr rfl))) pe_intM) (fun _ _ => rfl)) (pe_opM op_add fit_I0 (pe_varM rfl (by first | exact .inl rfl | exact .inr (.inl rfl) | exact .inr (.inr rfl))) (pe_varM rfl (by first | exact .inl rfl | exact .inr (.inl rfl) | exact .inr (.inr rfl)))) (fun _ _ => rfl)) (pe_opM op_sub fit_I0 (pe_opM op_sub fit_I0 (pe_varM rfl (by first | exact .inl rfl | exact .inr (.inl rfl) | exact .inr (.inr rfl))) (pe_varM rfl (by first | exact .inl rfl | exact .inr (.inl rfl) | exact .inr (.inr rfl)))) pe_intM) (fun _ _ => rfl))) (pe_ixM fit_ix (pe_ixM fit_ix (pe_varM rfl (by first | exact .inl rfl | exact .inr (.inl rfl) | exact .inr (.inr rfl))) (pe_varM rfl (by first | exact .inl rfl | exact .inr (.inl rfl) | exact .inr (.inr rfl))) (fun _ _ => rfl)) (pe_opM op_sub fit_I0 (pe_varM rfl (by first | exact .inl rfl | exact .inr (.inl rfl) | exact .inr (.inr rfl))) pe_intM) (fun _ _ => rfl))))) (by decide))
      (pss_oneM (ps_setIxM (pe_callM (cr_minM rfl) fit_minL (by rfl) B.min (by decide +kernel) (pa_consM (pe_varM rfl (by first | exact .inl rfl | exact .inr (.inl rfl) | exact .inr (.inr rfl))) pa_nilM)) (pl_ix pl_var) (pe_ix (cr_ix ⟨K, mg, none⟩) (pe_var rfl (by first | exact .inl rfl | exact .inr (.inl rfl) | exact .inr (.inr rfl))) (pe_varM rfl (by first | exact .inl rfl | exact .inr (.inl rfl) | exact .inr (.inr rfl))) (fun _ _ => rfl)) (pe_opM op_sub fit_I0 (pe_varM rfl (by first | exact .inl rfl | exact .inr (.inl rfl) | exact .inr (.inr rfl))) pe_intM)))))))))
      (pss_oneM (ps_exprM (pe_mutM fit_app PySem.F.plainAttrs_list PySem.F.slot_list_append PySem.F.type_list_append mt_append pl_var (pe_var rfl (by first | exact .inl rfl | exact .inr (.inl rfl) | exact .inr (.inr rfl))) (pa_consM (pe_mvM rfl (by first | exact .inl rfl | exact .inr (.inl rfl) | exact .inr (.inr rfl))) pa_nilM)))))))
      (pss_oneM (ps_retVM rfl (by first | exact .inl rfl | exact .inr (.inl rfl)))))), h⟩
noncomputable def F__law_copy : Fn := fnOf 2
    ((mRet (mComp (itRow (eVar 0)) (tgName true 1) mYes (mComp (itRow (eVar 1)) (tgName true 2) mYes (eN (aCons (eVar 2) aNil) opList) [2]) [1])))
theorem df__law_copy {P : Program} {w : World} {K : PySem.W.Frag} {mg : Str → Option Value} {base : Heap} (F : At K mg "_law_copy" s__law_copy) (B : Bi mg) : Df P w K mg base 1 "_law_copy" s__law_copy ["rows"] F__law_copy := by
  obtain ⟨f, fd, F, gm⟩ := F
  refine ⟨f, fd, F.okX sc__law_copy (fun vs H Q E h => spM_len h) (fun cdv A outer s H vs Q E hr h => ?_), gm, F⟩
  have h := body_ok (N := ["rows", "one", "row"]) (z := 2) rfl h
  have tk : Takes (cxOf (L2.CX P w) P w K mg base ["rows", "one", "row"] "_law_copy" (defScope s__law_copy) f cdv A outer s H E) (fun c d _ H => E c d H) := takes_of rfl rfl rfl rfl
  exact ⟨_, (pss_oneM (ps_retM (pe_lcM (js := [1]) rfl sc__law_copy.nd (pi_rowM (pe_varM rfl (by first | exact .inl rfl | exact .inr (.inl rfl) | exact .inr (.inr rfl)))) (blkOk_by (own := [("one", 1)]) (N := ["rows", "one", "row"]) (sc := defScope s__law_copy) (by decide +kernel)) (fun _ _ _ _ _ => ((pg_nameM true sc__law_copy.nd rfl (Or.inl rfl)))) (fun _ _ _ _ _ => (pts_nilM)) (fun _ _ _ _ _ => ((pe_lcM (js := [2]) rfl sc__law_copy.nd (pi_rowM (pe_varM rfl (by first | exact .inl rfl | exact .inr (.inl rfl) | exact .inr (.inr rfl)))) (blkOk_by (own := [("row", 2)]) (by kernel_rfl)) (fun _ _ _ _ _ => ((pg_nameM true sc__law_copy.nd rfl (Or.inl rfl)))) (fun _ _ _ _ _ => (pts_nilM)) (fun _ _ _ _ _ => ((pe_callTyM cr_listOf fit_list (by rfl) B.list (by decide +kernel) (pa_consM (pe_varM rfl (by first | exact .inl rfl | exact .inr (.inl rfl) | exact .inr (.inr rfl))) pa_nilM)))) (by decide)))) (by decide)))), h⟩
noncomputable def F__law_mixed : Fn := fnOf 2
    ((mSeq (mPar false false 2 3 (aCons (eN (aCons (eVar 1) aNil) opList) (aCons (eN aNil opLst) aNil)))
      (mSeq (mWhile (tBl (e2 (eVar 2) (eN aNil opLst) (opEqD true))) []
      (mExpr (eMut (plVar 3) (aCons (eMut (plVar 2) (aCons (callM .e F__law_take (aCons (eVar 0) (aCons (eN (aCons (eVar 2) aNil) opLen) aNil))) aNil) uPopAt) aNil) uApp)))
      (mRetV 3))))
theorem df__law_mixed {P : Program} {w : World} {K : PySem.W.Frag} {mg : Str → Option Value} {base : Heap} (F : At K mg "_law_mixed" s__law_mixed) (B : Bi mg) (d__law_take : Df P w K mg base 1 "_law_take" s__law_take ["box", "many"] F__law_take) : Df P w K mg base 2 "_law_mixed" s__law_mixed ["box", "items"] F__law_mixed := by
  obtain ⟨f, fd, F, gm⟩ := F
  refine ⟨f, fd, F.okX sc__law_mixed (fun vs H Q E h => spM_len h) (fun cdv A outer s H vs Q E hr h => ?_), gm, F⟩
  have h := body_ok (N := ["box", "items", "left", "found"]) (z := 2) rfl h
  have tk : Takes (cxOf (L2.CX P w) P w K mg base ["box", "items", "left", "found"] "_law_mixed" (defScope s__law_mixed) f cdv A outer s H E) (fun c d _ H => E c d H) := takes_of rfl rfl rfl rfl
  exact ⟨_, (pss_consM (ps_parM false false (by rfl) sc__law_mixed.nd rfl rfl (by decide) rfl rfl (pa_consM (pe_callTyM cr_listOf fit_list (by rfl) B.list (by decide +kernel) (pa_consM (pe_varM rfl (by first | exact .inl rfl | exact .inr (.inl rfl) | exact .inr (.inr rfl))) pa_nilM)) (pa_consM (pe_lstM pa_nilM) pa_nilM)) (by rfl))
      (pss_consM (ps_whileM [] (passes_of rfl) (pt_cmpM (cr_neD hr) fit_neD (pe_varM rfl (by first | exact .inl rfl | exact .inr (.inl rfl) | exact .inr (.inr rfl))) (pe_lstM pa_nilM) (nomark _))
      (pss_oneM (ps_exprM (pe_mutM fit_app PySem.F.plainAttrs_list PySem.F.slot_list_append PySem.F.type_list_append mt_append pl_var (pe_var rfl (by first | exact .inl rfl | exact .inr (.inl rfl) | exact .inr (.inr rfl))) (pa_consM (pe_mutM fit_popAt PySem.F.plainAttrs_list PySem.F.slot_list_pop PySem.F.type_list_pop mt_popAt pl_var (pe_var rfl (by first | exact .inl rfl | exact .inr (.inl rfl) | exact .inr (.inr rfl))) (pa_consM (pe_clM .e d__law_take bd__law_take (hr.mono (by omega)) tk (pa_consM (pe_varM rfl (by first | exact .inl rfl | exact .inr (.inl rfl) | exact .inr (.inr rfl))) (pa_consM (pe_callM cr_len fit_len (by rfl) B.len (by decide +kernel) (pa_consM (pe_varM rfl (by first | exact .inl rfl | exact .inr (.inl rfl) | exact .inr (.inr rfl))) pa_nilM)) pa_nilM)) (aCons_n (aCons_n aNil_n))) pa_nilM)) pa_nilM)))))
      (pss_oneM (ps_retVM rfl (by first | exact .inl rfl | exact .inr (.inl rfl)))))), h⟩
noncomputable def R__law_same : Nat → Fn
  | 0 => fStop
  | n + 1 => fnOf 2
    ((mSeq (mIf (tBl (e2 (eVar 1) (eC .non) (opIsN false)))
      (mRet (e2 (eVar 0) (eC .non) (opIsN false)))
      mNext)
      (mSeq (mIf (tTru (e1 (eVar 1) (opIsi .bool)))
      (mRet (eAnd (e1 (eVar 0) (opIsi .bool)) (e2 (e2 (eVar 0) (eC (.bl true)) (opIsB false)) (e2 (eVar 1) (eC (.bl true)) (opIsB false)) opEqS)))
      mNext)
      (mSeq (mIf (tTru (e1 (eVar 1) (opIsi .int)))
      (mRet (eAnd (e1 (eVar 0) (opIsi .int)) (eAnd (eNot (e1 (eVar 0) (opIsi .bool))) (e2 (e2 (eN (aCons (eVar 0) aNil) opInt) (eVar 1) (opII (gI (· - ·)))) (eC (.int 0)) opEqS))))
      mNext)
      (mSeq (mIf (tTru (e1 (eVar 1) (opIsi .str)))
      (mRet (eAnd (e1 (eVar 0) (opIsi .str)) (eAnd (e2 (eN (aCons (eVar 0) aNil) opLen) (eN (aCons (eVar 1) aNil) opLen) opEqS) (e2 (mComp (itRng1 (aCons (eN (aCons (eVar 1) aNil) opLen) aNil)) (tgName true 2) (tBl (e2 (eSl (eVar 0) (pSo (eVar 2)) (pSo (e2 (eVar 2) (eC (.int 1)) (opII (gI (· + ·)))))) (e2 (eVar 1) (eVar 2) opIxA) opNeS)) (eVar 2) [2]) (eN aNil opLst) (opEqD false)))))
      mNext)
      (mSeq (mIf (tTru (e1 (eVar 1) (opIsi .dict)))
      (mRet (eAnd (e1 (eVar 0) (opIsi .dict)) (eAnd (e2 (eN (aCons (eVar 0) aNil) opLen) (eN (aCons (eVar 1) aNil) opLen) opEqS) (e2 (mComp (itKeys 1) (tgName true 3) (tOrM (tBl (e2 (eVar 3) (eVar 0) (opDIn true))) (tNotM (tTru (callM .v (R__law_same n) (aCons (e2 (eVar 0) (eVar 3) opIxA) (aCons (e2 (eVar 1) (eVar 3) opIxA) aNil)))))) (eVar 3) [3]) (eN aNil opLst) (opEqD false)))))
      mNext)
      (mSeq (mIf (tOrM (tNotM (tTru (e1 (eVar 1) (opIsiQ .list .tuple)))) (tNotM (tTru (e1 (eVar 0) (opIsiQ .list .tuple)))))
      (mRet (eC (.bl false)))
      mNext)
      (mSeq (mIf (tOrM (tBl (e2 (e1 (eVar 0) (opIsi .list)) (e1 (eVar 1) (opIsi .list)) opNeS)) (tBl (e2 (eN (aCons (eVar 0) aNil) opLen) (eN (aCons (eVar 1) aNil) opLen) opNeS)))
      (mRet (eC (.bl false)))
      mNext)
      (mRet (e2 (mComp (itRng1 (aCons (eN (aCons (eVar 1) aNil) opLen) aNil)) (tgName true 2) (tNotM (tTru (callM .v (R__law_same n) (aCons (e2 (eVar 0) (eVar 2) opIxA) (aCons (e2 (eVar 1) (eVar 2) opIxA) aNil))))) (eVar 2) [2]) (eN aNil opLst) (opEqD false)))))))))))
theorem dr__law_same {P : Program} {w : World} {K : PySem.W.Frag} {mg : Str → Option Value} {base : Heap} (F : At K mg "_law_same" s__law_same) (B : Bi mg) : ∀ n, Df P w K mg base (1 + n) "_law_same" s__law_same ["told", "due"] (R__law_same n)
  | 0 => by
    obtain ⟨f, fd, F, gm⟩ := F
    exact ⟨f, fd, F.okX sc__law_same (fun vs H Q E h => spM_len h) (fun cdv A outer s H vs Q E hr h => (spM_stop h).elim), gm, F⟩
  | n + 1 => by
    have ih : Df P w K mg base (1 + n) "_law_same" s__law_same ["told", "due"] (R__law_same n) := dr__law_same F B n
    obtain ⟨f, fd, F, gm⟩ := F
    refine ⟨f, fd, F.okX sc__law_same (fun vs H Q E h => spM_len h) (fun cdv A outer s H vs Q E hr h => ?_), gm, F⟩
    have h := body_ok (N := ["told", "due", "k", "key"]) (z := 2) rfl h
    have tk : Takes (cxOf (L2.CX P w) P w K mg base ["told", "due", "k", "key"] "_law_same" (defScope s__law_same) f cdv A outer s H E) (fun c d _ H => E c d H) := takes_of rfl rfl rfl rfl
    have hr : Room (1 + n) (A.deeper (envOfC "_law_same" (defScope s__law_same) s.heap.objs.size f cdv)) := hr
    exact ⟨_, (pss_consM (ps_ifM (pt_cmpM op_isN fit_isN (pe_varM rfl (by first | exact .inl rfl | exact .inr (.inl rfl) | exact .inr (.inr rfl))) pe_nonM (nomark _))
      (pss_oneM (ps_retM (pe_cmpM op_isN fit_isN (pe_varM rfl (by first | exact .inl rfl | exact .inr (.inl rfl) | exact .inr (.inr rfl))) pe_nonM (nomark _))))
      pss_nilM)
      (pss_consM (ps_ifM (pt_truM (pe_isiM (t := .bool) rfl (by rfl) B.isinstance (pe_varM rfl (by first | exact .inl rfl | exact .inr (.inl rfl) | exact .inr (.inr rfl))) (pe_bltn (v := .ty "bool") (by rfl) B.bool (by decide +kernel) rfl)))
      (pss_oneM (ps_retM (pe_andM (pe_isiM (t := .bool) rfl (by rfl) B.isinstance (pe_varM rfl (by first | exact .inl rfl | exact .inr (.inl rfl) | exact .inr (.inr rfl))) (pe_bltn (v := .ty "bool") (by rfl) B.bool (by decide +kernel) rfl)) (pe_oneM (pe_cmpM op_eq fit_eqS (pe_cmpM op_is_bl fit_isB (pe_varM rfl (by first | exact .inl rfl | exact .inr (.inl rfl) | exact .inr (.inr rfl))) pe_blM (nomark _)) (pe_cmpM op_is_bl fit_isB (pe_varM rfl (by first | exact .inl rfl | exact .inr (.inl rfl) | exact .inr (.inr rfl))) pe_blM (nomark _)) (nomark _))))))
      pss_nilM)
      (pss_consM (ps_ifM (pt_truM (pe_isiM (t := .int) rfl (by rfl) B.isinstance (pe_varM rfl (by first | exact .inl rfl | exact .inr (.inl rfl) | exact .inr (.inr rfl))) (pe_bltn (v := .ty "int") (by rfl) B.int (by decide +kernel) rfl)))
      (pss_oneM (ps_retM (pe_andM (pe_isiM (t := .int) rfl (by rfl) B.isinstance (pe_varM rfl (by first | exact .inl rfl | exact .inr (.inl rfl) | exact .inr (.inr rfl))) (pe_bltn (v := .ty "int") (by rfl) B.int (by decide +kernel) rfl)) (pe_andM (pe_notM (pe_isiM (t := .bool) rfl (by rfl) B.isinstance (pe_varM rfl (by first | exact .inl rfl | exact .inr (.inl rfl) | exact .inr (.inr rfl))) (pe_bltn (v := .ty "bool") (by rfl) B.bool (by decide +kernel) rfl))) (pe_oneM (pe_cmpM op_eq fit_eqS (pe_opM op_sub fit_I0 (pe_callTyM call_int1 fit_int (by rfl) B.int (by decide +kernel) (pa_consM (pe_varM rfl (by first | exact .inl rfl | exact .inr (.inl rfl) | exact .inr (.inr rfl))) pa_nilM)) (pe_varM rfl (by first | exact .inl rfl | exact .inr (.inl rfl) | exact .inr (.inr rfl)))) pe_intM (nomark _)))))))
      pss_nilM)
      (pss_consM (ps_ifM (pt_truM (pe_isiM (t := .str) rfl (by rfl) B.isinstance (pe_varM rfl (by first | exact .inl rfl | exact .inr (.inl rfl) | exact .inr (.inr rfl))) (pe_bltn (v := .ty "str") (by rfl) B.str (by decide +kernel) rfl)))
      (pss_oneM (ps_retM (pe_andM (pe_isiM (t := .str) rfl (by rfl) B.isinstance (pe_varM rfl (by first | exact .inl rfl | exact .inr (.inl rfl) | exact .inr (.inr rfl))) (pe_bltn (v := .ty "str") (by rfl) B.str (by decide +kernel) rfl)) (pe_andM (pe_cmpM op_eq fit_eqS (pe_callM cr_len fit_len (by rfl) B.len (by decide +kernel) (pa_consM (pe_varM rfl (by first | exact .inl rfl | exact .inr (.inl rfl) | exact .inr (.inr rfl))) pa_nilM)) (pe_callM cr_len fit_len (by rfl) B.len (by decide +kernel) (pa_consM (pe_varM rfl (by first | exact .inl rfl | exact .inr (.inl rfl) | exact .inr (.inr rfl))) pa_nilM)) (nomark _)) (pe_oneM (pe_cmpM (cr_eqD hr) fit_eqD (pe_lcM (js := [2]) rfl sc__law_same.nd (pi_rng1M (by rfl) B.range (pa_consM (pe_callM cr_len fit_len (by rfl) B.len (by decide +kernel) (pa_consM (pe_varM rfl (by first | exact .inl rfl | exact .inr (.inl rfl) | exact .inr (.inr rfl))) pa_nilM)) pa_nilM)) (blkOk_by (own := [("k", 2)]) (N := ["told", "due", "k", "key"]) (sc := defScope s__law_same) (by decide +kernel)) (fun _ _ _ _ _ => ((pg_nameM true sc__law_same.nd rfl (Or.inl rfl)))) (fun _ _ _ _ _ => ((pts_oneM (pt_cmpM op_ne fit_neS (pe_slM (pe_varM rfl (by first | exact .inl rfl | exact .inr (.inl rfl) | exact .inr (.inr rfl))) (po_some (pe_varM rfl (by first | exact .inl rfl | exact .inr (.inl rfl) | exact .inr (.inr rfl)))) (po_some (pe_opM op_add fit_I0 (pe_varM rfl (by first | exact .inl rfl | exact .inr (.inl rfl) | exact .inr (.inr rfl))) pe_intM)) pr_so pr_so) (pe_ixAM (hu1 hr) (pe_varM rfl (by first | exact .inl rfl | exact .inr (.inl rfl) | exact .inr (.inr rfl))) (pe_varM rfl (by first | exact .inl rfl | exact .inr (.inl rfl) | exact .inr (.inr rfl))) (fun _ _ => rfl) (fun _ _ => rfl)) (nomark _))))) (fun _ _ _ _ _ => ((pe_varM rfl (by first | exact .inl rfl | exact .inr (.inl rfl) | exact .inr (.inr rfl))))) (by decide)) (pe_lstM pa_nilM) (nomark _)))))))
      pss_nilM)
      (pss_consM (ps_ifM (pt_truM (pe_isiM (t := .dict) rfl (by rfl) B.isinstance (pe_varM rfl (by first | exact .inl rfl | exact .inr (.inl rfl) | exact .inr (.inr rfl))) (pe_bltn (v := .ty "dict") (by rfl) B.dict (by decide +kernel) rfl)))
      (pss_oneM (ps_retM (pe_andM (pe_isiM (t := .dict) rfl (by rfl) B.isinstance (pe_varM rfl (by first | exact .inl rfl | exact .inr (.inl rfl) | exact .inr (.inr rfl))) (pe_bltn (v := .ty "dict") (by rfl) B.dict (by decide +kernel) rfl)) (pe_andM (pe_cmpM op_eq fit_eqS (pe_callM cr_len fit_len (by rfl) B.len (by decide +kernel) (pa_consM (pe_varM rfl (by first | exact .inl rfl | exact .inr (.inl rfl) | exact .inr (.inr rfl))) pa_nilM)) (pe_callM cr_len fit_len (by rfl) B.len (by decide +kernel) (pa_consM (pe_varM rfl (by first | exact .inl rfl | exact .inr (.inl rfl) | exact .inr (.inr rfl))) pa_nilM)) (nomark _)) (pe_oneM (pe_cmpM (cr_eqD hr) fit_eqD (pe_lcKM (js := [3]) rfl sc__law_same.nd rfl (by first | exact .inl rfl | exact .inr (.inl rfl) | exact .inr (.inr rfl)) (blkOk_by (own := [("key", 3)]) (N := ["told", "due", "k", "key"]) (sc := defScope s__law_same) (by decide +kernel)) (fun _ _ _ _ _ => ((pg_nameM true sc__law_same.nd rfl (Or.inl rfl)))) (fun _ _ _ _ _ => ((pts_oneM (PW.pt (pt_orM (pt_dnotinM (hu1 hr) (pe_varM rfl (by first | exact .inl rfl | exact .inr (.inl rfl) | exact .inr (.inr rfl))) (pe_varM rfl (by first | exact .inl rfl | exact .inr (.inl rfl) | exact .inr (.inr rfl)))) (pt_or1M (pt_notM (pt_truM (pe_clM .v ih bd__law_same (hr.mono (by omega)) takes0W (pa_consM (pe_ixAM (hu1 hr) (pe_varM rfl (by first | exact .inl rfl | exact .inr (.inl rfl) | exact .inr (.inr rfl))) (pe_varM rfl (by first | exact .inl rfl | exact .inr (.inl rfl) | exact .inr (.inr rfl))) (fun _ _ => rfl) (fun _ _ => rfl)) (pa_consM (pe_ixAM (hu1 hr) (pe_varM rfl (by first | exact .inl rfl | exact .inr (.inl rfl) | exact .inr (.inr rfl))) (pe_varM rfl (by first | exact .inl rfl | exact .inr (.inl rfl) | exact .inr (.inr rfl))) (fun _ _ => rfl) (fun _ _ => rfl)) pa_nilM)) (aCons_n (aCons_n aNil_n))))))))))) (fun _ _ _ _ _ => ((pe_varM rfl (by first | exact .inl rfl | exact .inr (.inl rfl) | exact .inr (.inr rfl))))) (by decide)) (pe_lstM pa_nilM) (nomark _)))))))
      pss_nilM)
      (pss_consM (ps_ifM (PW.pt (pt_orM (pt_notM (pt_truM (pe_isiQM (t := .list) (u := .tuple) rfl (by rfl) B.isinstance (pe_varM rfl (by first | exact .inl rfl | exact .inr (.inl rfl) | exact .inr (.inr rfl))) (pe_bltn (v := .ty "list") (by rfl) B.list (by decide +kernel) rfl) (pe_bltn (v := .ty "tuple") (by rfl) B.tuple (by decide +kernel) rfl)))) (pt_or1M (pt_notM (pt_truM (pe_isiQM (t := .list) (u := .tuple) rfl (by rfl) B.isinstance (pe_varM rfl (by first | exact .inl rfl | exact .inr (.inl rfl) | exact .inr (.inr rfl))) (pe_bltn (v := .ty "list") (by rfl) B.list (by decide +kernel) rfl) (pe_bltn (v := .ty "tuple") (by rfl) B.tuple (by decide +kernel) rfl)))))))
      (pss_oneM (ps_retM pe_blM))
      pss_nilM)
      (pss_consM (ps_ifM (PW.pt (pt_orM (pt_cmpM op_ne fit_neS (pe_isiM (t := .list) rfl (by rfl) B.isinstance (pe_varM rfl (by first | exact .inl rfl | exact .inr (.inl rfl) | exact .inr (.inr rfl))) (pe_bltn (v := .ty "list") (by rfl) B.list (by decide +kernel) rfl)) (pe_isiM (t := .list) rfl (by rfl) B.isinstance (pe_varM rfl (by first | exact .inl rfl | exact .inr (.inl rfl) | exact .inr (.inr rfl))) (pe_bltn (v := .ty "list") (by rfl) B.list (by decide +kernel) rfl)) (nomark _)) (pt_or1M (pt_cmpM op_ne fit_neS (pe_callM cr_len fit_len (by rfl) B.len (by decide +kernel) (pa_consM (pe_varM rfl (by first | exact .inl rfl | exact .inr (.inl rfl) | exact .inr (.inr rfl))) pa_nilM)) (pe_callM cr_len fit_len (by rfl) B.len (by decide +kernel) (pa_consM (pe_varM rfl (by first | exact .inl rfl | exact .inr (.inl rfl) | exact .inr (.inr rfl))) pa_nilM)) (nomark _)))))
      (pss_oneM (ps_retM pe_blM))
      pss_nilM)
      (pss_oneM (ps_retM (pe_cmpM (cr_eqD hr) fit_eqD (pe_lcM (js := [2]) rfl sc__law_same.nd (pi_rng1M (by rfl) B.range (pa_consM (pe_callM cr_len fit_len (by rfl) B.len (by decide +kernel) (pa_consM (pe_varM rfl (by first | exact .inl rfl | exact .inr (.inl rfl) | exact .inr (.inr rfl))) pa_nilM)) pa_nilM)) (blkOk_by (own := [("k", 2)]) (N := ["told", "due", "k", "key"]) (sc := defScope s__law_same) (by decide +kernel)) (fun _ _ _ _ _ => ((pg_nameM true sc__law_same.nd rfl (Or.inl rfl)))) (fun _ _ _ _ _ => ((pts_oneM (pt_notM (pt_truM (pe_clM .v ih bd__law_same (hr.mono (by omega)) takes0W (pa_consM (pe_ixAM (hu1 hr) (pe_varM rfl (by first | exact .inl rfl | exact .inr (.inl rfl) | exact .inr (.inr rfl))) (pe_varM rfl (by first | exact .inl rfl | exact .inr (.inl rfl) | exact .inr (.inr rfl))) (fun _ _ => rfl) (fun _ _ => rfl)) (pa_consM (pe_ixAM (hu1 hr) (pe_varM rfl (by first | exact .inl rfl | exact .inr (.inl rfl) | exact .inr (.inr rfl))) (pe_varM rfl (by first | exact .inl rfl | exact .inr (.inl rfl) | exact .inr (.inr rfl))) (fun _ _ => rfl) (fun _ _ => rfl)) pa_nilM)) (aCons_n (aCons_n aNil_n)))))))) (fun _ _ _ _ _ => ((pe_varM rfl (by first | exact .inl rfl | exact .inr (.inl rfl) | exact .inr (.inr rfl))))) (by decide)) (pe_lstM pa_nilM) (nomark _))))))))))), h⟩
noncomputable def F__law_same : Fn := R__law_same 8
theorem df__law_same {P : Program} {w : World} {K : PySem.W.Frag} {mg : Str → Option Value} {base : Heap} (F : At K mg "_law_same" s__law_same) (B : Bi mg) : Df P w K mg base 9 "_law_same" s__law_same ["told", "due"] F__law_same := dr__law_same F B 8
noncomputable def F__law_grown : Fn := fnOf 0
    ((mSeq (mIf (tTru (e1 (eVar 0) (opIsi .list)))
      (mExpr (eMut (plVar 0) (aCons (eC (.str "more")) aNil) uApp))
      mNext)
      (mIf (tTru (e1 (eVar 0) (opIsi .dict)))
      (mSetK (eC (.int 1)) (plVar 0) (eC (.str "more")))
      mNext)))
theorem df__law_grown {P : Program} {w : World} {K : PySem.W.Frag} {mg : Str → Option Value} {base : Heap} (F : At K mg "_law_grown" s__law_grown) (B : Bi mg) : Df P w K mg base 1 "_law_grown" s__law_grown ["value"] F__law_grown := by
  obtain ⟨f, fd, F, gm⟩ := F
  refine ⟨f, fd, F.okX sc__law_grown (fun vs H Q E h => spM_len h) (fun cdv A outer s H vs Q E hr h => ?_), gm, F⟩
  have h := body_ok (N := ["value"]) (z := 0) rfl h
  have tk : Takes (cxOf (L2.CX P w) P w K mg base ["value"] "_law_grown" (defScope s__law_grown) f cdv A outer s H E) (fun c d _ H => E c d H) := takes_of rfl rfl rfl rfl
  exact ⟨_, (pss_consM (ps_ifM (pt_truM (pe_isiM (t := .list) rfl (by rfl) B.isinstance (pe_varM rfl (by first | exact .inl rfl | exact .inr (.inl rfl) | exact .inr (.inr rfl))) (pe_bltn (v := .ty "list") (by rfl) B.list (by decide +kernel) rfl)))
      (pss_oneM (ps_exprM (pe_mutM fit_app PySem.F.plainAttrs_list PySem.F.slot_list_append PySem.F.type_list_append mt_append pl_var (pe_var rfl (by first | exact .inl rfl | exact .inr (.inl rfl) | exact .inr (.inr rfl))) (pa_consM pe_strM pa_nilM))))
      pss_nilM)
      (pss_oneM (ps_ifM (pt_truM (pe_isiM (t := .dict) rfl (by rfl) B.isinstance (pe_varM rfl (by first | exact .inl rfl | exact .inr (.inl rfl) | exact .inr (.inr rfl))) (pe_bltn (v := .ty "dict") (by rfl) B.dict (by decide +kernel) rfl)))
      (pss_oneM (ps_setKM (hu1 hr) pe_intM pl_var (pe_var rfl (by first | exact .inl rfl | exact .inr (.inl rfl) | exact .inr (.inr rfl))) pe_strM))
      pss_nilM))), h⟩
noncomputable def F__law_values : Fn := fnOf 7
    ((mSeq (mPar true true 2 3 (aCons (callM .e F__law_take (aCons (eVar 0) (aCons (eN (aCons (eVar 1) aNil) opLen) aNil))) (aCons (callM .e F__law_take (aCons (eVar 0) (aCons (eN (aCons (e2 (eVar 1) (eC (.int 0)) opIx) aNil) opLen) aNil))) aNil)))
      (mSeq (mSet true 4 (callM .e F__law_take (aCons (eVar 0) (aCons (eN (aCons (e2 (e2 (eVar 1) (eVar 2) opIx) (eVar 3) opIx) aNil) opLen) aNil))))
      (mSeq (mSet false 5 (mComp (itRng1 (aCons (eC (.int 7)) aNil)) (tgName true 6) mYes (callM .v F__law_copy (aCons (eVar 1) aNil)) [6]))
      (mSeq (mSetIx (e2 (e2 (e2 (e2 (e2 (eVar 1) (eVar 2) opIx) (eVar 3) opIx) (eVar 4) opIx) (eC (.int 1)) (opII (gI (· + ·)))) (e2 (eC (.int 2)) (callM .e F__law_take (aCons (eVar 0) (aCons (eC (.int 2)) aNil))) (opII (gIc CMulW (· * ·)))) (opII (gI (· - ·)))) (plIx (plIx (plIx (plVar 5) (eC (.int 0))) (eVar 2)) (eVar 3)) (eVar 4))
      (mSeq (mSetIx (e2 (eN (aCons (eC .non) (aCons (eC (.str "0")) (aCons (eN (aCons (e2 (e2 (e2 (eVar 1) (eVar 2) opIx) (eVar 3) opIx) (eVar 4) opIx) aNil) opTup) (aCons (eN (aCons (e2 (e2 (e2 (eVar 1) (eVar 2) opIx) (eVar 3) opIx) (eVar 4) opIx) aNil) opLst) aNil)))) opLst) (callM .e F__law_take (aCons (eVar 0) (aCons (eC (.int 4)) aNil))) opIxO) (plIx (plIx (plIx (plVar 5) (eC (.int 1))) (eVar 2)) (eVar 3)) (eVar 4))
      (mSeq (mExpr (eMut (plIx (plIx (plIx (plVar 5) (eC (.int 2))) (eVar 2)) (eVar 3)) (aCons (eC (.int 0)) aNil) uApp))
      (mSeq (mExpr (eMut (plIx (plIx (plVar 5) (eC (.int 3))) (eVar 2)) aNil uPop))
      (mSeq (mExpr (eMut (plIx (plVar 5) (eC (.int 4))) (aCons (e2 (callM .v F__law_copy (aCons (eVar 1) aNil)) (eC (.int 0)) opIxO) aNil) uApp))
      (mSeq (mSetIx (eN (aCons (e2 (e2 (eVar 1) (eVar 2) opIx) (eVar 3) opIx) aNil) opTuple) (plIx (plIx (plVar 5) (eC (.int 5))) (eVar 2)) (eVar 3))
      (mSeq (mSetIx (eC (.bl false)) (plIx (plIx (plIx (plVar 5) (eC (.int 6))) (eVar 2)) (e2 (eN (aCons (e2 (eVar 1) (eC (.int 0)) opIx) aNil) opLen) (eC (.int 1)) (opII (gI (· - ·))))) (eC (.int 0)))
      (mRet (e2 (eMv 5) (eN (aCons (eVar 1) (aCons (eN (aCons (mComp (itRow (eVar 1)) (tgName true 7) mYes (eN (aCons (mComp (itRow (eVar 7)) (tgName true 8) mYes (eN (aCons (eVar 8) aNil) opTuple) [8]) aNil) opTuple) [7]) aNil) opTuple) (aCons (eSl (eVar 1) pNo (pSo (e1 (eC (.int 1)) (opI fun i => .int (-i))))) (aCons (eC .non) (aCons (eC (.int 5)) (aCons (eN aNil opLst) (aCons eDNew (aCons (eN (aCons (eN aNil opLst) aNil) opLst) (aCons (eC (.str "table")) (aCons (e2 (eN (aCons (eC .non) aNil) opLst) (eN (aCons (eVar 1) aNil) opLen) opRep) (aCons (e2 (eN (aCons (eN (aCons (eC .non) aNil) opLst) aNil) opLst) (eN (aCons (eVar 1) aNil) opLen) opRep) aNil))))))))))) opLst) opCat)))))))))))))
theorem df__law_values {P : Program} {w : World} {K : PySem.W.Frag} {mg : Str → Option Value} {base : Heap} (F : At K mg "_law_values" s__law_values) (B : Bi mg) (d__law_copy : Df P w K mg base 1 "_law_copy" s__law_copy ["rows"] F__law_copy) (d__law_take : Df P w K mg base 1 "_law_take" s__law_take ["box", "many"] F__law_take) : Df P w K mg base 2 "_law_values" s__law_values ["box", "due"] F__law_values := by
  obtain ⟨f, fd, F, gm⟩ := F
  refine ⟨f, fd, F.okX sc__law_values (fun vs H Q E h => spM_len h) (fun cdv A outer s H vs Q E hr h => ?_), gm, F⟩
  have h := body_ok (N := ["box", "due", "slots", "first", "size", "found", "turn", "one", "row"]) (z := 7) rfl h
  have tk : Takes (cxOf (L2.CX P w) P w K mg base ["box", "due", "slots", "first", "size", "found", "turn", "one", "row"] "_law_values" (defScope s__law_values) f cdv A outer s H E) (fun c d _ H => E c d H) := takes_of rfl rfl rfl rfl
  exact ⟨_, (pss_consM (ps_parM true true (by rfl) sc__law_values.nd rfl rfl (by decide) rfl rfl (pa_consM (pe_clM .e d__law_take bd__law_take (hr.mono (by omega)) tk (pa_consM (pe_varM rfl (by first | exact .inl rfl | exact .inr (.inl rfl) | exact .inr (.inr rfl))) (pa_consM (pe_callM cr_len fit_len (by rfl) B.len (by decide +kernel) (pa_consM (pe_varM rfl (by first | exact .inl rfl | exact .inr (.inl rfl) | exact .inr (.inr rfl))) pa_nilM)) pa_nilM)) (aCons_n (aCons_n aNil_n))) (pa_consM (pe_clM .e d__law_take bd__law_take (hr.mono (by omega)) tk (pa_consM (pe_varM rfl (by first | exact .inl rfl | exact .inr (.inl rfl) | exact .inr (.inr rfl))) (pa_consM (pe_callM cr_len fit_len (by rfl) B.len (by decide +kernel) (pa_consM (pe_ixM fit_ix (pe_varM rfl (by first | exact .inl rfl | exact .inr (.inl rfl) | exact .inr (.inr rfl))) pe_intM (fun _ _ => rfl)) pa_nilM)) pa_nilM)) (aCons_n (aCons_n aNil_n))) pa_nilM)) (by rfl))
      (pss_consM (ps_setM true sc__law_values.nd rfl (Or.inl rfl) (pe_clM .e d__law_take bd__law_take (hr.mono (by omega)) tk (pa_consM (pe_varM rfl (by first | exact .inl rfl | exact .inr (.inl rfl) | exact .inr (.inr rfl))) (pa_consM (pe_callM cr_len fit_len (by rfl) B.len (by decide +kernel) (pa_consM (pe_ixM fit_ix (pe_ixM fit_ix (pe_varM rfl (by first | exact .inl rfl | exact .inr (.inl rfl) | exact .inr (.inr rfl))) (pe_varM rfl (by first | exact .inl rfl | exact .inr (.inl rfl) | exact .inr (.inr rfl))) (fun _ _ => rfl)) (pe_varM rfl (by first | exact .inl rfl | exact .inr (.inl rfl) | exact .inr (.inr rfl))) (fun _ _ => rfl)) pa_nilM)) pa_nilM)) (aCons_n (aCons_n aNil_n))))
      (pss_consM (ps_setLcM false (i := 5) (js := [6]) rfl sc__law_values.nd rfl rfl (sw_true rfl rfl rfl (by decide +kernel)) (pi_rng1M (by rfl) B.range (pa_consM pe_intM pa_nilM)) (blkOk_by (own := [("turn", 6)]) (N := ["box", "due", "slots", "first", "size", "found", "turn", "one", "row"]) (sc := defScope s__law_values) (by decide +kernel)) (fun _ _ _ _ _ => ((pg_nameM true sc__law_values.nd rfl (Or.inl rfl)))) (fun _ _ _ _ _ => (pts_nilM)) (fun _ _ _ _ _ => ((pe_clM .v d__law_copy bd__law_copy (hr.mono (by omega)) takes0W (pa_consM (pe_varM rfl (by first | exact .inl rfl | exact .inr (.inl rfl) | exact .inr (.inr rfl))) pa_nilM) (aCons_n aNil_n)))) (by decide))
      (pss_consM (ps_setIxM (pe_opM op_sub fit_I0 (pe_opM op_add fit_I0 (pe_ixM fit_ix (pe_ixM fit_ix (pe_ixM fit_ix (pe_varM rfl (by first | exact .inl rfl | exact .inr (.inl rfl) | exact .inr (.inr rfl))) (pe_varM rfl (by first | exact .inl rfl | exact .inr (.inl rfl) | exact .inr (.inr rfl))) (fun _ _ => rfl)) (pe_varM rfl (by first | exact .inl rfl | exact .inr (.inl rfl) | exact .inr (.inr rfl))) (fun _ _ => rfl)) (pe_varM rfl (by first | exact .inl rfl | exact .inr (.inl rfl) | exact .inr (.inr rfl))) (fun _ _ => rfl)) pe_intM) (pe_opM op_mulW fit_Ic pe_intM (pe_clM .e d__law_take bd__law_take (hr.mono (by omega)) tk (pa_consM (pe_varM rfl (by first | exact .inl rfl | exact .inr (.inl rfl) | exact .inr (.inr rfl))) (pa_consM pe_intM pa_nilM)) (aCons_n (aCons_n aNil_n))))) (pl_ix (pl_ix (pl_ix pl_var))) (pe_ix (cr_ix ⟨K, mg, none⟩) (pe_ix (cr_ix ⟨K, mg, none⟩) (pe_ix (cr_ix ⟨K, mg, none⟩) (pe_var rfl (by first | exact .inl rfl | exact .inr (.inl rfl) | exact .inr (.inr rfl))) pe_intM (fun _ _ => rfl)) (pe_varM rfl (by first | exact .inl rfl | exact .inr (.inl rfl) | exact .inr (.inr rfl))) (fun _ _ => rfl)) (pe_varM rfl (by first | exact .inl rfl | exact .inr (.inl rfl) | exact .inr (.inr rfl))) (fun _ _ => rfl)) (pe_varM rfl (by first | exact .inl rfl | exact .inr (.inl rfl) | exact .inr (.inr rfl))))
      (pss_consM (ps_setIxM (pe_ixM fit_ixO (pe_lstM (pa_consM pe_nonM (pa_consM pe_strM (pa_consM (pe_tupM (pa_consM (pe_ixM fit_ix (pe_ixM fit_ix (pe_ixM fit_ix (pe_varM rfl (by first | exact .inl rfl | exact .inr (.inl rfl) | exact .inr (.inr rfl))) (pe_varM rfl (by first | exact .inl rfl | exact .inr (.inl rfl) | exact .inr (.inr rfl))) (fun _ _ => rfl)) (pe_varM rfl (by first | exact .inl rfl | exact .inr (.inl rfl) | exact .inr (.inr rfl))) (fun _ _ => rfl)) (pe_varM rfl (by first | exact .inl rfl | exact .inr (.inl rfl) | exact .inr (.inr rfl))) (fun _ _ => rfl)) pa_nilM)) (pa_consM (pe_lstM (pa_consM (pe_ixM fit_ix (pe_ixM fit_ix (pe_ixM fit_ix (pe_varM rfl (by first | exact .inl rfl | exact .inr (.inl rfl) | exact .inr (.inr rfl))) (pe_varM rfl (by first | exact .inl rfl | exact .inr (.inl rfl) | exact .inr (.inr rfl))) (fun _ _ => rfl)) (pe_varM rfl (by first | exact .inl rfl | exact .inr (.inl rfl) | exact .inr (.inr rfl))) (fun _ _ => rfl)) (pe_varM rfl (by first | exact .inl rfl | exact .inr (.inl rfl) | exact .inr (.inr rfl))) (fun _ _ => rfl)) pa_nilM)) pa_nilM))))) (pe_clM .e d__law_take bd__law_take (hr.mono (by omega)) tk (pa_consM (pe_varM rfl (by first | exact .inl rfl | exact .inr (.inl rfl) | exact .inr (.inr rfl))) (pa_consM pe_intM pa_nilM)) (aCons_n (aCons_n aNil_n))) (fun _ _ => rfl)) (pl_ix (pl_ix (pl_ix pl_var))) (pe_ix (cr_ix ⟨K, mg, none⟩) (pe_ix (cr_ix ⟨K, mg, none⟩) (pe_ix (cr_ix ⟨K, mg, none⟩) (pe_var rfl (by first | exact .inl rfl | exact .inr (.inl rfl) | exact .inr (.inr rfl))) pe_intM (fun _ _ => rfl)) (pe_varM rfl (by first | exact .inl rfl | exact .inr (.inl rfl) | exact .inr (.inr rfl))) (fun _ _ => rfl)) (pe_varM rfl (by first | exact .inl rfl | exact .inr (.inl rfl) | exact .inr (.inr rfl))) (fun _ _ => rfl)) (pe_varM rfl (by first | exact .inl rfl | exact .inr (.inl rfl) | exact .inr (.inr rfl))))
      (pss_consM (ps_exprM (pe_mutM fit_app PySem.F.plainAttrs_list PySem.F.slot_list_append PySem.F.type_list_append mt_append (pl_ix (pl_ix (pl_ix pl_var))) (pe_ix (cr_ix ⟨K, mg, none⟩) (pe_ix (cr_ix ⟨K, mg, none⟩) (pe_ix (cr_ix ⟨K, mg, none⟩) (pe_var rfl (by first | exact .inl rfl | exact .inr (.inl rfl) | exact .inr (.inr rfl))) pe_intM (fun _ _ => rfl)) (pe_varM rfl (by first | exact .inl rfl | exact .inr (.inl rfl) | exact .inr (.inr rfl))) (fun _ _ => rfl)) (pe_varM rfl (by first | exact .inl rfl | exact .inr (.inl rfl) | exact .inr (.inr rfl))) (fun _ _ => rfl)) (pa_consM pe_intM pa_nilM)))
      (pss_consM (ps_exprM (pe_mut0M fit_pop PySem.F.plainAttrs_list PySem.F.slot_list_pop PySem.F.type_list_pop mt_pop (pl_ix (pl_ix pl_var)) (mono_ix (mono_ix mono_var)) (pe_ix (cr_ix ⟨K, mg, none⟩) (pe_ix (cr_ix ⟨K, mg, none⟩) (pe_var rfl (by first | exact .inl rfl | exact .inr (.inl rfl) | exact .inr (.inr rfl))) pe_intM (fun _ _ => rfl)) (pe_varM rfl (by first | exact .inl rfl | exact .inr (.inl rfl) | exact .inr (.inr rfl))) (fun _ _ => rfl))))
      (pss_consM (ps_exprM (pe_mutM fit_app PySem.F.plainAttrs_list PySem.F.slot_list_append PySem.F.type_list_append mt_append (pl_ix pl_var) (pe_ix (cr_ix ⟨K, mg, none⟩) (pe_var rfl (by first | exact .inl rfl | exact .inr (.inl rfl) | exact .inr (.inr rfl))) pe_intM (fun _ _ => rfl)) (pa_consM (pe_ixM fit_ixO (pe_clM .v d__law_copy bd__law_copy (hr.mono (by omega)) tk (pa_consM (pe_varM rfl (by first | exact .inl rfl | exact .inr (.inl rfl) | exact .inr (.inr rfl))) pa_nilM) (aCons_n aNil_n)) pe_intM (fun _ _ => rfl)) pa_nilM)))
      (pss_consM (ps_setIxM (pe_callTyM cr_tupOf fit_tuple (by rfl) B.tuple (by decide +kernel) (pa_consM (pe_ixM fit_ix (pe_ixM fit_ix (pe_varM rfl (by first | exact .inl rfl | exact .inr (.inl rfl) | exact .inr (.inr rfl))) (pe_varM rfl (by first | exact .inl rfl | exact .inr (.inl rfl) | exact .inr (.inr rfl))) (fun _ _ => rfl)) (pe_varM rfl (by first | exact .inl rfl | exact .inr (.inl rfl) | exact .inr (.inr rfl))) (fun _ _ => rfl)) pa_nilM)) (pl_ix (pl_ix pl_var)) (pe_ix (cr_ix ⟨K, mg, none⟩) (pe_ix (cr_ix ⟨K, mg, none⟩) (pe_var rfl (by first | exact .inl rfl | exact .inr (.inl rfl) | exact .inr (.inr rfl))) pe_intM (fun _ _ => rfl)) (pe_varM rfl (by first | exact .inl rfl | exact .inr (.inl rfl) | exact .inr (.inr rfl))) (fun _ _ => rfl)) (pe_varM rfl (by first | exact .inl rfl | exact .inr (.inl rfl) | exact .inr (.inr rfl))))
      (pss_consM (ps_setIxM pe_blM (pl_ix (pl_ix (pl_ix pl_var))) (pe_ix (cr_ix ⟨K, mg, none⟩) (pe_ix (cr_ix ⟨K, mg, none⟩) (pe_ix (cr_ix ⟨K, mg, none⟩) (pe_var rfl (by first | exact .inl rfl | exact .inr (.inl rfl) | exact .inr (.inr rfl))) pe_intM (fun _ _ => rfl)) (pe_varM rfl (by first | exact .inl rfl | exact .inr (.inl rfl) | exact .inr (.inr rfl))) (fun _ _ => rfl)) (pe_opM op_sub fit_I0 (pe_callM cr_len fit_len (by rfl) B.len (by decide +kernel) (pa_consM (pe_ixM fit_ix (pe_varM rfl (by first | exact .inl rfl | exact .inr (.inl rfl) | exact .inr (.inr rfl))) pe_intM (fun _ _ => rfl)) pa_nilM)) pe_intM) (fun _ _ => rfl)) pe_intM)
      (pss_oneM (ps_retM (pe_opM op_cat fit_cat (pe_mvM rfl (by first | exact .inl rfl | exact .inr (.inl rfl) | exact .inr (.inr rfl))) (pe_lstM (pa_consM (pe_varM rfl (by first | exact .inl rfl | exact .inr (.inl rfl) | exact .inr (.inr rfl))) (pa_consM (pe_callTyM cr_tupOf fit_tuple (by rfl) B.tuple (by decide +kernel) (pa_consM (pe_lcM (js := [7]) rfl sc__law_values.nd (pi_rowM (pe_varM rfl (by first | exact .inl rfl | exact .inr (.inl rfl) | exact .inr (.inr rfl)))) (blkOk_by (own := [("one", 7)]) (N := ["box", "due", "slots", "first", "size", "found", "turn", "one", "row"]) (sc := defScope s__law_values) (by decide +kernel)) (fun _ _ _ _ _ => ((pg_nameM true sc__law_values.nd rfl (Or.inl rfl)))) (fun _ _ _ _ _ => (pts_nilM)) (fun _ _ _ _ _ => ((pe_callTyM cr_tupOf fit_tuple (by rfl) B.tuple (by decide +kernel) (pa_consM (pe_lcM (js := [8]) rfl sc__law_values.nd (pi_rowM (pe_varM rfl (by first | exact .inl rfl | exact .inr (.inl rfl) | exact .inr (.inr rfl)))) (blkOk_by (own := [("row", 8)]) (by kernel_rfl)) (fun _ _ _ _ _ => ((pg_nameM true sc__law_values.nd rfl (Or.inl rfl)))) (fun _ _ _ _ _ => (pts_nilM)) (fun _ _ _ _ _ => ((pe_callTyM cr_tupOf fit_tuple (by rfl) B.tuple (by decide +kernel) (pa_consM (pe_varM rfl (by first | exact .inl rfl | exact .inr (.inl rfl) | exact .inr (.inr rfl))) pa_nilM)))) (by decide)) pa_nilM)))) (by decide)) pa_nilM)) (pa_consM (pe_slM (pe_varM rfl (by first | exact .inl rfl | exact .inr (.inl rfl) | exact .inr (.inr rfl))) po_none (po_some (pe_unM un_neg fit_neg pe_intM)) pr_no pr_so) (pa_consM pe_nonM (pa_consM pe_intM (pa_consM (pe_lstM pa_nilM) (pa_consM pe_dnewM (pa_consM (pe_lstM (pa_consM (pe_lstM pa_nilM) pa_nilM)) (pa_consM pe_strM (pa_consM (pe_opM op_rep fit_rep (pe_lstM (pa_consM pe_nonM pa_nilM)) (pe_callM cr_len fit_len (by rfl) B.len (by decide +kernel) (pa_consM (pe_varM rfl (by first | exact .inl rfl | exact .inr (.inl rfl) | exact .inr (.inr rfl))) pa_nilM))) (pa_consM (pe_opM op_rep fit_rep (pe_lstM (pa_consM (pe_lstM (pa_consM pe_nonM pa_nilM)) pa_nilM)) (pe_callM cr_len fit_len (by rfl) B.len (by decide +kernel) (pa_consM (pe_varM rfl (by first | exact .inl rfl | exact .inr (.inl rfl) | exact .inr (.inr rfl))) pa_nilM))) pa_nilM))))))))))))))))))))))))), h⟩
noncomputable def F__law_is_table : Fn := fnOf 4
    ((mSeq (mIf (tOrM (tNotM (tTru (e1 (eVar 1) (opIsiQ .list .tuple)))) (tBl (e2 (eN (aCons (eVar 1) aNil) opLen) (eN (aCons (eVar 0) aNil) opLen) opNeS)))
      (mRet (eC (.bl false)))
      mNext)
      (mSeq (mFor (itZip (aCons (eVar 1) (aCons (eVar 0) aNil))) (tgTup (tgCons (tgName true 2) (tgCons (tgName true 3) tgNil))) [2, 3, 4, 5]
      (mSeq (mIf (tOrM (tNotM (tTru (e1 (eVar 2) (opIsiQ .list .tuple)))) (tBl (e2 (eN (aCons (eVar 2) aNil) opLen) (eN (aCons (eVar 3) aNil) opLen) opNeS)))
      (mRet (eC (.bl false)))
      mNext)
      (mFor (itZip (aCons (eVar 2) (aCons (eVar 3) aNil))) (tgTup (tgCons (tgName true 4) (tgCons (tgName true 5) tgNil))) [4, 5]
      (mIf (tOrM (tNotM (tTru (e1 (eVar 4) (opIsiQ .list .tuple)))) (tNotM (tTru (callM .v F__law_same (aCons (eN (aCons (eVar 4) aNil) opList) (aCons (eVar 5) aNil))))))
      (mRet (eC (.bl false)))
      mNext))))
      (mRet (eC (.bl true))))))
theorem df__law_is_table {P : Program} {w : World} {K : PySem.W.Frag} {mg : Str → Option Value} {base : Heap} (F : At K mg "_law_is_table" s__law_is_table) (B : Bi mg) (d__law_same : Df P w K mg base 9 "_law_same" s__law_same ["told", "due"] F__law_same) : Df P w K mg base 10 "_law_is_table" s__law_is_table ["due", "value"] F__law_is_table := by
  obtain ⟨f, fd, F, gm⟩ := F
  refine ⟨f, fd, F.okX sc__law_is_table (fun vs H Q E h => spM_len h) (fun cdv A outer s H vs Q E hr h => ?_), gm, F⟩
  have h := body_ok (N := ["due", "value", "one", "other", "row", "right"]) (z := 4) rfl h
  have tk : Takes (cxOf (L2.CX P w) P w K mg base ["due", "value", "one", "other", "row", "right"] "_law_is_table" (defScope s__law_is_table) f cdv A outer s H E) (fun c d _ H => E c d H) := takes_of rfl rfl rfl rfl
  exact ⟨_, (pss_consM (ps_ifM (PW.pt (pt_orM (pt_notM (pt_truM (pe_isiQM (t := .list) (u := .tuple) rfl (by rfl) B.isinstance (pe_varM rfl (by first | exact .inl rfl | exact .inr (.inl rfl) | exact .inr (.inr rfl))) (pe_bltn (v := .ty "list") (by rfl) B.list (by decide +kernel) rfl) (pe_bltn (v := .ty "tuple") (by rfl) B.tuple (by decide +kernel) rfl)))) (pt_or1M (pt_cmpM op_ne fit_neS (pe_callM cr_len fit_len (by rfl) B.len (by decide +kernel) (pa_consM (pe_varM rfl (by first | exact .inl rfl | exact .inr (.inl rfl) | exact .inr (.inr rfl))) pa_nilM)) (pe_callM cr_len fit_len (by rfl) B.len (by decide +kernel) (pa_consM (pe_varM rfl (by first | exact .inl rfl | exact .inr (.inl rfl) | exact .inr (.inr rfl))) pa_nilM)) (nomark _)))))
      (pss_oneM (ps_retM pe_blM))
      pss_nilM)
      (pss_consM (ps_forM [2, 3, 4, 5] (passes_of rfl) rfl (pi_zipMM (by rfl) B.zip (pa_consM (pe_varM rfl (by first | exact .inl rfl | exact .inr (.inl rfl) | exact .inr (.inr rfl))) (pa_consM (pe_varM rfl (by first | exact .inl rfl | exact .inr (.inl rfl) | exact .inr (.inr rfl))) pa_nilM))) (pg_tupM rfl (pgs_consM (pg_nameM true sc__law_is_table.nd rfl (Or.inl rfl)) (pgs_consM (pg_nameM true sc__law_is_table.nd rfl (Or.inl rfl)) pgs_nilM)) (tgCons_n (tgCons_n tgNil_n)))
      (pss_consM (ps_ifM (PW.pt (pt_orM (pt_notM (pt_truM (pe_isiQM (t := .list) (u := .tuple) rfl (by rfl) B.isinstance (pe_varM rfl (by first | exact .inl rfl | exact .inr (.inl rfl) | exact .inr (.inr rfl))) (pe_bltn (v := .ty "list") (by rfl) B.list (by decide +kernel) rfl) (pe_bltn (v := .ty "tuple") (by rfl) B.tuple (by decide +kernel) rfl)))) (pt_or1M (pt_cmpM op_ne fit_neS (pe_callM cr_len fit_len (by rfl) B.len (by decide +kernel) (pa_consM (pe_varM rfl (by first | exact .inl rfl | exact .inr (.inl rfl) | exact .inr (.inr rfl))) pa_nilM)) (pe_callM cr_len fit_len (by rfl) B.len (by decide +kernel) (pa_consM (pe_varM rfl (by first | exact .inl rfl | exact .inr (.inl rfl) | exact .inr (.inr rfl))) pa_nilM)) (nomark _)))))
      (pss_oneM (ps_retM pe_blM))
      pss_nilM)
      (pss_oneM (ps_forM [4, 5] (passes_of rfl) rfl (pi_zipMM (by rfl) B.zip (pa_consM (pe_varM rfl (by first | exact .inl rfl | exact .inr (.inl rfl) | exact .inr (.inr rfl))) (pa_consM (pe_varM rfl (by first | exact .inl rfl | exact .inr (.inl rfl) | exact .inr (.inr rfl))) pa_nilM))) (pg_tupM rfl (pgs_consM (pg_nameM true sc__law_is_table.nd rfl (Or.inl rfl)) (pgs_consM (pg_nameM true sc__law_is_table.nd rfl (Or.inl rfl)) pgs_nilM)) (tgCons_n (tgCons_n tgNil_n)))
      (pss_oneM (ps_ifM (PW.pt (pt_orM (pt_notM (pt_truM (pe_isiQM (t := .list) (u := .tuple) rfl (by rfl) B.isinstance (pe_varM rfl (by first | exact .inl rfl | exact .inr (.inl rfl) | exact .inr (.inr rfl))) (pe_bltn (v := .ty "list") (by rfl) B.list (by decide +kernel) rfl) (pe_bltn (v := .ty "tuple") (by rfl) B.tuple (by decide +kernel) rfl)))) (pt_or1M (pt_notM (pt_truM (pe_clM .v d__law_same bd__law_same (hr.mono (by omega)) tk (pa_consM (pe_callTyM cr_listOf fit_list (by rfl) B.list (by decide +kernel) (pa_consM (pe_varM rfl (by first | exact .inl rfl | exact .inr (.inl rfl) | exact .inr (.inr rfl))) pa_nilM)) (pa_consM (pe_varM rfl (by first | exact .inl rfl | exact .inr (.inl rfl) | exact .inr (.inr rfl))) pa_nilM)) (aCons_n (aCons_n aNil_n))))))))
      (pss_oneM (ps_retM pe_blM))
      pss_nilM))))))
      (pss_oneM (ps_retM pe_blM)))), h⟩
noncomputable def F__law_met : Fn := fnOf 1
    ((mTry etab (mSeq (mIf (tBl (e2 (eVar 0) (eC (.int 0)) opEqS))
      (mRet (eN (aCons (eC (.str "told")) (aCons (eIf (tTru (eVar 2)) (callM .e (permF [1, 0] F_cost_table) (aCons (e2 (eVar 1) (eC (.int 1)) opIx) (aCons (e2 (eVar 1) (eC (.int 0)) opIx) aNil))) (callM .e F_cost_table (aCons (e2 (eVar 1) (eC (.int 0)) opIx) (aCons (e2 (eVar 1) (eC (.int 1)) opIx) aNil)))) aNil)) opLst))
      mNext)
      (mRet (eN (aCons (eC (.str "told")) (aCons (eIf (tTru (eVar 2)) (callM .e (permF [2, 1, 0] F_is_cost_table) (aCons (e2 (eVar 1) (eC (.int 2)) opIx) (aCons (e2 (eVar 1) (eC (.int 1)) opIx) (aCons (e2 (eVar 1) (eC (.int 0)) opIx) aNil)))) (callM .e F_is_cost_table (aCons (e2 (eVar 1) (eC (.int 0)) opIx) (aCons (e2 (eVar 1) (eC (.int 1)) opIx) (aCons (e2 (eVar 1) (eC (.int 2)) opIx) aNil))))) aNil)) opLst)))
      [⟨"InvalidCosts", some 3, ["given"], (mRet (eN (aCons (eC (.str "costs")) (aCons (eXf 3 "given") aNil)) opLst))⟩,
      ⟨"InvalidSlots", some 3, ["given"], (mRet (eN (aCons (eC (.str "slots")) (aCons (eXf 3 "given") aNil)) opLst))⟩]))
theorem df__law_met {P : Program} {w : World} {K : PySem.W.Frag} {mg : Str → Option Value} {base : Heap} (F : At K mg "_law_met" s__law_met) (B : Bi mg) (d_cost_table : Df P w K mg base 5 "cost_table" s_cost_table ["costs", "c"] F_cost_table) (d_is_cost_table : Df P w K mg base 5 "is_cost_table" s_is_cost_table ["costs", "c", "value"] F_is_cost_table) {X_InvalidCosts : Addr} (c_InvalidCosts : mg "InvalidCosts" = some (.ref X_InvalidCosts)) {X_InvalidSlots : Addr} (c_InvalidSlots : mg "InvalidSlots" = some (.ref X_InvalidSlots)) (et : EtOk K mg etab) : Df P w K mg base 6 "_law_met" s__law_met ["kind", "args", "by_name"] F__law_met := by
  obtain ⟨f, fd, F, gm⟩ := F
  refine ⟨f, fd, F.okX sc__law_met (fun vs H Q E h => spM_len h) (fun cdv A outer s H vs Q E hr h => ?_), gm, F⟩
  have h := body_ok (N := ["kind", "args", "by_name", "e"]) (z := 1) rfl h
  have tk : Takes (cxOf (L2.CX P w) P w K mg base ["kind", "args", "by_name", "e"] "_law_met" (defScope s__law_met) f cdv A outer s H E) (fun c d _ H => E c d H) := takes_of rfl rfl rfl rfl
  exact ⟨_, (pss_oneM (ps_tryM rfl rfl sc__law_met.nd tk et (fun W pn xe tk _ => (pss_consM (ps_ifM (pt_cmpM op_eq fit_eqS (pe_varM rfl (by first | exact .inl rfl | exact .inr (.inl rfl) | exact .inr (.inr rfl))) pe_intM (nomark _))
      (pss_oneM (ps_retM (pe_lstM (pa_consM pe_strM (pa_consM (pe_ifM (pt_truM (pe_varM rfl (by first | exact .inl rfl | exact .inr (.inl rfl) | exact .inr (.inr rfl)))) (pe_clKM .e d_cost_table k_cost_table_1_0 (hr.mono (by omega)) tk (pk_consM (pe_ixM fit_ix (pe_varM rfl (by first | exact .inl rfl | exact .inr (.inl rfl) | exact .inr (.inr rfl))) pe_intM (fun _ _ => rfl)) (pk_consM (pe_ixM fit_ix (pe_varM rfl (by first | exact .inl rfl | exact .inr (.inl rfl) | exact .inr (.inr rfl))) pe_intM (fun _ _ => rfl)) pk_nilM)) (aCons_n (aCons_n aNil_n)) rfl rfl rfl) (pe_clM .e d_cost_table bd_cost_table (hr.mono (by omega)) tk (pa_consM (pe_ixM fit_ix (pe_varM rfl (by first | exact .inl rfl | exact .inr (.inl rfl) | exact .inr (.inr rfl))) pe_intM (fun _ _ => rfl)) (pa_consM (pe_ixM fit_ix (pe_varM rfl (by first | exact .inl rfl | exact .inr (.inl rfl) | exact .inr (.inr rfl))) pe_intM (fun _ _ => rfl)) pa_nilM)) (aCons_n (aCons_n aNil_n)))) pa_nilM)))))
      pss_nilM)
      (pss_oneM (ps_retM (pe_lstM (pa_consM pe_strM (pa_consM (pe_ifM (pt_truM (pe_varM rfl (by first | exact .inl rfl | exact .inr (.inl rfl) | exact .inr (.inr rfl)))) (pe_clKM .e d_is_cost_table k_is_cost_table_2_1_0 (hr.mono (by omega)) tk (pk_consM (pe_ixM fit_ix (pe_varM rfl (by first | exact .inl rfl | exact .inr (.inl rfl) | exact .inr (.inr rfl))) pe_intM (fun _ _ => rfl)) (pk_consM (pe_ixM fit_ix (pe_varM rfl (by first | exact .inl rfl | exact .inr (.inl rfl) | exact .inr (.inr rfl))) pe_intM (fun _ _ => rfl)) (pk_consM (pe_ixM fit_ix (pe_varM rfl (by first | exact .inl rfl | exact .inr (.inl rfl) | exact .inr (.inr rfl))) pe_intM (fun _ _ => rfl)) pk_nilM))) (aCons_n (aCons_n (aCons_n aNil_n))) rfl rfl rfl) (pe_clM .e d_is_cost_table bd_is_cost_table (hr.mono (by omega)) tk (pa_consM (pe_ixM fit_ix (pe_varM rfl (by first | exact .inl rfl | exact .inr (.inl rfl) | exact .inr (.inr rfl))) pe_intM (fun _ _ => rfl)) (pa_consM (pe_ixM fit_ix (pe_varM rfl (by first | exact .inl rfl | exact .inr (.inl rfl) | exact .inr (.inr rfl))) pe_intM (fun _ _ => rfl)) (pa_consM (pe_ixM fit_ix (pe_varM rfl (by first | exact .inl rfl | exact .inr (.inl rfl) | exact .inr (.inr rfl))) pe_intM (fun _ _ => rfl)) pa_nilM))) (aCons_n (aCons_n (aCons_n aNil_n))))) pa_nilM)))))))
      (ClsM.named (i := 3) ["given"] c_InvalidCosts rfl (by decide) rfl rfl (fun a oe C dd pn T no hz hf => (pss_oneM (ps_retM (pe_lstM (pa_consM pe_strM (pa_consM (pe_xfM T (no "given" (by decide)) hz hf rfl (by first | exact .inl rfl | exact .inr (.inl rfl) | exact .inr (.inr rfl))) pa_nilM)))))) (ClsM.named (i := 3) ["given"] c_InvalidSlots rfl (by decide) rfl rfl (fun a oe C dd pn T no hz hf => (pss_oneM (ps_retM (pe_lstM (pa_consM pe_strM (pa_consM (pe_xfM T (no "given" (by decide)) hz hf rfl (by first | exact .inl rfl | exact .inr (.inl rfl) | exact .inr (.inr rfl))) pa_nilM)))))) ClsM.nil)))), h⟩
noncomputable def F__law_table_right : Fn := fnOf 5
    ((mSeq (mSet true 4 (callM .v F__law_table (aCons (eVar 1) (aCons (eVar 2) aNil))))
      (mSeq (mFor (itRow (eN (aCons (eVar 3) (aCons (eNot (eVar 3)) aNil)) opLst)) (tgName true 5) [5, 6]
      (mSeq (mSet false 6 (callM .e F__law_met (aCons (eC (.int 0)) (aCons (eN (aCons (eVar 1) (aCons (eVar 2) aNil)) opLst) (aCons (eVar 5) aNil)))))
      (mSeq (mIf (tNotM (tTru (callM .v F__law_same (aCons (eVar 6) (aCons (eN (aCons (eC (.str "told")) (aCons (eVar 4) aNil)) opLst) aNil)))))
      (mRet (eC (.bl false)))
      mNext)
      (mSeq (mExpr (eMut (plIx (plIx (plIx (plVar 6) (eC (.int 1))) (eC (.int 0))) (eC (.int 0))) (aCons (eC (.str "more")) aNil) uApp))
      (mExpr (eMut (plIx (plIx (plVar 6) (eC (.int 1))) (e1 (eC (.int 1)) (opI fun i => .int (-i)))) (aCons (eC (.int 0)) (aCons (eC (.str "more")) aNil)) uIns))))))
      (mSeq (mSet true 7 (e2 (e2 (e2 (eVar 4) (e1 (eC (.int 1)) (opI fun i => .int (-i))) opIx) (eC (.int 0)) opIx) (e1 (eC (.int 1)) (opI fun i => .int (-i))) opIx))
      (mSeq (mIf (tNotM (tTru (callM .v F__law_same (aCons (eN (aCons (callM .e F_least_cost (aCons (eVar 1) (aCons (eVar 2) aNil))) (aCons (callM .e (permF [1, 0] F_least_cost) (aCons (eVar 2) (aCons (eN (aCons (eVar 1) aNil) opTuple) aNil))) aNil)) opLst) (aCons (eN (aCons (eVar 7) (aCons (eVar 7) aNil)) opLst) aNil)))))
      (mRet (eC (.bl false)))
      mNext)
      (mSeq (mFor (itRow (callM .e F__law_values (aCons (eVar 0) (aCons (eVar 4) aNil)))) (tgName true 8) [8]
      (mSeq (mIf (tNotM (tTru (callM .v F__law_same (aCons (callM .e F__law_met (aCons (eC (.int 1)) (aCons (eN (aCons (eVar 1) (aCons (eVar 2) (aCons (eVar 8) aNil))) opLst) (aCons (eVar 3) aNil)))) (aCons (eN (aCons (eC (.str "told")) (aCons (callM .v F__law_is_table (aCons (eVar 4) (aCons (eVar 8) aNil))) aNil)) opLst) aNil)))))
      (mRet (eC (.bl false)))
      mNext)
      (mSet true 3 (eNot (eVar 3)))))
      (mRet (eC (.bl true)))))))))
theorem df__law_table_right {P : Program} {w : World} {K : PySem.W.Frag} {mg : Str → Option Value} {base : Heap} (F : At K mg "_law_table_right" s__law_table_right) (B : Bi mg) (d__law_is_table : Df P w K mg base 10 "_law_is_table" s__law_is_table ["due", "value"] F__law_is_table) (d__law_met : Df P w K mg base 6 "_law_met" s__law_met ["kind", "args", "by_name"] F__law_met) (d__law_same : Df P w K mg base 9 "_law_same" s__law_same ["told", "due"] F__law_same) (d__law_table : Df P w K mg base 1 "_law_table" s__law_table ["costs", "c"] F__law_table) (d__law_values : Df P w K mg base 2 "_law_values" s__law_values ["box", "due"] F__law_values) (d_least_cost : Df P w K mg base 5 "least_cost" s_least_cost ["costs", "c"] F_least_cost) : Df P w K mg base 11 "_law_table_right" s__law_table_right ["box", "costs", "c", "by_name"] F__law_table_right := by
  obtain ⟨f, fd, F, gm⟩ := F
  refine ⟨f, fd, F.okX sc__law_table_right (fun vs H Q E h => spM_len h) (fun cdv A outer s H vs Q E hr h => ?_), gm, F⟩
  have h := body_ok (N := ["box", "costs", "c", "by_name", "due", "turn", "told", "last", "value"]) (z := 5) rfl h
  have tk : Takes (cxOf (L2.CX P w) P w K mg base ["box", "costs", "c", "by_name", "due", "turn", "told", "last", "value"] "_law_table_right" (defScope s__law_table_right) f cdv A outer s H E) (fun c d _ H => E c d H) := takes_of rfl rfl rfl rfl
  exact ⟨_, (pss_consM (ps_setM true sc__law_table_right.nd rfl (Or.inl rfl) (pe_clM .v d__law_table bd__law_table (hr.mono (by omega)) tk (pa_consM (pe_varM rfl (by first | exact .inl rfl | exact .inr (.inl rfl) | exact .inr (.inr rfl))) (pa_consM (pe_varM rfl (by first | exact .inl rfl | exact .inr (.inl rfl) | exact .inr (.inr rfl))) pa_nilM)) (aCons_n (aCons_n aNil_n))))
      (pss_consM (ps_forM [5, 6] (passes_of rfl) rfl (pi_rowM (pe_lstM (pa_consM (pe_varM rfl (by first | exact .inl rfl | exact .inr (.inl rfl) | exact .inr (.inr rfl))) (pa_consM (pe_notM (pe_varM rfl (by first | exact .inl rfl | exact .inr (.inl rfl) | exact .inr (.inr rfl)))) pa_nilM)))) (pg_nameM true sc__law_table_right.nd rfl (Or.inl rfl))
      (pss_consM (ps_setM false sc__law_table_right.nd rfl (Or.inl rfl) (pe_clM .e d__law_met bd__law_met (hr.mono (by omega)) tk (pa_consM pe_intM (pa_consM (pe_lstM (pa_consM (pe_varM rfl (by first | exact .inl rfl | exact .inr (.inl rfl) | exact .inr (.inr rfl))) (pa_consM (pe_varM rfl (by first | exact .inl rfl | exact .inr (.inl rfl) | exact .inr (.inr rfl))) pa_nilM))) (pa_consM (pe_varM rfl (by first | exact .inl rfl | exact .inr (.inl rfl) | exact .inr (.inr rfl))) pa_nilM))) (aCons_n (aCons_n (aCons_n aNil_n)))))
      (pss_consM (ps_ifM (pt_notM (pt_truM (pe_clM .v d__law_same bd__law_same (hr.mono (by omega)) tk (pa_consM (pe_varM rfl (by first | exact .inl rfl | exact .inr (.inl rfl) | exact .inr (.inr rfl))) (pa_consM (pe_lstM (pa_consM pe_strM (pa_consM (pe_varM rfl (by first | exact .inl rfl | exact .inr (.inl rfl) | exact .inr (.inr rfl))) pa_nilM))) pa_nilM)) (aCons_n (aCons_n aNil_n)))))
      (pss_oneM (ps_retM pe_blM))
      pss_nilM)
      (pss_consM (ps_exprM (pe_mutM fit_app PySem.F.plainAttrs_list PySem.F.slot_list_append PySem.F.type_list_append mt_append (pl_ix (pl_ix (pl_ix pl_var))) (pe_ix (cr_ix ⟨K, mg, none⟩) (pe_ix (cr_ix ⟨K, mg, none⟩) (pe_ix (cr_ix ⟨K, mg, none⟩) (pe_var rfl (by first | exact .inl rfl | exact .inr (.inl rfl) | exact .inr (.inr rfl))) pe_intM (fun _ _ => rfl)) pe_intM (fun _ _ => rfl)) pe_intM (fun _ _ => rfl)) (pa_consM pe_strM pa_nilM)))
      (pss_oneM (ps_exprM (pe_mutM fit_ins PySem.F.plainAttrs_list PySem.F.slot_list_insert PySem.F.type_list_insert mt_insert (pl_ix (pl_ix pl_var)) (pe_ix (cr_ix ⟨K, mg, none⟩) (pe_ix (cr_ix ⟨K, mg, none⟩) (pe_var rfl (by first | exact .inl rfl | exact .inr (.inl rfl) | exact .inr (.inr rfl))) pe_intM (fun _ _ => rfl)) (pe_unM un_neg fit_neg pe_intM) (fun _ _ => rfl)) (pa_consM pe_intM (pa_consM pe_strM pa_nilM)))))))))
      (pss_consM (ps_setM true sc__law_table_right.nd rfl (Or.inl rfl) (pe_ixM fit_ix (pe_ixM fit_ix (pe_ixM fit_ix (pe_varM rfl (by first | exact .inl rfl | exact .inr (.inl rfl) | exact .inr (.inr rfl))) (pe_unM un_neg fit_neg pe_intM) (fun _ _ => rfl)) pe_intM (fun _ _ => rfl)) (pe_unM un_neg fit_neg pe_intM) (fun _ _ => rfl)))
      (pss_consM (ps_ifM (pt_notM (pt_truM (pe_clM .v d__law_same bd__law_same (hr.mono (by omega)) tk (pa_consM (pe_lstM (pa_consM (pe_clM .e d_least_cost bd_least_cost (hr.mono (by omega)) tk (pa_consM (pe_varM rfl (by first | exact .inl rfl | exact .inr (.inl rfl) | exact .inr (.inr rfl))) (pa_consM (pe_varM rfl (by first | exact .inl rfl | exact .inr (.inl rfl) | exact .inr (.inr rfl))) pa_nilM)) (aCons_n (aCons_n aNil_n))) (pa_consM (pe_clKM .e d_least_cost k_least_cost_1_0 (hr.mono (by omega)) tk (pk_consM (pe_varM rfl (by first | exact .inl rfl | exact .inr (.inl rfl) | exact .inr (.inr rfl))) (pk_consM (pe_callTyM cr_tupOf fit_tuple (by rfl) B.tuple (by decide +kernel) (pa_consM (pe_varM rfl (by first | exact .inl rfl | exact .inr (.inl rfl) | exact .inr (.inr rfl))) pa_nilM)) pk_nilM)) (aCons_n (aCons_n aNil_n)) rfl rfl rfl) pa_nilM))) (pa_consM (pe_lstM (pa_consM (pe_varM rfl (by first | exact .inl rfl | exact .inr (.inl rfl) | exact .inr (.inr rfl))) (pa_consM (pe_varM rfl (by first | exact .inl rfl | exact .inr (.inl rfl) | exact .inr (.inr rfl))) pa_nilM))) pa_nilM)) (aCons_n (aCons_n aNil_n)))))
      (pss_oneM (ps_retM pe_blM))
      pss_nilM)
      (pss_consM (ps_forM [8] (passes_of rfl) rfl (pi_rowM (pe_clM .e d__law_values bd__law_values (hr.mono (by omega)) tk (pa_consM (pe_varM rfl (by first | exact .inl rfl | exact .inr (.inl rfl) | exact .inr (.inr rfl))) (pa_consM (pe_varM rfl (by first | exact .inl rfl | exact .inr (.inl rfl) | exact .inr (.inr rfl))) pa_nilM)) (aCons_n (aCons_n aNil_n)))) (pg_nameM true sc__law_table_right.nd rfl (Or.inl rfl))
      (pss_consM (ps_ifM (pt_notM (pt_truM (pe_clM .v d__law_same bd__law_same (hr.mono (by omega)) tk (pa_consM (pe_clM .e d__law_met bd__law_met (hr.mono (by omega)) tk (pa_consM pe_intM (pa_consM (pe_lstM (pa_consM (pe_varM rfl (by first | exact .inl rfl | exact .inr (.inl rfl) | exact .inr (.inr rfl))) (pa_consM (pe_varM rfl (by first | exact .inl rfl | exact .inr (.inl rfl) | exact .inr (.inr rfl))) (pa_consM (pe_varM rfl (by first | exact .inl rfl | exact .inr (.inl rfl) | exact .inr (.inr rfl))) pa_nilM)))) (pa_consM (pe_varM rfl (by first | exact .inl rfl | exact .inr (.inl rfl) | exact .inr (.inr rfl))) pa_nilM))) (aCons_n (aCons_n (aCons_n aNil_n)))) (pa_consM (pe_lstM (pa_consM pe_strM (pa_consM (pe_clM .v d__law_is_table bd__law_is_table (hr.mono (by omega)) tk (pa_consM (pe_varM rfl (by first | exact .inl rfl | exact .inr (.inl rfl) | exact .inr (.inr rfl))) (pa_consM (pe_varM rfl (by first | exact .inl rfl | exact .inr (.inl rfl) | exact .inr (.inr rfl))) pa_nilM)) (aCons_n (aCons_n aNil_n))) pa_nilM))) pa_nilM)) (aCons_n (aCons_n aNil_n)))))
      (pss_oneM (ps_retM pe_blM))
      pss_nilM)
      (pss_oneM (ps_setM true sc__law_table_right.nd rfl (Or.inl rfl) (pe_notM (pe_varM rfl (by first | exact .inl rfl | exact .inr (.inl rfl) | exact .inr (.inr rfl))))))))
      (pss_oneM (ps_retM pe_blM))))))), h⟩
noncomputable def F__law_refused_right : Fn := fnOf 3
    ((mSeq (mFor (itRng1 (aCons (eC (.int 2)) aNil)) (tgName true 2) [2, 3, 4]
      (mSeq (mSetRef 3 (e2 (eN (aCons (eC .non) (aCons (eC (.int 5)) (aCons eDNew (aCons (eC (.str "1")) (aCons (eN aNil opLst) (aCons (eN (aCons (eC (.int 0)) aNil) opLst) (aCons (eN (aCons (eC (.int 1000001)) aNil) opLst) (aCons (eN (aCons (eC (.bl true)) aNil) opLst) (aCons (e2 (eN (aCons (eC (.int 1)) aNil) opLst) (eC (.int 61)) opRep) (aCons (eN (aCons (eC (.int 1)) (aCons (eC .non) aNil)) opLst) (aCons (eN (aCons (eN (aCons (eC (.int 1)) aNil) opTup) aNil) opLst) (aCons (eN (aCons (e1 (eC (.int 1)) (opI fun i => .int (-i))) aNil) opLst) aNil)))))))))))) opLst) (callM .e F__law_take (aCons (eVar 0) (aCons (eC (.int 12)) aNil))) opIxO))
      (mSeq (mSet true 4 (callM .e F__law_met (aCons (eVar 2) (aCons (eN (aCons (eVar 3) (aCons (eC .non) (aCons (eC .non) aNil))) opLst) (aCons (eVar 1) aNil)))))
      (mSeq (mExpr (callM .e F__law_grown (aCons (eVar 3) aNil)))
      (mSeq (mIf (tOrM (tBl (e2 (e2 (eVar 4) (eC (.int 0)) opIx) (eC (.str "costs")) opNeS)) (tNotM (tTru (callM .v F__law_same (aCons (e2 (eVar 4) (eC (.int 1)) opIx) (aCons (eVar 3) aNil))))))
      (mRet (eC (.bl false)))
      mNext)
      (mSeq (mSetRef 3 (e2 (eN (aCons (eC .non) (aCons (eC (.int 0)) (aCons (eC (.int 41)) (aCons (e1 (eC (.int 1)) (opI fun i => .int (-i))) (aCons (eC (.bl true)) (aCons (eC (.str "1")) (aCons (eN (aCons (eC (.int 1)) aNil) opLst) (aCons (eN (aCons (eC (.int 1)) aNil) opTup) (aCons eDNew aNil))))))))) opLst) (callM .e F__law_take (aCons (eVar 0) (aCons (eC (.int 9)) aNil))) opIxO))
      (mSeq (mSet true 4 (callM .e F__law_met (aCons (eVar 2) (aCons (eN (aCons (eN (aCons (eC (.int 3)) (aCons (eC (.int 1)) aNil)) opLst) (aCons (eVar 3) (aCons (eC .non) aNil))) opLst) (aCons (eNot (eVar 1)) aNil)))))
      (mSeq (mExpr (callM .e F__law_grown (aCons (eVar 3) aNil)))
      (mIf (tOrM (tBl (e2 (e2 (eVar 4) (eC (.int 0)) opIx) (eC (.str "slots")) opNeS)) (tNotM (tTru (callM .v F__law_same (aCons (e2 (eVar 4) (eC (.int 1)) opIx) (aCons (eVar 3) aNil))))))
      (mRet (eC (.bl false)))
      mNext)))))))))
      (mRet (eC (.bl true)))))
theorem df__law_refused_right {P : Program} {w : World} {K : PySem.W.Frag} {mg : Str → Option Value} {base : Heap} (F : At K mg "_law_refused_right" s__law_refused_right) (B : Bi mg) (d__law_grown : Df P w K mg base 1 "_law_grown" s__law_grown ["value"] F__law_grown) (d__law_met : Df P w K mg base 6 "_law_met" s__law_met ["kind", "args", "by_name"] F__law_met) (d__law_same : Df P w K mg base 9 "_law_same" s__law_same ["told", "due"] F__law_same) (d__law_take : Df P w K mg base 1 "_law_take" s__law_take ["box", "many"] F__law_take) : Df P w K mg base 10 "_law_refused_right" s__law_refused_right ["box", "by_name"] F__law_refused_right := by
  obtain ⟨f, fd, F, gm⟩ := F
  refine ⟨f, fd, F.okX sc__law_refused_right (fun vs H Q E h => spM_len h) (fun cdv A outer s H vs Q E hr h => ?_), gm, F⟩
  have h := body_ok (N := ["box", "by_name", "kind", "odd", "told"]) (z := 3) rfl h
  have tk : Takes (cxOf (L2.CX P w) P w K mg base ["box", "by_name", "kind", "odd", "told"] "_law_refused_right" (defScope s__law_refused_right) f cdv A outer s H E) (fun c d _ H => E c d H) := takes_of rfl rfl rfl rfl
  exact ⟨_, (pss_consM (ps_forM [2, 3, 4] (passes_of rfl) rfl (pi_rng1M (by rfl) B.range (pa_consM pe_intM pa_nilM)) (pg_nameM true sc__law_refused_right.nd rfl (Or.inl rfl))
      (pss_consM (ps_setRefM sc__law_refused_right.nd rfl (Or.inl rfl) (pe_ixM fit_ixO (pe_lstM (pa_consM pe_nonM (pa_consM pe_intM (pa_consM pe_dnewM (pa_consM pe_strM (pa_consM (pe_lstM pa_nilM) (pa_consM (pe_lstM (pa_consM pe_intM pa_nilM)) (pa_consM (pe_lstM (pa_consM pe_intM pa_nilM)) (pa_consM (pe_lstM (pa_consM pe_blM pa_nilM)) (pa_consM (pe_opM op_rep fit_rep (pe_lstM (pa_consM pe_intM pa_nilM)) pe_intM) (pa_consM (pe_lstM (pa_consM pe_intM (pa_consM pe_nonM pa_nilM))) (pa_consM (pe_lstM (pa_consM (pe_tupM (pa_consM pe_intM pa_nilM)) pa_nilM)) (pa_consM (pe_lstM (pa_consM (pe_unM un_neg fit_neg pe_intM) pa_nilM)) pa_nilM))))))))))))) (pe_clM .e d__law_take bd__law_take (hr.mono (by omega)) tk (pa_consM (pe_varM rfl (by first | exact .inl rfl | exact .inr (.inl rfl) | exact .inr (.inr rfl))) (pa_consM pe_intM pa_nilM)) (aCons_n (aCons_n aNil_n))) (fun _ _ => rfl)))
      (pss_consM (ps_setM true sc__law_refused_right.nd rfl (Or.inl rfl) (pe_clM .e d__law_met bd__law_met (hr.mono (by omega)) tk (pa_consM (pe_varM rfl (by first | exact .inl rfl | exact .inr (.inl rfl) | exact .inr (.inr rfl))) (pa_consM (pe_lstM (pa_consM (pe_varM rfl (by first | exact .inl rfl | exact .inr (.inl rfl) | exact .inr (.inr rfl))) (pa_consM pe_nonM (pa_consM pe_nonM pa_nilM)))) (pa_consM (pe_varM rfl (by first | exact .inl rfl | exact .inr (.inl rfl) | exact .inr (.inr rfl))) pa_nilM))) (aCons_n (aCons_n (aCons_n aNil_n)))))
      (pss_consM (ps_exprM (pe_clM .e d__law_grown bd__law_grown (hr.mono (by omega)) tk (pa_consM (pe_varM rfl (by first | exact .inl rfl | exact .inr (.inl rfl) | exact .inr (.inr rfl))) pa_nilM) (aCons_n aNil_n)))
      (pss_consM (ps_ifM (PW.pt (pt_orM (pt_cmpM op_ne fit_neS (pe_ixM fit_ix (pe_varM rfl (by first | exact .inl rfl | exact .inr (.inl rfl) | exact .inr (.inr rfl))) pe_intM (fun _ _ => rfl)) pe_strM (nomark _)) (pt_or1M (pt_notM (pt_truM (pe_clM .v d__law_same bd__law_same (hr.mono (by omega)) tk (pa_consM (pe_ixM fit_ix (pe_varM rfl (by first | exact .inl rfl | exact .inr (.inl rfl) | exact .inr (.inr rfl))) pe_intM (fun _ _ => rfl)) (pa_consM (pe_varM rfl (by first | exact .inl rfl | exact .inr (.inl rfl) | exact .inr (.inr rfl))) pa_nilM)) (aCons_n (aCons_n aNil_n))))))))
      (pss_oneM (ps_retM pe_blM))
      pss_nilM)
      (pss_consM (ps_setRefM sc__law_refused_right.nd rfl (Or.inl rfl) (pe_ixM fit_ixO (pe_lstM (pa_consM pe_nonM (pa_consM pe_intM (pa_consM pe_intM (pa_consM (pe_unM un_neg fit_neg pe_intM) (pa_consM pe_blM (pa_consM pe_strM (pa_consM (pe_lstM (pa_consM pe_intM pa_nilM)) (pa_consM (pe_tupM (pa_consM pe_intM pa_nilM)) (pa_consM pe_dnewM pa_nilM)))))))))) (pe_clM .e d__law_take bd__law_take (hr.mono (by omega)) tk (pa_consM (pe_varM rfl (by first | exact .inl rfl | exact .inr (.inl rfl) | exact .inr (.inr rfl))) (pa_consM pe_intM pa_nilM)) (aCons_n (aCons_n aNil_n))) (fun _ _ => rfl)))
      (pss_consM (ps_setM true sc__law_refused_right.nd rfl (Or.inl rfl) (pe_clM .e d__law_met bd__law_met (hr.mono (by omega)) tk (pa_consM (pe_varM rfl (by first | exact .inl rfl | exact .inr (.inl rfl) | exact .inr (.inr rfl))) (pa_consM (pe_lstM (pa_consM (pe_lstM (pa_consM pe_intM (pa_consM pe_intM pa_nilM))) (pa_consM (pe_varM rfl (by first | exact .inl rfl | exact .inr (.inl rfl) | exact .inr (.inr rfl))) (pa_consM pe_nonM pa_nilM)))) (pa_consM (pe_notM (pe_varM rfl (by first | exact .inl rfl | exact .inr (.inl rfl) | exact .inr (.inr rfl)))) pa_nilM))) (aCons_n (aCons_n (aCons_n aNil_n)))))
      (pss_consM (ps_exprM (pe_clM .e d__law_grown bd__law_grown (hr.mono (by omega)) tk (pa_consM (pe_varM rfl (by first | exact .inl rfl | exact .inr (.inl rfl) | exact .inr (.inr rfl))) pa_nilM) (aCons_n aNil_n)))
      (pss_oneM (ps_ifM (PW.pt (pt_orM (pt_cmpM op_ne fit_neS (pe_ixM fit_ix (pe_varM rfl (by first | exact .inl rfl | exact .inr (.inl rfl) | exact .inr (.inr rfl))) pe_intM (fun _ _ => rfl)) pe_strM (nomark _)) (pt_or1M (pt_notM (pt_truM (pe_clM .v d__law_same bd__law_same (hr.mono (by omega)) tk (pa_consM (pe_ixM fit_ix (pe_varM rfl (by first | exact .inl rfl | exact .inr (.inl rfl) | exact .inr (.inr rfl))) pe_intM (fun _ _ => rfl)) (pa_consM (pe_varM rfl (by first | exact .inl rfl | exact .inr (.inl rfl) | exact .inr (.inr rfl))) pa_nilM)) (aCons_n (aCons_n aNil_n))))))))
      (pss_oneM (ps_retM pe_blM))
      pss_nilM))))))))))
      (pss_oneM (ps_retM pe_blM))), h⟩
noncomputable def F_law : Fn := fnOf 8
    ((mSeq (mSet true 1 (e2 (e2 (eN (aCons (eN (aCons (eSl (eVar 0) pNo (pSo (eC (.int 1)))) aNil) (opInts fun l => some (.int l.sum))) aNil) opInt) (eC (.int 8)) (opII (gIc (fun _ j => j ≠ 0) Int.fmod))) (eC (.int 6)) opEqS))
      (mSeq (mFor (itRng1 (aCons (eN (aCons (eC (.int 2)) (aCons (eN (aCons (eC (.int 4)) (aCons (eN (aCons (eVar 0) aNil) opLen) aNil)) (opII (gI fun i j => if j < i then j else i))) aNil)) (opII (gI fun i j => if j > i then j else i))) aNil)) (tgName true 2) [2, 3, 4, 5, 6, 7]
      (mSeq (mSetRef 3 (callM .v F__law_box (aCons (callM .v F__law_cell (aCons (eVar 0) (aCons (eVar 2) aNil))) aNil)))
      (mSeq (mSet true 4 (e2 (callM .e F__law_take (aCons (eVar 3) (aCons (eC (.int 2)) aNil))) (eC (.int 0)) opEqS))
      (mSeq (mPar true true 5 6 (aCons (e2 (eN (aCons (e2 (eC (.int 1)) (callM .e F__law_take (aCons (eVar 3) (aCons (eC (.int 4)) aNil))) (opII (gI (· + ·)))) (aCons (e2 (eC (.int 1)) (callM .e F__law_take (aCons (eVar 3) (aCons (eC (.int 12)) aNil))) (opII (gI (· + ·)))) aNil)) opLst) (callM .e F__law_take (aCons (eVar 3) (aCons (eC (.int 2)) aNil))) opIxO) (aCons (e2 (eC (.int 1)) (callM .e F__law_take (aCons (eVar 3) (aCons (eC (.int 4)) aNil))) (opII (gI (· + ·)))) aNil)))
      (mSeq (mIf (tAndM (tTru (eVar 1)) (tBl (e2 (eVar 2) (eC (.int 0)) opEqS)))
      (mAsg (eN (aCons (eC (.int 40)) (aCons (eC (.int 3)) aNil)) opTup) (tgTup (tgCons (tgName true 5) (tgCons (tgName true 6) tgNil))))
      mNext)
      (mSeq (mSet true 7 (mComp (itRng1 (aCons (eVar 5) aNil)) (tgName true 8) mYes (e2 (eN (aCons (eC (.int 1)) (aCons (eC (.int 2)) (aCons (eC (.int 3)) (aCons (eC (.int 17)) (aCons (eC (.int 1000000)) aNil))))) opLst) (callM .e F__law_take (aCons (eVar 3) (aCons (eC (.int 5)) aNil))) opIxO) [8]))
      (mIf (tOrM (tNotM (tTru (callM .e F__law_table_right (aCons (eVar 3) (aCons (eVar 7) (aCons (eVar 6) (aCons (eVar 4) aNil))))))) (tNotM (tTru (callM .e F__law_refused_right (aCons (eVar 3) (aCons (eVar 4) aNil))))))
      (mRet (eC (.bl false)))
      mNext)))))))
      (mRet (eC (.bl true))))))
theorem df_law {P : Program} {w : World} {K : PySem.W.Frag} {mg : Str → Option Value} {base : Heap} (F : At K mg "law" s_law) (B : Bi mg) (d__law_box : Df P w K mg base 1 "_law_box" s__law_box ["great"] F__law_box) (d__law_cell : Df P w K mg base 1 "_law_cell" s__law_cell ["script", "k"] F__law_cell) (d__law_refused_right : Df P w K mg base 10 "_law_refused_right" s__law_refused_right ["box", "by_name"] F__law_refused_right) (d__law_table_right : Df P w K mg base 11 "_law_table_right" s__law_table_right ["box", "costs", "c", "by_name"] F__law_table_right) (d__law_take : Df P w K mg base 1 "_law_take" s__law_take ["box", "many"] F__law_take) : Df P w K mg base 12 "law" s_law ["script"] F_law := by
  obtain ⟨f, fd, F, gm⟩ := F
  refine ⟨f, fd, F.okX sc_law (fun vs H Q E h => spM_len h) (fun cdv A outer s H vs Q E hr h => ?_), gm, F⟩
  have h := body_ok (N := ["script", "great", "k", "box", "by_name", "many", "c", "costs", "turn"]) (z := 8) rfl h
  have tk : Takes (cxOf (L2.CX P w) P w K mg base ["script", "great", "k", "box", "by_name", "many", "c", "costs", "turn"] "law" (defScope s_law) f cdv A outer s H E) (fun c d _ H => E c d H) := takes_of rfl rfl rfl rfl
  exact ⟨_, (pss_consM (ps_setM true sc_law.nd rfl (Or.inl rfl) (pe_cmpM op_eq fit_eqS (pe_opM op_modN fit_Ic (pe_callTyM call_int1 fit_int (by rfl) B.int (by decide +kernel) (pa_consM (pe_callM (cr_sumM rfl) fit_sum (by rfl) B.sum (by decide +kernel) (pa_consM (pe_slM (pe_varM rfl (by first | exact .inl rfl | exact .inr (.inl rfl) | exact .inr (.inr rfl))) po_none (po_some pe_intM) pr_no pr_so) pa_nilM)) pa_nilM)) pe_intM) pe_intM (nomark _)))
      (pss_consM (ps_forM [2, 3, 4, 5, 6, 7] (passes_of rfl) rfl (pi_rng1M (by rfl) B.range (pa_consM (pe_callM (call_max2 rfl) fit_max2 (by rfl) B.max (by decide +kernel) (pa_consM pe_intM (pa_consM (pe_callM (call_min2 rfl) fit_min2 (by rfl) B.min (by decide +kernel) (pa_consM pe_intM (pa_consM (pe_callM cr_len fit_len (by rfl) B.len (by decide +kernel) (pa_consM (pe_varM rfl (by first | exact .inl rfl | exact .inr (.inl rfl) | exact .inr (.inr rfl))) pa_nilM)) pa_nilM))) pa_nilM))) pa_nilM)) (pg_nameM true sc_law.nd rfl (Or.inl rfl))
      (pss_consM (ps_setRefM sc_law.nd rfl (Or.inr rfl) (pe_clM .v d__law_box bd__law_box (hr.mono (by omega)) tk (pa_consM (pe_clM .v d__law_cell bd__law_cell (hr.mono (by omega)) tk (pa_consM (pe_varM rfl (by first | exact .inl rfl | exact .inr (.inl rfl) | exact .inr (.inr rfl))) (pa_consM (pe_varM rfl (by first | exact .inl rfl | exact .inr (.inl rfl) | exact .inr (.inr rfl))) pa_nilM)) (aCons_n (aCons_n aNil_n))) pa_nilM) (aCons_n aNil_n)))
      (pss_consM (ps_setM true sc_law.nd rfl (Or.inl rfl) (pe_cmpM op_eq fit_eqS (pe_clM .e d__law_take bd__law_take (hr.mono (by omega)) tk (pa_consM (pe_varM rfl (by first | exact .inl rfl | exact .inr (.inl rfl) | exact .inr (.inr rfl))) (pa_consM pe_intM pa_nilM)) (aCons_n (aCons_n aNil_n))) pe_intM (nomark _)))
      (pss_consM (ps_parM true true (by rfl) sc_law.nd rfl rfl (by decide) rfl rfl (pa_consM (pe_ixM fit_ixO (pe_lstM (pa_consM (pe_opM op_add fit_I0 pe_intM (pe_clM .e d__law_take bd__law_take (hr.mono (by omega)) tk (pa_consM (pe_varM rfl (by first | exact .inl rfl | exact .inr (.inl rfl) | exact .inr (.inr rfl))) (pa_consM pe_intM pa_nilM)) (aCons_n (aCons_n aNil_n)))) (pa_consM (pe_opM op_add fit_I0 pe_intM (pe_clM .e d__law_take bd__law_take (hr.mono (by omega)) tk (pa_consM (pe_varM rfl (by first | exact .inl rfl | exact .inr (.inl rfl) | exact .inr (.inr rfl))) (pa_consM pe_intM pa_nilM)) (aCons_n (aCons_n aNil_n)))) pa_nilM))) (pe_clM .e d__law_take bd__law_take (hr.mono (by omega)) tk (pa_consM (pe_varM rfl (by first | exact .inl rfl | exact .inr (.inl rfl) | exact .inr (.inr rfl))) (pa_consM pe_intM pa_nilM)) (aCons_n (aCons_n aNil_n))) (fun _ _ => rfl)) (pa_consM (pe_opM op_add fit_I0 pe_intM (pe_clM .e d__law_take bd__law_take (hr.mono (by omega)) tk (pa_consM (pe_varM rfl (by first | exact .inl rfl | exact .inr (.inl rfl) | exact .inr (.inr rfl))) (pa_consM pe_intM pa_nilM)) (aCons_n (aCons_n aNil_n)))) pa_nilM)) (by rfl))
      (pss_consM (ps_ifM (PW.pt (pt_andM (pt_truM (pe_varM rfl (by first | exact .inl rfl | exact .inr (.inl rfl) | exact .inr (.inr rfl)))) (pt_and1M (pt_cmpM op_eq fit_eqS (pe_varM rfl (by first | exact .inl rfl | exact .inr (.inl rfl) | exact .inr (.inr rfl))) pe_intM (nomark _)))))
      (pss_oneM (ps_asgM (pe_tupM (pa_consM pe_intM (pa_consM pe_intM pa_nilM))) (pg_tupM rfl (pgs_consM (pg_nameM true sc_law.nd rfl (Or.inl rfl)) (pgs_consM (pg_nameM true sc_law.nd rfl (Or.inl rfl)) pgs_nilM)) (tgCons_n (tgCons_n tgNil_n)))))
      pss_nilM)
      (pss_consM (ps_setLcM true (i := 7) (js := [8]) rfl sc_law.nd rfl rfl (sw_true rfl rfl rfl (by decide +kernel)) (pi_rng1M (by rfl) B.range (pa_consM (pe_varM rfl (by first | exact .inl rfl | exact .inr (.inl rfl) | exact .inr (.inr rfl))) pa_nilM)) (blkOk_by (own := [("turn", 8)]) (N := ["script", "great", "k", "box", "by_name", "many", "c", "costs", "turn"]) (sc := defScope s_law) (by decide +kernel)) (fun _ _ _ _ _ => ((pg_nameM true sc_law.nd rfl (Or.inl rfl)))) (fun _ _ _ _ _ => (pts_nilM)) (fun _ _ _ _ _ => ((pe_ixM fit_ixO (pe_lstM (pa_consM pe_intM (pa_consM pe_intM (pa_consM pe_intM (pa_consM pe_intM (pa_consM pe_intM pa_nilM)))))) (pe_clM .e d__law_take bd__law_take (hr.mono (by omega)) takes0W (pa_consM (pe_varM rfl (by first | exact .inl rfl | exact .inr (.inl rfl) | exact .inr (.inr rfl))) (pa_consM pe_intM pa_nilM)) (aCons_n (aCons_n aNil_n))) (fun _ _ => rfl)))) (by decide))
      (pss_oneM (ps_ifM (PW.pt (pt_orM (pt_notM (pt_truM (pe_clM .e d__law_table_right bd__law_table_right (hr.mono (by omega)) tk (pa_consM (pe_varM rfl (by first | exact .inl rfl | exact .inr (.inl rfl) | exact .inr (.inr rfl))) (pa_consM (pe_varM rfl (by first | exact .inl rfl | exact .inr (.inl rfl) | exact .inr (.inr rfl))) (pa_consM (pe_varM rfl (by first | exact .inl rfl | exact .inr (.inl rfl) | exact .inr (.inr rfl))) (pa_consM (pe_varM rfl (by first | exact .inl rfl | exact .inr (.inl rfl) | exact .inr (.inr rfl))) pa_nilM)))) (aCons_n (aCons_n (aCons_n (aCons_n aNil_n))))))) (pt_or1M (pt_notM (pt_truM (pe_clM .e d__law_refused_right bd__law_refused_right (hr.mono (by omega)) tk (pa_consM (pe_varM rfl (by first | exact .inl rfl | exact .inr (.inl rfl) | exact .inr (.inr rfl))) (pa_consM (pe_varM rfl (by first | exact .inl rfl | exact .inr (.inl rfl) | exact .inr (.inr rfl))) pa_nilM)) (aCons_n (aCons_n aNil_n))))))))
      (pss_oneM (ps_retM pe_blM))
      pss_nilM))))))))
      (pss_oneM (ps_retM pe_blM)))), h⟩
end N

namespace N
open MM GB L2 PySem
/-! what k29's machines reckon -/
theorem ev_is_integer {v d : D} {cs : List Ent} (h : der ⟨[], cs⟩ v = some d) (p : plain d = true) : F_is_integer [v] cs = .ok ⟨.al, .bl (isI d)⟩ ⟨[], cs⟩ true := by
  have h2 : ∀ env, der ⟨env, cs⟩ v = some d := fun env => by cases v <;> exact h
  rw [← isI_is]
  cases hb : d.isA .int <;> simp [F_is_integer, fnOf_s, h2, isiR_some p, hb]
theorem ev_is_between {v : D} {lo hi : Int} {cs : List Ent} (p : plain v = true) (nr : der ⟨[], cs.map shC⟩ v = some v) : F_is_between [v, .int lo, .int hi] cs = .ok ⟨.al, .bl (btw lo hi v)⟩ ⟨[], cs⟩ true := by
  have z := ev_is_integer (cs := cs.map shC) nr p
  simp [F_is_between, fnOf_s, z]
  cases v <;> simp [isI, btw]
  rename_i i
  by_cases h : lo ≤ i <;> simp [h]
end N

namespace N
open MM GB L2 PySem
theorem ev_is_list {v d : D} {cs : List Ent} (h : Dr cs v d) (p : plain d = true) : F_is_list [v] cs = .ok ⟨.al, .bl (d.isA .list || d.isA .tuple)⟩ ⟨[], cs⟩ true := by
  have h2 : ∀ env, der ⟨env, cs⟩ v = some d := h
  simp [F_is_list, fnOf_s, h2, isiR_some p]
def costsB (d : D) : Bool := match d.seq? with
  | some l => decide (1 ≤ l.length) && decide (l.length ≤ 60) && l.all (btw 1 1000000)
  | none => false
theorem ev_are_costs {v d : D} {cs : List Ent} (h : Dr cs v d) (hr : Rw cs v d) (p : plain d = true) (pe : ∀ l, d.seq? = some l → ∀ x ∈ l, plain x = true) : F_are_costs [v] cs = .ok ⟨.al, .bl (costsB d)⟩ ⟨[], cs⟩ true := by
  have h2 : ∀ env, der ⟨env, cs⟩ v = some d := h
  have h3 := ev_is_list h.sh p
  cases q : d.seq? with
  | none =>
    have h4 := isA_seq (d := d)
    rw [q] at h4
    rw [h4] at h3
    simp [F_are_costs, fnOf_s, h3, costsB, q]
  | some l =>
    have h4 := isA_seq (d := d)
    rw [q] at h4
    rw [h4] at h3
    have h5 := lenD_seq q
    by_cases c1 : 1 ≤ l.length
    · by_cases c2 : l.length ≤ 60
      · have c3 : l.length ≤ 10000000 := by omega
        have h6 : ∀ env, rowD ⟨env, cs⟩ ⟨(itV v).o, v⟩ = some d := fun env => hr env _ (by simp)
        have h7 := comp_map (l := l) (T := tgName true 1) (t := mYes) (f := callM .v F_is_between (aCons (eVar 1) (aCons (eC (.int 1)) (aCons (eC (.int 1000000)) aNil)))) (vs := [1]) (s0 := ⟨[some ⟨.sh, v⟩, none], cs⟩) (acc := []) (g := fun x => ⟨.al, .bl (btw 1 1000000 x)⟩) fun x hx l' acc => by
          have px := pe l q x hx
          have z := ev_is_between (lo := 1) (hi := 1000000) (cs := cs.map shC) px (Dr.plain px [])
          simp [z]
        have c1' : (1 : Int) ≤ l.length := by omega
        have c2' : (l.length : Int) ≤ 60 := by omega
        simp [F_are_costs, fnOf_s, h3, h2, h5, c1', c2', c3, h6, q, h7, allAl_map, dsOf_map, costsB, c1, c2]
      · have c2' : ¬ (l.length : Int) ≤ 60 := by omega
        have c1' : (1 : Int) ≤ l.length := by omega
        simp [F_are_costs, fnOf_s, h3, h2, h5, c1', c2', costsB, q, c2]
    · have c1' : ¬ (1 : Int) ≤ l.length := by omega
      simp [F_are_costs, fnOf_s, h3, h2, h5, c1', costsB, q, c1]
end N

namespace N
open MM GB L2 PySem
theorem ev_check_costs {v d : D} {cs : List Ent} (h : Dr cs v d) (p : plain d = true) (pe : ∀ l, d.seq? = some l → ∀ x ∈ l, plain x = true) :
    F_check_costs [v] cs = if costsB d = true then .ok ⟨.al, .non⟩ ⟨[], cs⟩ true else .err "InvalidCosts" ["given"] [v] ⟨[], cs⟩ := by
  have z := ev_are_costs h.sh (Rw.sh h) p pe
  cases q : costsB d <;> rw [q] at z <;> simp [F_check_costs, fnOf_s, z]
theorem ev_check_slots {v : D} {cs : List Ent} {d : D} (h : Dr cs v d) (hb : F_is_between [v, .int 1, .int 40] (cs.map shC) = .ok ⟨.al, .bl (btw 1 40 d)⟩ ⟨[], cs.map shC⟩ true) :
    F_check_slots [v] cs = if btw 1 40 d = true then .ok ⟨.al, .non⟩ ⟨[], cs⟩ true else .err "InvalidSlots" ["given"] [v] ⟨[], cs⟩ := by
  cases q : btw 1 40 d <;> rw [q] at hb <;> simp [F_check_slots, fnOf_s, hb]
/-- the running sums of sums -/
def loneAt (cs : List Int) (f n : Nat) : List Int := (List.range (n + 1)).map fun i => MT.T0 cs f (i + 1)
theorem loneAt_succ {cs : List Int} {f n : Nat} : loneAt cs f (n + 1) = loneAt cs f n ++ [MT.T0 cs f (n + 1) + MT.pre cs f (n + 1)] := by
  unfold loneAt
  rw [List.range_succ (n := n + 1), List.map_append]
  rfl
theorem loneAt_last {cs : List Int} {f n : Nat} : (loneAt cs f n).getLast? = some (MT.T0 cs f (n + 1)) := by
  unfold loneAt
  rw [List.range_succ, List.map_append, List.map_cons, List.map_nil, List.getLast?_append]
  rfl
theorem ev_lone_row {b : Bool} {cl : List Int} {f : Nat} {cs : List Ent} (h : f < cl.length) (hs : cl.length < 1000) : F_lone_row [cV b cl, .int f] cs = .ok ⟨.al, iL (MT.tabRow cl 0 f)⟩ ⟨[], cs⟩ true := by
  have e1 := cut_mid (l := cl.map .int) (f := f) (by simpa using h)
  have e2 : ((cl.map D.int).drop f).take ((cl.map D.int).length - 1 - f) = ((cl.drop f).take (cl.length - 1 - f)).map D.int := by simp [List.map_take, List.map_drop]
  rw [e2] at e1
  have len : ((cl.drop f).take (cl.length - 1 - f)).length = cl.length - 1 - f := by simp; omega
  have fin : loneAt cl f (cl.length - 1 - f) = MT.tabRow cl 0 f := by
    unfold loneAt MT.tabRow
    rw [show cl.length - 1 - f + 1 = cl.length - f by omega]
    rfl
  have mm : min (cl.length - 1 - f) (cl.length - f) = cl.length - 1 - f := by omega
  simp [F_lone_row, fnOf_s, opSl_cD, e1]
  rw [for_ev (g := fun n => ⟨[some ⟨.sh, cV b cl⟩, some ⟨.sh, .int f⟩, some ⟨.al, iL (loneAt cl f n)⟩, some ⟨.sh, .int (MT.pre cl f n)⟩, none], cs⟩) ?_ ?_]
  · simp [mm, fin]
  · rfl
  · intro i lt r
    have lt2 : i < cl.length - 1 - f := by simpa [mm] using lt
    have c1 : cl[f + i]? = some cl[f + i] := List.getElem?_eq_getElem (by omega)
    have sm : small ((loneAt cl f i).map D.int) = true := small_of (by unfold loneAt; simp; omega)
    have la := loneAt_last (cs := cl) (f := f) (n := i)
    have at1 : atI ((loneAt cl f i).map D.int) (-1) = some (.int (MT.T0 cl f (i + 1))) := by rw [MM.atI_last, List.getLast?_map, la]; rfl
    rw [loneAt_succ, MT.pre_succ c1]
    simp [at1, sm, iL]
end N

namespace N
open MM GB L2 PySem
theorem tabRow_get {cl : List Int} {s f j : Nat} (h : j < cl.length - f) : (MT.tabRow cl s f)[j]? = some (MT.T cl s f (j + 1)) := by
  unfold MT.tabRow
  rw [List.getElem?_map, List.getElem?_range h]
  rfl
theorem tabRows_get {cl : List Int} {s f : Nat} (h : f < cl.length) : (MT.tabRows cl s)[f]? = some (MT.tabRow cl s f) := by
  unfold MT.tabRows
  rw [List.getElem?_map, List.getElem?_range h]
  rfl
def partsAt (cl : List Int) (s f n k : Nat) : List Int := (List.range k).map fun i => MT.pre cl f (i + 1) + MT.T cl s (f + i + 1) (n - i) + MT.T cl (s + 1) f (i + 1)
theorem partsAt_succ {cl : List Int} {s f n k : Nat} : partsAt cl s f n (k + 1) = partsAt cl s f n k ++ [MT.pre cl f (k + 1) + MT.T cl s (f + k + 1) (n - k) + MT.T cl (s + 1) f (k + 1)] := by
  unfold partsAt
  rw [List.range_succ, List.map_append]
  rfl
theorem ev_split_costs {b : Bool} {cl sm : List Int} {s f n : Nat} {cs : List Ent} (h : f + n + 1 ≤ cl.length) (hn : n < 1000) (hs : ∀ i, i < n → sm[i]? = some (MT.T cl (s + 1) f (i + 1))) :
    F_split_costs [cV b cl, tL (MT.tabRows cl s), iL sm, .int f, .int (n + 1 : Nat)] cs = .ok ⟨.al, iL (MT.parts cl (MT.T cl s) (fun i => MT.T cl (s + 1) f (i + 1)) f n)⟩ ⟨[], cs⟩ true := by
  have f1 : fits 1 = true := by decide
  have f2 : fits ((n : Int) + 1) = true := fits_of (by omega) (by omega)
  simp [F_split_costs, fnOf_s, f1, f2]
  rw [for_rng (g := fun k => ⟨[some ⟨.sh, cV b cl⟩, some ⟨.sh, tL (MT.tabRows cl s)⟩, some ⟨.sh, iL sm⟩, some ⟨.sh, .int f⟩, some ⟨.sh, .int ((n : Int) + 1)⟩, some ⟨.al, iL (partsAt cl s f n k)⟩, some ⟨.sh, .int (MT.pre cl f k)⟩, none], cs⟩) ?_ ?_]
  · simp
    rfl
  · simp [MT.pre, partsAt]
  · intro i lt r
    have c1 : cl[f + i]? = some cl[f + i] := List.getElem?_eq_getElem (by omega)
    have c2 := tabRows_get (cl := cl) (s := s) (f := f + i + 1) (by omega)
    have c3 := tabRow_get (cl := cl) (s := s) (f := f + i + 1) (j := n - i - 1) (by omega)
    have c4 := hs i lt
    have i5 : n - i - 1 + 1 = n - i := by omega
    rw [i5] at c3
    have a1 : atI (cl.map D.int) ((f : Int) + (1 + i) - 1) = some (.int cl[f + i]) := at_of (n := f + i) (by omega) (getI c1)
    have a2 : atI ((MT.tabRows cl s).map iL) ((f : Int) + (1 + i)) = some (iL (MT.tabRow cl s (f + i + 1))) := at_of (n := f + i + 1) (by omega) (getL c2)
    have a3 : atI ((MT.tabRow cl s (f + i + 1)).map D.int) ((n : Int) + 1 - (1 + i) - 1) = some (.int (MT.T cl s (f + i + 1) (n - i))) := at_of (n := n - i - 1) (by omega) (getI c3)
    have a4 : atI (sm.map D.int) ((1 : Int) + i - 1) = some (.int (MT.T cl (s + 1) f (i + 1))) := at_of (n := i) (by omega) (getI c4)
    have sm2 : small ((partsAt cl s f n i).map D.int) = true := small_of (by unfold partsAt; simp; omega)
    rw [partsAt_succ, MT.pre_succ c1]
    simp [a1, a2, a3, a4, iL, tL, sm2]
end N

set_option maxHeartbeats 2000000
namespace N
open MM GB L2 PySem
theorem minL_ne {l : List Int} (h : l ≠ []) : MM.minL l = some (.int (MT.minL l)) := by
  cases l with
  | nil => exact absurd rfl h
  | cons a r => rfl
def rowK (cl : List Int) (s f k : Nat) : List Int := (List.range (k + 1)).map fun j => MT.T cl (s + 1) f (j + 1)
theorem rowK_succ {cl : List Int} {s f k : Nat} : rowK cl s f (k + 1) = rowK cl s f k ++ [MT.T cl (s + 1) f (k + 2)] := by
  unfold rowK
  rw [List.range_succ (n := k + 1), List.map_append]
  rfl
def rowsK (cl : List Int) (s f : Nat) : List (List Int) := (List.range f).map (MT.tabRow cl (s + 1))
theorem rowsK_succ {cl : List Int} {s f : Nat} : rowsK cl s (f + 1) = rowsK cl s f ++ [MT.tabRow cl (s + 1) f] := by
  unfold rowsK
  rw [List.range_succ, List.map_append]
  rfl
def tabK (cl : List Int) (s : Nat) : List (List (List Int)) := (List.range (s + 1)).map (MT.tabRows cl)
theorem tabK_succ {cl : List Int} {s : Nat} : tabK cl (s + 1) = tabK cl s ++ [MT.tabRows cl (s + 1)] := by
  unfold tabK
  rw [List.range_succ (n := s + 1), List.map_append]
  rfl
theorem tabK_last {cl : List Int} {s : Nat} : (tabK cl s).getLast? = some (MT.tabRows cl s) := by
  unfold tabK
  rw [List.range_succ, List.map_append, List.map_cons, List.map_nil, List.getLast?_append]
  rfl
def env9 (z : Bool) (cl : List Int) (c : Int) (found : List (List (List Int))) (a b d e : Option Val) : List Ent := [some ⟨.sh, cV z cl⟩, some ⟨.sh, .int c⟩, some ⟨.sh, .int cl.length⟩, some ⟨.al, uL found⟩, a, b, d, e, none]
/-- the innermost loop's body -/
theorem ev_inner {b : Bool} {cl : List Int} {c : Int} {s f k : Nat} {rows : List (List Int)} {cs : List Ent} {r : List D} (hl : cl.length ≤ 60) (h : f + k + 2 ≤ cl.length) :
    fsR (tgName true 8) [8] (mExpr (eMut (plVar 7) (aCons (eN (aCons (callM .v F_split_costs (aCons (eVar 0) (aCons (e2 (eVar 3) (e1 (eC (.int 1)) (MM.opI fun i => .int (-i))) opIx) (aCons (eVar 7) (aCons (eVar 6) (aCons (eVar 8) aNil)))))) aNil) (opInts MM.minL)) aNil) uApp)) r
      (tgName true 8 (itV (.int (2 + (k : Int)))) ⟨env9 b cl c (tabK cl s) (some ⟨.sh, .int (s : Int)⟩) (some ⟨.al, tL rows⟩) (some ⟨.sh, .int (f : Int)⟩) (some ⟨.al, iL (rowK cl s f k)⟩), cs⟩) =
    forS (tgName true 8) [8] (mExpr (eMut (plVar 7) (aCons (eN (aCons (callM .v F_split_costs (aCons (eVar 0) (aCons (e2 (eVar 3) (e1 (eC (.int 1)) (MM.opI fun i => .int (-i))) opIx) (aCons (eVar 7) (aCons (eVar 6) (aCons (eVar 8) aNil)))))) aNil) (opInts MM.minL)) aNil) uApp)) r
      ⟨env9 b cl c (tabK cl s) (some ⟨.sh, .int (s : Int)⟩) (some ⟨.al, tL rows⟩) (some ⟨.sh, .int (f : Int)⟩) (some ⟨.al, iL (rowK cl s f (k + 1))⟩), cs⟩ := by
  have z := ev_split_costs (b := b) (cl := cl) (sm := rowK cl s f k) (s := s) (f := f) (n := k + 1) (cs := cs.map shC) (by omega) (by omega) (fun i hi => by
    unfold rowK
    rw [List.getElem?_map, List.getElem?_range hi]
    rfl)
  have e2' : ((k + 1 + 1 : Nat) : Int) = 2 + (k : Int) := by omega
  rw [e2'] at z
  have la := tabK_last (cl := cl) (s := s)
  have at1 : atI ((tabK cl s).map tL) (-1) = some (tL (MT.tabRows cl s)) := by rw [MM.atI_last, List.getLast?_map, la]; rfl
  have ne : MT.parts cl (MT.T cl s) (fun i => MT.T cl (s + 1) f (i + 1)) f (k + 1) ≠ [] := by
    unfold MT.parts
    intro q
    have := congrArg List.length q
    simp at this
  have mn := minL_ne ne
  rw [← MT.T_succ cl s f (k + 1) (by omega)] at mn
  have sm : small ((rowK cl s f k).map D.int) = true := small_of (by unfold rowK; simp; omega)
  have imt : imm (tL (MT.tabRows cl s)) = false := rfl
  rw [rowK_succ]
  simp [env9, at1, z, mn, sm]
  simp [iL]
noncomputable abbrev bodyIn : Mas := mExpr (eMut (plVar 7) (aCons (eN (aCons (callM .v F_split_costs (aCons (eVar 0) (aCons (e2 (eVar 3) (e1 (eC (.int 1)) (MM.opI fun i => .int (-i))) opIx) (aCons (eVar 7) (aCons (eVar 6) (aCons (eVar 8) aNil)))))) aNil) (opInts MM.minL)) aNil) uApp)
noncomputable abbrev bodyMid : Mas := (mSeq (mSet false 7 (eN (aCons (eC (.int 0)) aNil) opLst))
      (mSeq (mFor (itRng2 (aCons (eC (.int 2)) (aCons (e2 (e2 (eVar 2) (eVar 6) (opII (gI (· - ·)))) (eC (.int 1)) (opII (gI (· + ·)))) aNil))) (tgName true 8) [8]
      bodyIn)
      (mExpr (eMut (plVar 5) (aCons (eMv 7) aNil) uApp))))
theorem ev_mid {b : Bool} {cl : List Int} {c : Int} {s f : Nat} {cs : List Ent} {r : List D} (hl : cl.length ≤ 60) (h : f < cl.length) :
    fsR (tgName true 6) [6, 7, 8] bodyMid r (tgName true 6 (itV (.int (0 + (f : Int)))) ⟨env9 b cl c (tabK cl s) (some ⟨.sh, .int (s : Int)⟩) (some ⟨.al, tL (rowsK cl s f)⟩) none none, cs⟩) =
    forS (tgName true 6) [6, 7, 8] bodyMid r ⟨env9 b cl c (tabK cl s) (some ⟨.sh, .int (s : Int)⟩) (some ⟨.al, tL (rowsK cl s (f + 1))⟩) none none, cs⟩ := by
  have f1 : fits 2 = true := fits_of (by omega) (by omega)
  have f2 : fits ((cl.length : Int) - f + 1) = true := fits_of (by omega) (by omega)
  have e0 : ((cl.length : Int) - f + 1 - 2).toNat = cl.length - f - 1 := by omega
  have fin : rowK cl s f (cl.length - f - 1) = MT.tabRow cl (s + 1) f := by
    unfold rowK MT.tabRow
    rw [show cl.length - f - 1 + 1 = cl.length - f by omega]
  have sm : small ((rowsK cl s f).map iL) = true := small_of (by unfold rowsK; simp; omega)
  have r0 : [D.int 0] = (rowK cl s f 0).map D.int := by
    unfold rowK
    show [D.int 0] = [D.int (MT.T cl (s + 1) f 1)]
    rw [MT.T_one]
  simp [env9, f1, f2, e0]
  rw [for_rng (g := fun k => ⟨env9 b cl c (tabK cl s) (some ⟨.sh, .int (s : Int)⟩) (some ⟨.al, tL (rowsK cl s f)⟩) (some ⟨.sh, .int (f : Int)⟩) (some ⟨.al, iL (rowK cl s f k)⟩), cs⟩) ?_ ?_]
  · simp [env9, fin, sm, rowsK_succ, tL]
  · simp [env9, r0]
  · intro k hk r
    exact ev_inner hl (by omega)
noncomputable abbrev bodyOut : Mas := (mSeq (mSet false 5 (eN aNil opLst))
      (mSeq (mFor (itRng1 (aCons (eVar 2) aNil)) (tgName true 6) [6, 7, 8]
      bodyMid)
      (mExpr (eMut (plVar 3) (aCons (eMv 5) aNil) uApp))))
theorem ev_out {b : Bool} {cl : List Int} {c : Int} {s : Nat} {cs : List Ent} {r : List D} (hl : cl.length ≤ 60) (hs : s < 1000) :
    fsR (tgName true 4) [4, 5, 6, 7, 8] bodyOut r (tgName true 4 (itV (.int (0 + (s : Int)))) ⟨env9 b cl c (tabK cl s) none none none none, cs⟩) =
    forS (tgName true 4) [4, 5, 6, 7, 8] bodyOut r ⟨env9 b cl c (tabK cl (s + 1)) none none none none, cs⟩ := by
  have f2 : fits (cl.length : Int) = true := fits_of (by omega) (by omega)
  have e0 : ((cl.length : Int)).toNat = cl.length := by omega
  have fin : rowsK cl s cl.length = MT.tabRows cl (s + 1) := rfl
  have sm : small ((tabK cl s).map tL) = true := small_of (by unfold tabK; simp; omega)
  simp [env9, f2, e0]
  rw [for_rng (g := fun k => ⟨env9 b cl c (tabK cl s) (some ⟨.sh, .int (s : Int)⟩) (some ⟨.al, tL (rowsK cl s k)⟩) none none, cs⟩) ?_ ?_]
  · simp [env9, fin, sm, tabK_succ, uL]
  · simp [env9, rowsK]
  · intro k hk r
    exact ev_mid hl hk
theorem ev_table_of {b : Bool} {cl : List Int} {c : Nat} {cs : List Ent} (hl : cl.length ≤ 60) (h1 : 1 ≤ c) (hc : c ≤ 1000) : F_table_of [cV b cl, .int c] cs = .ok ⟨.al, uL (MT.tab cl c)⟩ ⟨[], cs⟩ true := by
  have f1 : fits (cl.length : Int) = true := fits_of (by omega) (by omega)
  have f2 : fits ((c : Int) - 1) = true := fits_of (by omega) (by omega)
  have e0 : ((cl.length : Int)).toNat = cl.length := by omega
  have e1' : ((c : Int) - 1).toNat = c - 1 := by omega
  have l7 : cl.length ≤ 10000000 := by omega
  have fin : tabK cl (c - 1) = MT.tab cl c := by
    unfold tabK MT.tab
    rw [show c - 1 + 1 = c by omega]
  have t0 : [tL (MT.tabRows cl 0)] = (tabK cl 0).map tL := rfl
  simp [F_table_of, fnOf_s, f1, e0, rngD_len, l7]
  rw [comp_rng (g := fun f => ⟨.al, iL (MT.tabRow cl 0 f)⟩) ?_]
  rotate_left
  · intro f hf l acc
    have z := ev_lone_row (b := b) (cl := cl) (f := f) (cs := cs.map shC) hf (by omega)
    simp [z]
  have t1 : (List.range cl.length).map (fun f => iL (MT.tabRow cl 0 f)) = (MT.tabRows cl 0).map iL := by
    unfold MT.tabRows
    rw [List.map_map]
    rfl
  simp [allAl_map, dsOf_map, f2, e1', t1]
  rw [for_rng (g := fun s => ⟨env9 b cl c (tabK cl s) none none none none, cs⟩) ?_ ?_]
  · simp [env9, fin, uL]
  · simp [env9, tabK]
  · intro s hs r
    exact ev_out hl (by omega)
end N

set_option maxHeartbeats 2000000
namespace N
open MM GB L2 PySem
theorem btw_false {lo hi : Int} {d : D} (h : isI d = false) : btw lo hi d = false := by cases d <;> first | rfl | cases h
theorem ev_is_between2 {v d : D} {lo hi : Int} {cs : List Ent} (h : Dr cs v d) (p : plain d = true) (nr : v = d ∨ isI d = false) : F_is_between [v, .int lo, .int hi] cs = .ok ⟨.al, .bl (btw lo hi d)⟩ ⟨[], cs⟩ true := by
  rcases nr with rfl | nr
  · exact ev_is_between p (Dr.plain p [])
  · have z := ev_is_integer (cs := cs.map shC) (h.sh []) p
    rw [nr] at z
    rw [btw_false nr]
    simp [F_is_between, fnOf_s, z]
theorem costs_ok {b : Bool} {cl : List Int} (h1 : 1 ≤ cl.length) (h2 : cl.length ≤ 60) (h : ∀ x ∈ cl, 1 ≤ x ∧ x ≤ 1000000) : costsB (cV b cl) = true := by
  unfold costsB
  simp [h1, h2, List.all_eq_true]
  intro x hx
  have := h x hx
  simp [btw, this.1, this.2]
section
variable {b : Bool} {cl : List Int} {c : Nat} {cs : List Ent} {v d w x u : D}
/-- good costs -/
structure Good (cl : List Int) : Prop where
  l1 : 1 ≤ cl.length
  l2 : cl.length ≤ 60
  all : ∀ x ∈ cl, 1 ≤ x ∧ x ≤ 1000000
theorem chk_good (g : Good cl) : F_check_costs [cV b cl] cs = .ok ⟨.al, .non⟩ ⟨[], cs⟩ true := by
  have z := ev_check_costs (cs := cs) (v := cV b cl) (Dr.plain (by simp)) (by simp) (fun l hl y hy => by
    rw [seq_cD] at hl
    cases hl
    obtain ⟨i, _, rfl⟩ := List.mem_map.mp hy
    rfl)
  rw [costs_ok g.l1 g.l2 g.all, if_pos rfl] at z
  exact z
theorem slots_good (h1 : 1 ≤ c) (h2 : c ≤ 40) : F_check_slots [.int c] cs = .ok ⟨.al, .non⟩ ⟨[], cs⟩ true := by
  have z := ev_check_slots (v := .int c) (cs := cs) (d := .int c) (fun _ => rfl) (ev_is_between2 (fun _ => rfl) rfl (.inl rfl))
  have e : btw 1 40 (.int c) = true := by
    simp [btw]
    omega
  rw [e, if_pos rfl] at z
  exact z
/-- an argument that is refused, as it is seen -/
structure BadC (cs : List Ent) (v d : D) : Prop where
  dr : Dr cs v d
  pl : plain d = true
  el : ∀ l, d.seq? = some l → ∀ x ∈ l, plain x = true
  no : costsB d = false
structure BadS (cs : List Ent) (v d : D) : Prop where
  dr : Dr cs v d
  pl : plain d = true
  nr : v = d ∨ isI d = false
  no : btw 1 40 d = false
theorem chk_bad (h : BadC cs v d) : F_check_costs [v] cs = .err "InvalidCosts" ["given"] [v] ⟨[], cs⟩ := by
  have z := ev_check_costs h.dr h.pl h.el
  rw [h.no] at z
  exact z
theorem slots_bad (h : BadS cs v d) : F_check_slots [v] cs = .err "InvalidSlots" ["given"] [v] ⟨[], cs⟩ := by
  have z := ev_check_slots h.dr (ev_is_between2 (h.dr.sh) h.pl h.nr)
  rw [h.no] at z
  exact z
theorem ev_cost_table (g : Good cl) (h1 : 1 ≤ c) (h2 : c ≤ 40) : F_cost_table [cV b cl, .int c] cs = .ok ⟨.al, uL (MT.tab cl c)⟩ ⟨[], cs⟩ true := by
  have z1 := chk_good (b := b) (cs := cs) g
  have z2 := slots_good (cs := cs) h1 h2
  have z3 := ev_table_of (b := b) (cs := cs.map shC) g.l2 h1 (by omega)
  simp [F_cost_table, fnOf_s, z1, z2, z3]
theorem ev_cost_table1 (h : BadC cs v d) : F_cost_table [v, w] cs = .err "InvalidCosts" ["given"] [v] ⟨[], cs⟩ := by
  have z1 := chk_bad h
  simp [F_cost_table, fnOf_s, z1]
theorem ev_cost_table2 (g : Good cl) (h : BadS cs w d) : F_cost_table [cV b cl, w] cs = .err "InvalidSlots" ["given"] [w] ⟨[], cs⟩ := by
  have z1 := chk_good (b := b) (cs := cs) g
  have z2 := slots_bad h
  simp [F_cost_table, fnOf_s, z1, z2]
theorem ev_is_cost_table1 (h : BadC cs v d) : F_is_cost_table [v, w, x] cs = .err "InvalidCosts" ["given"] [v] ⟨[], cs⟩ := by
  have z1 := chk_bad h
  simp [F_is_cost_table, fnOf_s, z1]
theorem ev_is_cost_table2 (g : Good cl) (h : BadS cs w d) : F_is_cost_table [cV b cl, w, x] cs = .err "InvalidSlots" ["given"] [w] ⟨[], cs⟩ := by
  have z1 := chk_good (b := b) (cs := cs) g
  have z2 := slots_bad h
  simp [F_is_cost_table, fnOf_s, z1, z2]
theorem tab_last (h1 : 1 ≤ c) : (MT.tab cl c).getLast? = some (MT.tabRows cl (c - 1)) := by
  unfold MT.tab
  obtain ⟨n, rfl⟩ : ∃ n, c = n + 1 := ⟨c - 1, by omega⟩
  rw [List.range_succ, List.map_append, List.map_cons, List.map_nil, List.getLast?_append]
  rfl
theorem ev_least_cost (g : Good cl) (h1 : 1 ≤ c) (h2 : c ≤ 40) : F_least_cost [cV b cl, .int c] cs = .ok ⟨.al, .int (MT.T cl (c - 1) 0 cl.length)⟩ ⟨[], cs⟩ true := by
  have z1 := chk_good (b := b) (cs := cs) g
  have z2 := slots_good (cs := cs) h1 h2
  have z3 := ev_table_of (b := b) (cs := cs.map shC) g.l2 h1 (by omega)
  have a1 : atI ((MT.tab cl c).map tL) (-1) = some (tL (MT.tabRows cl (c - 1))) := by rw [MM.atI_last, List.getLast?_map, tab_last h1]; rfl
  have a2 : ((MT.tabRows cl (c - 1)).map iL)[0]? = some (iL (MT.tabRow cl (c - 1) 0)) := getL (tabRows_get (by have := g.l1; omega))
  have a3 : atI ((MT.tabRow cl (c - 1) 0).map D.int) (-1) = some (.int (MT.T cl (c - 1) 0 cl.length)) := by
    have := g.l1
    rw [MM.atI_last, List.getLast?_eq_getElem?]
    have e : ((MT.tabRow cl (c - 1) 0).map D.int).length - 1 = cl.length - 1 := by unfold MT.tabRow; simp
    rw [e]
    have q := tabRow_get (cl := cl) (s := c - 1) (f := 0) (j := cl.length - 1) (by omega)
    rw [show cl.length - 1 + 1 = cl.length by omega] at q
    exact getI q
  simp [F_least_cost, fnOf_s, z1, z2, z3, a1, a2, a3]
end
end N

set_option maxHeartbeats 2000000
namespace N
open MM GB L2 PySem
def pairQ (f : D → D → Bool) : D → Bool
  | .tup [x, y] => f x y
  | _ => false
@[simp] theorem pairQ_s {f : D → D → Bool} {x y : D} : pairQ f (.tup [x, y]) = f x y := (rfl)
def allG (f : D → D → Bool) (v due : D) : Bool := match v.seq?, due.seq? with
  | some l, some r => decide (l.length = r.length) && ((zipD l r).map (pairQ f)).all id
  | _, _ => false
def eqI : D → D → Bool
  | .int i, .int j => decide (i = j)
  | _, _ => false
def numG : D → D → Bool := allG eqI
def rowG : D → D → Bool := allG numG
def tabG : D → D → Bool := allG rowG
theorem ev_are_numbers {v : D} {due : List Int} {cs : List Ent} (h : plN 1 v) (hl : due.length ≤ 1000) : F_are_numbers [v, iL due] cs = .ok ⟨.al, .bl (numG v (iL due))⟩ ⟨[], cs⟩ true := by
  have h3 := ev_is_list (cs := cs.map shC) (Dr.plain h.p) h.p
  have dv : ∀ env, der ⟨env, cs⟩ v = some v := Dr.plain h.p
  rw [isA_seq] at h3
  cases q : v.seq? with
  | none =>
    rw [q] at h3
    simp [F_are_numbers, fnOf_s, h3, numG, allG, q]
  | some l =>
    rw [q] at h3
    have h5 := lenD_seq q
    by_cases c1 : l.length = due.length
    · have l7 : (zipD l (due.map D.int)).length ≤ 10000000 := Nat.le_trans zip_len (by omega)
      simp [F_are_numbers, fnOf_s, h3, dv, h5, c1, q, l7]
      rw [MM.comp_map (g := fun d => ⟨.al, .bl (pairQ eqI d)⟩) ?_]
      · simp [allAl_map, dsOf_map, numG, allG, q, c1]
      · intro d hd l' acc
        obtain ⟨x, y, rfl, hx, hy⟩ := mem_zipD hd
        obtain ⟨j, _, rfl⟩ := List.mem_map.mp hy
        have px : plain x = true := h.2 l q x hx
        have z := ev_is_integer (cs := cs.map shC) (Dr.plain px []) px
        cases x <;> first | (cases px; done) | simp [z, isI, eqI]
    · simp [F_are_numbers, fnOf_s, h3, dv, h5, c1, numG, allG, q, Int.ofNat_inj]
theorem ev_are_rows {v : D} {due : List (List Int)} {cs : List Ent} (h : plN 2 v) (hl : due.length ≤ 1000) (hd : ∀ r ∈ due, r.length ≤ 1000) : F_are_rows [v, tL due] cs = .ok ⟨.al, .bl (rowG v (tL due))⟩ ⟨[], cs⟩ true := by
  have h3 := ev_is_list (cs := cs.map shC) (Dr.plain h.p) h.p
  have dv : ∀ env, der ⟨env, cs⟩ v = some v := Dr.plain h.p
  rw [isA_seq] at h3
  cases q : v.seq? with
  | none =>
    rw [q] at h3
    simp [F_are_rows, fnOf_s, h3, rowG, allG, q]
  | some l =>
    rw [q] at h3
    have h5 := lenD_seq q
    by_cases c1 : l.length = due.length
    · have l7 : (zipD l (due.map iL)).length ≤ 10000000 := Nat.le_trans zip_len (by omega)
      simp [F_are_rows, fnOf_s, h3, dv, h5, c1, q, l7]
      rw [MM.comp_map (g := fun d => ⟨.al, .bl (pairQ numG d)⟩) ?_]
      · simp [allAl_map, dsOf_map, rowG, allG, q, c1]
      · intro d hd' l' acc
        obtain ⟨x, y, rfl, hx, hy⟩ := mem_zipD hd'
        obtain ⟨j, hj, rfl⟩ := List.mem_map.mp hy
        have z := ev_are_numbers (cs := cs.map shC) (h.2 l q x hx) (hd j hj)
        simp [z]
    · simp [F_are_rows, fnOf_s, h3, dv, h5, c1, rowG, allG, q, Int.ofNat_inj]
theorem ev_is_cost_table {b : Bool} {cl : List Int} {c : Nat} {v : D} {cs : List Ent} (g : Good cl) (h1 : 1 ≤ c) (h2 : c ≤ 40) (h : plN 3 v) : F_is_cost_table [cV b cl, .int c, v] cs = .ok ⟨.al, .bl (tabG v (uL (MT.tab cl c)))⟩ ⟨[], cs⟩ true := by
  have z1 := chk_good (b := b) (cs := cs) g
  have z2 := slots_good (cs := cs) h1 h2
  have z3 := ev_table_of (b := b) (cs := cs.map shC) g.l2 h1 (by omega)
  have h3 := ev_is_list (cs := cs.map shC) (Dr.plain h.p) h.p
  have dv : ∀ env, der ⟨env, cs⟩ v = some v := Dr.plain h.p
  have lt : (MT.tab cl c).length = c := by unfold MT.tab; simp
  have g2 := g.l2
  rw [isA_seq] at h3
  cases q : v.seq? with
  | none =>
    rw [q] at h3
    simp [F_is_cost_table, fnOf_s, z1, z2, z3, h3, tabG, allG, q]
  | some l =>
    rw [q] at h3
    have h5 := lenD_seq q
    by_cases c1 : l.length = (MT.tab cl c).length
    · have l7 : (zipD l ((MT.tab cl c).map tL)).length ≤ 10000000 := Nat.le_trans zip_len (by omega)
      simp [F_is_cost_table, fnOf_s, z1, z2, z3, h3, dv, h5, c1, q, l7]
      rw [MM.comp_map (g := fun d => ⟨.al, .bl (pairQ rowG d)⟩) ?_]
      · simp [allAl_map, dsOf_map, tabG, allG, q, c1]
      · intro d hd' l' acc
        obtain ⟨x, y, rfl, hx, hy⟩ := mem_zipD hd'
        obtain ⟨j, hj, rfl⟩ := List.mem_map.mp hy
        have lj : j.length = cl.length ∧ ∀ r ∈ j, r.length ≤ 1000 := by
          unfold MT.tab at hj
          obtain ⟨s, _, rfl⟩ := List.mem_map.mp hj
          refine ⟨by unfold MT.tabRows; simp, fun r hr => ?_⟩
          unfold MT.tabRows at hr
          obtain ⟨f, _, rfl⟩ := List.mem_map.mp hr
          unfold MT.tabRow
          simp
          omega
        have z := ev_are_rows (cs := cs.map shC) (h.2 l q x hx) (by omega) lj.2
        simp [z]
    · simp [F_is_cost_table, fnOf_s, z1, z2, z3, h3, dv, h5, c1, tabG, allG, q, Int.ofNat_inj]
end N

set_option maxHeartbeats 2000000
namespace N
open MM GB L2 PySem
/-- a copy of a table -/
theorem ev_copy {t : List (List (List Int))} {cs : List Ent} (h : t.length ≤ 1000) (h2 : ∀ r ∈ t, r.length ≤ 1000) : F__law_copy [uL t] cs = .ok ⟨.al, uL t⟩ ⟨[], cs⟩ true := by
  have l1 : t.length ≤ 10000000 := by omega
  simp [F__law_copy, fnOf_s, l1]
  rw [MM.comp_map (g := fun d => ⟨.al, d⟩) ?_]
  · simp [allAl_map, dsOf_map]
  · intro d hd l acc
    obtain ⟨r, hr, rfl⟩ := List.mem_map.mp hd
    have l2 : r.length ≤ 10000000 := by have := h2 r hr; omega
    simp [l2]
    rw [MM.comp_map (g := fun d => ⟨.al, d⟩) ?_]
    · simp [allAl_map, dsOf_map]
    · intro d hd l acc
      obtain ⟨x, hx, rfl⟩ := List.mem_map.mp hd
      simp [rowO_imm]
end N

set_option maxHeartbeats 2000000
namespace N
open MM GB L2 PySem
/-- told -/
theorem ev_met_table {cl : List Int} {c : Nat} {cs : List Ent} {bn : Bool} (g : Good cl) (h1 : 1 ≤ c) (h2 : c ≤ 40) :
    F__law_met [.int 0, .lst [iL cl, .int c], .bl bn] cs = .ok ⟨.al, .lst [.str "told", uL (MT.tab cl c)]⟩ ⟨[], cs⟩ true := by
  have z := ev_cost_table (b := false) (cs := cs) g h1 h2
  have zv : cV false cl = iL cl := rfl
  rw [zv] at z
  have pm : byIx [1, 0] [D.int (c : Int), iL cl] = [iL cl, .int c] := rfl
  cases bn <;> simp [F__law_met, fnOf_s, z, pm]
theorem ev_met_is {cl : List Int} {c : Nat} {v : D} {cs : List Ent} {bn : Bool} (g : Good cl) (h1 : 1 ≤ c) (h2 : c ≤ 40) (h : plN 3 v) :
    F__law_met [.int 1, .lst [iL cl, .int c, v], .bl bn] cs = .ok ⟨.al, .lst [.str "told", .bl (tabG v (uL (MT.tab cl c)))]⟩ ⟨[], cs⟩ true := by
  have z := ev_is_cost_table (b := false) (cs := cs) g h1 h2 h
  have zv : cV false cl = iL cl := rfl
  rw [zv] at z
  have pm : byIx [2, 1, 0] [v, D.int (c : Int), iL cl] = [iL cl, .int c, v] := rfl
  cases bn <;> simp [F__law_met, fnOf_s, z, pm]
theorem fnd1 : List.find? (fun p : Str × Bool => p.1 == ("InvalidCosts" : Str)) [("InvalidCosts", true), ("InvalidSlots", false)] = some (("InvalidCosts" : Str), true) := by rfl
theorem fnd2 : List.find? (fun p : Str × Bool => p.1 == ("InvalidCosts" : Str)) [("InvalidCosts", false), ("InvalidSlots", true)] = some (("InvalidCosts" : Str), false) := by rfl
theorem fnd3 : List.find? (fun p : Str × Bool => p.1 == ("InvalidSlots" : Str)) [("InvalidCosts", false), ("InvalidSlots", true)] = some (("InvalidSlots" : Str), true) := by rfl
/-- refused -/
theorem ev_met_costs {v d w x : D} {k : Int} {cs : List Ent} {bn : Bool} (hk : k = 0 ∨ k = 1) (h : BadC cs v d) (ok : nox v = true) (oc : entsOk cs = true) :
    ∃ o, F__law_met [.int k, .lst [v, w, x], .bl bn] cs = .ok ⟨o, .lst [.str "costs", v]⟩ ⟨[], cs⟩ true := by
  have z1 := ev_cost_table1 (w := w) h
  have z2 := ev_is_cost_table1 (w := w) (x := x) h
  have pm : byIx [1, 0] [w, v] = [v, w] := rfl
  have pm2 : byIx [2, 1, 0] [x, w, v] = [v, w, x] := rfl
  have nl : nox (.lst [.str "costs", v]) = true := by simp [nox, noxL, ok]
  refine ⟨bif allAl [⟨.al, .str "costs"⟩, itV v] then .al else .sp, ?_⟩
  rcases hk with rfl | rfl <;> cases bn <;> simp [F__law_met, fnOf_s, z1, z2, pm, pm2, tryR, etab, outR, outOk, nl, oc, fnd1] <;> (cases decide ((itV v).o = Own.al) <;> rfl)
theorem ev_met_slots {cl : List Int} {d w x : D} {k : Int} {cs : List Ent} {bn : Bool} (hk : k = 0 ∨ k = 1) (g : Good cl) (h : BadS cs w d) (ok : nox w = true) (oc : entsOk cs = true) :
    ∃ o, F__law_met [.int k, .lst [iL cl, w, x], .bl bn] cs = .ok ⟨o, .lst [.str "slots", w]⟩ ⟨[], cs⟩ true := by
  have z1 := ev_cost_table2 (b := false) g h
  have z2 := ev_is_cost_table2 (b := false) (x := x) g h
  have zv : cV false cl = iL cl := rfl
  rw [zv] at z1 z2
  have pm : byIx [1, 0] [w, iL cl] = [iL cl, w] := rfl
  have pm2 : byIx [2, 1, 0] [x, w, iL cl] = [iL cl, w, x] := rfl
  have nl : nox (.lst [.str "slots", w]) = true := by simp [nox, noxL, ok]
  refine ⟨bif allAl [⟨.al, .str "slots"⟩, itV w] then .al else .sp, ?_⟩
  rcases hk with rfl | rfl <;> cases bn <;> simp [F__law_met, fnOf_s, z1, z2, pm, pm2, tryR, etab, outR, outOk, nl, oc, fnd2, fnd3] <;> (cases decide ((itV w).o = Own.al) <;> rfl)
end N

set_option maxHeartbeats 2000000
namespace N
open MM GB L2 PySem
/-- rows of which the first j are filled up to t + 1, the others up to t -/
def rowsAt (cl : List Int) (s t j : Nat) : List (List Int) := (List.range cl.length).map fun f => MT.rowAt cl s f (if f < j then t + 1 else t)
theorem rowsAt_get {cl : List Int} {s t j f : Nat} (h : f < cl.length) : (rowsAt cl s t j)[f]? = some (MT.rowAt cl s f (if f < j then t + 1 else t)) := by
  unfold rowsAt
  rw [List.getElem?_map, List.getElem?_range h]
  rfl
theorem rowsAt_set {cl : List Int} {s t j : Nat} (h : j < cl.length) : (rowsAt cl s t j).set j (MT.rowAt cl s j (t + 1)) = rowsAt cl s t (j + 1) := by
  apply List.ext_getElem?
  intro i
  rw [List.getElem?_set]
  by_cases c : i < cl.length
  · rw [rowsAt_get c, rowsAt_get c]
    by_cases e : j = i
    · subst e
      rw [if_pos rfl, if_pos (by unfold rowsAt; simpa using h), if_pos (by omega)]
    · rw [if_neg e]
      by_cases l : i < j
      · rw [if_pos l, if_pos (by omega)]
      · rw [if_neg l, if_neg (by omega)]
  · have n1 : (rowsAt cl s t j)[i]? = none := List.getElem?_eq_none (by unfold rowsAt; simp; omega)
    have n2 : (rowsAt cl s t (j + 1))[i]? = none := List.getElem?_eq_none (by unfold rowsAt; simp; omega)
    rw [n1, n2, if_neg (by omega)]
theorem rowsAt_next {cl : List Int} {s t : Nat} (ht : 1 ≤ t) (h : t < cl.length) : rowsAt cl s t (cl.length - t) = rowsAt cl s (t + 1) 0 := by
  unfold rowsAt
  apply List.map_congr_left
  intro f hf
  have hf := List.mem_range.mp hf
  by_cases l : f < cl.length - t
  · rw [if_pos l, if_neg (by omega)]
  · rw [if_neg l, if_neg (by omega), MT.rowAt_full (by omega), MT.rowAt_full (by omega)]
end N

set_option maxHeartbeats 2000000
namespace N
open MM GB L2 PySem
def envT (cl : List Int) (c : Int) (found : List (List (List Int))) (a b d e g : Option Val) : List Ent := [some ⟨.sh, iL cl⟩, some ⟨.sh, .int c⟩, some ⟨.sh, .int cl.length⟩, some ⟨.al, uL found⟩, a, b, d, e, g, none, none]
noncomputable abbrev bodyT0 : Mas := mSetIx (eN (aCons (mComp (itRng1 (aCons (e2 (eVar 6) (eC (.int 1)) (opII (gI (· - ·)))) aNil)) (tgName true 9) mYes (e2 (e2 (eVar 0) (e2 (eVar 7) (eVar 9) (opII (gI (· + ·)))) opIx) (e2 (e2 (eVar 6) (eC (.int 1)) (opII (gI (· - ·)))) (eVar 9) (opII (gI (· - ·)))) (opII (gIc CMulW (· * ·)))) [9]) aNil) (opInts fun l => some (.int l.sum))) (plIx (plVar 5) (eVar 7)) (e2 (eVar 6) (eC (.int 1)) (opII (gI (· - ·))))
theorem ev_T0 {cl : List Int} {c : Int} {t j : Nat} {found : List (List (List Int))} {cs : List Ent} (g : Good cl) (h : j + t + 1 ≤ cl.length) :
    bodyT0 ⟨envT cl c found (some ⟨.sh, .int 0⟩) (some ⟨.al, tL (rowsAt cl 0 t j)⟩) (some ⟨.sh, .int (t + 1 : Nat)⟩) (some ⟨.sh, .int j⟩) none, cs⟩ =
    .ok .nx ⟨envT cl c found (some ⟨.sh, .int 0⟩) (some ⟨.al, tL (rowsAt cl 0 t (j + 1))⟩) (some ⟨.sh, .int (t + 1 : Nat)⟩) (some ⟨.sh, .int j⟩) none, cs⟩ true := by
  have g2 := g.l2
  have f1 : fits (t : Int) = true := fits_of (by omega) (by omega)
  have l7 : t ≤ 10000000 := by omega
  have gt := rowsAt_get (cl := cl) (s := 0) (t := t) (j := j) (f := j) (by omega)
  rw [if_neg (by omega)] at gt
  have gt2 := getL (g := iL) gt
  have ix1 : ixN (rowsAt cl 0 t j).length (j : Int) = some j := by
    rw [ixN_pos (by omega) (by unfold rowsAt; simp; omega)]
    simp
  have ix2 : ixN (MT.rowAt cl 0 j t).length (t : Int) = some t := by
    rw [ixN_pos (by omega) (by rw [MT.rowAt_length]; omega)]
    simp
  have st : ((rowsAt cl 0 t j).map iL).set j (.lst (((MT.rowAt cl 0 j t).map D.int).set t (.int (MT.T cl 0 j (t + 1))))) = (rowsAt cl 0 t (j + 1)).map iL := by
    rw [← rowsAt_set (by omega), List.map_set, ← MT.rowAt_set]
    simp [iL, List.map_set]
  simp [envT, f1, rngD_len, l7]
  rw [comp_rng (g := fun k => ⟨.al, .int (cl.getD (j + k) 0 * ((t : Int) - (k : Int)))⟩) ?_]
  · have sm : ((List.range t).map fun k => cl.getD (j + k) 0 * ((t : Int) - (k : Int))).sum = MT.T cl 0 j (t + 1) := MT.S_T0 (cs := cl) (f := j) (n := t) (by omega)
    simp only [List.getD_eq_getElem?_getD] at sm
    simp [allAl_map, dsOf_map, sm, gt, ix1, ix2, st]
  · intro k hk l acc
    have c1 : cl[j + k]? = some cl[j + k] := List.getElem?_eq_getElem (by omega)
    have a1 : atI (cl.map D.int) ((j : Int) + k) = some (.int cl[j + k]) := at_of (n := j + k) (by omega) (getI c1)
    have bd := g.all cl[j + k] (List.getElem_mem ..)
    have m1 := mul_ok (i := cl[j + k]) (j := (t : Int) - k) (by omega) (by omega)
    simp [a1, m1, List.getD_eq_getElem?_getD, c1]
end N

set_option maxHeartbeats 2000000
namespace N
open MM GB L2 PySem
noncomputable abbrev bodyT1 : Mas := (mSeq (mSet true 8 (mComp (itRng2 (aCons (eC (.int 1)) (aCons (eVar 6) aNil))) (tgName true 10) mYes (e2 (e2 (eN (aCons (eSl (eVar 0) (pSo (eVar 7)) (pSo (e2 (eVar 7) (eVar 10) (opII (gI (· + ·)))))) aNil) (opInts fun l => some (.int l.sum))) (e2 (e2 (e2 (eVar 3) (e2 (eVar 4) (eC (.int 1)) (opII (gI (· - ·)))) opIx) (e2 (eVar 7) (eVar 10) (opII (gI (· + ·)))) opIx) (e2 (e2 (eVar 6) (eVar 10) (opII (gI (· - ·)))) (eC (.int 1)) (opII (gI (· - ·)))) opIx) (opII (gI (· + ·)))) (e2 (e2 (eVar 5) (eVar 7) opIx) (e2 (eVar 10) (eC (.int 1)) (opII (gI (· - ·)))) opIx) (opII (gI (· + ·)))) [10]))
      (mSetIx (eN (aCons (eVar 8) aNil) (opInts MM.minL)) (plIx (plVar 5) (eVar 7)) (e2 (eVar 6) (eC (.int 1)) (opII (gI (· - ·))))))
theorem ev_T1 {cl : List Int} {c : Int} {s t j : Nat} {cs : List Ent} (g : Good cl) (ht : 1 ≤ t) (h : j + t + 1 ≤ cl.length) :
    ∃ x, bodyT1 ⟨envT cl c (MT.tab cl (s + 1)) (some ⟨.sh, .int (s + 1 : Nat)⟩) (some ⟨.al, tL (rowsAt cl (s + 1) t j)⟩) (some ⟨.sh, .int (t + 1 : Nat)⟩) (some ⟨.sh, .int j⟩) none, cs⟩ =
    .ok .nx ⟨envT cl c (MT.tab cl (s + 1)) (some ⟨.sh, .int (s + 1 : Nat)⟩) (some ⟨.al, tL (rowsAt cl (s + 1) t (j + 1))⟩) (some ⟨.sh, .int (t + 1 : Nat)⟩) (some ⟨.sh, .int j⟩) x, cs⟩ true := by
  have g2 := g.l2
  have f1 : fits 1 = true := fits_of (by omega) (by omega)
  have f2 : fits ((t : Int) + 1) = true := fits_of (by omega) (by omega)
  have l7 : t ≤ 10000000 := by omega
  have gt := rowsAt_get (cl := cl) (s := s + 1) (t := t) (j := j) (f := j) (by omega)
  rw [if_neg (by omega)] at gt
  have gt2 := getL (g := iL) gt
  have ix1 : ixN (rowsAt cl (s + 1) t j).length (j : Int) = some j := by
    rw [ixN_pos (by omega) (by unfold rowsAt; simp; omega)]
    simp
  have ix2 : ixN (MT.rowAt cl (s + 1) j t).length (t : Int) = some t := by
    rw [ixN_pos (by omega) (by rw [MT.rowAt_length]; omega)]
    simp
  have st : ((rowsAt cl (s + 1) t j).map iL).set j (.lst (((MT.rowAt cl (s + 1) j t).map D.int).set t (.int (MT.T cl (s + 1) j (t + 1))))) = (rowsAt cl (s + 1) t (j + 1)).map iL := by
    rw [← rowsAt_set (by omega), List.map_set, ← MT.rowAt_set]
    simp [iL, List.map_set]
  have pe : (List.range t).map (fun i => MT.pre cl j (i + 1) + MT.T cl s (j + i + 1) (t - i) + MT.T cl (s + 1) j (i + 1)) = MT.parts cl (MT.T cl s) (fun i => MT.T cl (s + 1) j (i + 1)) j t := rfl
  have ne : MT.parts cl (MT.T cl s) (fun i => MT.T cl (s + 1) j (i + 1)) j t ≠ [] := by
    unfold MT.parts
    intro q
    have := congrArg List.length q
    simp at this
    omega
  have mn := minL_ne ne
  rw [← MT.T_succ cl s j t ht] at mn
  refine ⟨some ⟨.sh, iL (MT.parts cl (MT.T cl s) (fun i => MT.T cl (s + 1) j (i + 1)) j t)⟩, ?_⟩
  simp [envT, f1, f2, rngD_len, l7]
  rw [comp_rng (g := fun i => ⟨.al, .int (MT.pre cl j (i + 1) + MT.T cl s (j + i + 1) (t - i) + MT.T cl (s + 1) j (i + 1))⟩) ?_]
  · have de : (List.range t).map (fun i => D.int (MT.pre cl j (i + 1) + MT.T cl s (j + i + 1) (t - i) + MT.T cl (s + 1) j (i + 1))) = (MT.parts cl (MT.T cl s) (fun i => MT.T cl (s + 1) j (i + 1)) j t).map D.int := by
      rw [← pe, List.map_map]
      rfl
    simp [allAl_map, dsOf_map, de, mn, gt, ix1, ix2, st]
  · intro k hk l acc
    have c2 : (MT.tab cl (s + 1))[s]? = some (MT.tabRows cl s) := by unfold MT.tab; rw [List.getElem?_map, List.getElem?_range (by omega)]; rfl
    have c3 := tabRows_get (cl := cl) (s := s) (f := j + k + 1) (by omega)
    have c4 := tabRow_get (cl := cl) (s := s) (f := j + k + 1) (j := t - k - 1) (by omega)
    rw [show t - k - 1 + 1 = t - k by omega] at c4
    have c5 := MT.rowAt_get (cs := cl) (s := s + 1) (f := j) (t := t) (j := k) (by omega) (by omega)
    have a2 : atI ((MT.tab cl (s + 1)).map tL) (s : Int) = some (tL (MT.tabRows cl s)) := at_of (n := s) rfl (getL c2)
    have a3 : atI ((MT.tabRows cl s).map iL) ((j : Int) + (1 + k)) = some (iL (MT.tabRow cl s (j + k + 1))) := at_of (n := j + k + 1) (by omega) (getL c3)
    have a4 : atI ((MT.tabRow cl s (j + k + 1)).map D.int) ((t : Int) + 1 - (1 + k) - 1) = some (.int (MT.T cl s (j + k + 1) (t - k))) := at_of (n := t - k - 1) (by omega) (getI c4)
    have a5 : atI ((MT.rowAt cl (s + 1) j t).map D.int) ((1 : Int) + k - 1) = some (.int (MT.T cl (s + 1) j (k + 1))) := at_of (n := k) (by omega) (getI c5)
    have ct := cut_part (l := cl) (j := j) (n := k + 1) (by omega)
    rw [show ((j : Int) + ((k + 1 : Nat) : Int)) = (j : Int) + (1 + k) by omega] at ct
    have su : ((cl.drop j).take (k + 1)).sum = MT.pre cl j (k + 1) := rfl
    have io : intsOf (((cl.map D.int).drop j).take (k + 1)) = some ((cl.drop j).take (k + 1)) := by rw [← List.map_drop, ← List.map_take]; exact intsOf_map _
    simp [opSl_i, ct, a2, a3, a4, a5, gt, io, su, c2]
end N

set_option maxHeartbeats 2000000
namespace N
open MM GB L2 PySem
def fst' (x : Option Val) : Nat → Option Val
  | 0 => x
  | j + 1 => some ⟨.sh, .int (j : Nat)⟩
noncomputable abbrev bodyTI : Mas := mIf (tBl (e2 (eVar 4) (eC (.int 0)) opEqS)) bodyT0 bodyT1
theorem tab_zero {cl : List Int} : MT.tab cl 0 = [] := rfl
theorem if0 {F G : Mas} {cl : List Int} {c j : Int} {found : List (List (List Int))} {rows d x : Option Val} {cs : List Ent} {r : List D} :
    fsR (tgName true 7) [8] (mIf (tBl (e2 (eVar 4) (eC (.int 0)) opEqS)) F G) r (tgName true 7 (itV (.int j)) ⟨envT cl c found (some ⟨.sh, .int 0⟩) rows d x none, cs⟩) =
    fsR2 (tgName true 7) [8] (mIf (tBl (e2 (eVar 4) (eC (.int 0)) opEqS)) F G) r (F ⟨envT cl c found (some ⟨.sh, .int 0⟩) rows d (some ⟨.sh, .int j⟩) none, cs⟩) := by
  simp [envT]
theorem if1 {F G : Mas} {cl : List Int} {c j s : Int} {found : List (List (List Int))} {rows d x : Option Val} {cs : List Ent} {r : List D} (hs : ¬ s = 0) :
    fsR (tgName true 7) [8] (mIf (tBl (e2 (eVar 4) (eC (.int 0)) opEqS)) F G) r (tgName true 7 (itV (.int j)) ⟨envT cl c found (some ⟨.sh, .int s⟩) rows d x none, cs⟩) =
    fsR2 (tgName true 7) [8] (mIf (tBl (e2 (eVar 4) (eC (.int 0)) opEqS)) F G) r (G ⟨envT cl c found (some ⟨.sh, .int s⟩) rows d (some ⟨.sh, .int j⟩) none, cs⟩) := by
  simp [envT, hs]
theorem if2 {F : Mas} {cl : List Int} {c : Int} {found : List (List (List Int))} {s rows d x g : Option Val} {cs : List Ent} {r : List D} {e : Bool} :
    fsR2 (tgName true 7) [8] F r (.ok .nx ⟨envT cl c found s rows d x g, cs⟩ e) = forS (tgName true 7) [8] F r ⟨envT cl c found s rows d x none, cs⟩ := by
  simp [envT]
theorem ev_TI {cl : List Int} {c : Int} {s t j : Nat} {x : Option Val} {cs : List Ent} {r : List D} (g : Good cl) (ht : 1 ≤ t) (h : j + t + 1 ≤ cl.length) :
    fsR (tgName true 7) [8] bodyTI r (tgName true 7 (itV (.int (0 + (j : Int)))) ⟨envT cl c (MT.tab cl s) (some ⟨.sh, .int (s : Int)⟩) (some ⟨.al, tL (rowsAt cl s t j)⟩) (some ⟨.sh, .int (t + 1 : Nat)⟩) (fst' x j) none, cs⟩) =
    forS (tgName true 7) [8] bodyTI r ⟨envT cl c (MT.tab cl s) (some ⟨.sh, .int (s : Int)⟩) (some ⟨.al, tL (rowsAt cl s t (j + 1))⟩) (some ⟨.sh, .int (t + 1 : Nat)⟩) (fst' x (j + 1)) none, cs⟩ := by
  rw [Int.zero_add]
  cases s with
  | zero =>
    refine if0.trans ?_
    refine (congrArg _ (ev_T0 (c := c) (found := MT.tab cl 0) (cs := cs) g h)).trans ?_
    exact if2
  | succ s =>
    obtain ⟨y, z⟩ := ev_T1 (c := c) (s := s) (cs := cs) g ht h
    refine (if1 (by omega)).trans ?_
    refine (congrArg _ z).trans ?_
    exact if2
end N

set_option maxHeartbeats 2000000
namespace N
open MM GB L2 PySem
noncomputable abbrev bodyTS : Mas := mFor (itRng1 (aCons (e2 (e2 (eVar 2) (eVar 6) (opII (gI (· - ·)))) (eC (.int 1)) (opII (gI (· + ·)))) aNil)) (tgName true 7) [8] bodyTI
def last7 (cl : List Int) (x : Option Val) : Nat → Option Val
  | 0 => x
  | i + 1 => fst' none (cl.length - (i + 1))
theorem for_in {F G : Mas} {cl : List Int} {c : Int} {t : Nat} {found : List (List (List Int))} {s rows x d0 : Option Val} {cs : List Ent} {r : List D} (h : t ≤ cl.length) (hl : cl.length ≤ 60) (hF : F = mFor (itRng1 (aCons (e2 (e2 (eVar 2) (eVar 6) (opII (gI (· - ·)))) (eC (.int 1)) (opII (gI (· + ·)))) aNil)) (tgName true 7) [8] G) :
    fsR (tgName true 6) [6, 8] F r (tgName true 6 (itV (.int ((t : Int) + 1))) ⟨envT cl c found s rows d0 x none, cs⟩) =
    fsR2 (tgName true 6) [6, 8] F r (forS (tgName true 7) [8] G (rngD 0 (cl.length - t)) ⟨envT cl c found s rows (some ⟨.sh, .int (t + 1 : Nat)⟩) x none, cs⟩) := by
  have f1 : fits ((cl.length : Int) - ((t : Int) + 1) + 1) = true := fits_of (by omega) (by omega)
  have e : ((cl.length : Int) - ((t : Int) + 1) + 1).toNat = cl.length - t := by omega
  have e' : (rngD 0 (cl.length - t)) = rngD 0 ((cl.length : Int) - ((t : Int) + 1) + 1).toNat := by rw [e]
  rw [e']
  subst hF
  simp [envT, f1]
theorem for_out {F : Mas} {cl : List Int} {c : Int} {found : List (List (List Int))} {s rows d x g : Option Val} {cs : List Ent} {r : List D} {e : Bool} :
    fsR2 (tgName true 6) [6, 8] F r (.ok .nx ⟨envT cl c found s rows d x g, cs⟩ e) = forS (tgName true 6) [6, 8] F r ⟨envT cl c found s rows none x none, cs⟩ := by
  simp [envT]
theorem ev_TS {cl : List Int} {c : Int} {s i : Nat} {x : Option Val} {cs : List Ent} {r : List D} (g : Good cl) (h : i + 2 ≤ cl.length) :
    fsR (tgName true 6) [6, 8] bodyTS r (tgName true 6 (itV (.int (2 + (i : Int)))) ⟨envT cl c (MT.tab cl s) (some ⟨.sh, .int (s : Int)⟩) (some ⟨.al, tL (rowsAt cl s (i + 1) 0)⟩) none (last7 cl x i) none, cs⟩) =
    forS (tgName true 6) [6, 8] bodyTS r ⟨envT cl c (MT.tab cl s) (some ⟨.sh, .int (s : Int)⟩) (some ⟨.al, tL (rowsAt cl s (i + 2) 0)⟩) none (last7 cl x (i + 1)) none, cs⟩ := by
  have e2' : (2 + (i : Int)) = ((i + 1 : Nat) : Int) + 1 := by omega
  rw [e2']
  refine (for_in (F := bodyTS) (G := bodyTI) (t := i + 1) (by omega) g.l2 rfl).trans ?_
  have z := for_rng (s0 := ⟨envT cl c (MT.tab cl s) (some ⟨.sh, .int (s : Int)⟩) (some ⟨.al, tL (rowsAt cl s (i + 1) 0)⟩) (some ⟨.sh, .int (i + 1 + 1 : Nat)⟩) (last7 cl x i) none, cs⟩) (T := tgName true 7) (wip := [8]) (F := bodyTI) (lo := 0) (n := cl.length - (i + 1))
    (g := fun j => ⟨envT cl c (MT.tab cl s) (some ⟨.sh, .int (s : Int)⟩) (some ⟨.al, tL (rowsAt cl s (i + 1) j)⟩) (some ⟨.sh, .int (i + 1 + 1 : Nat)⟩) (fst' (last7 cl x i) j) none, cs⟩) rfl (fun j hj r => ev_TI g (by omega) (by omega))
  refine (congrArg _ z).trans ?_
  refine for_out.trans ?_
  rw [rowsAt_next (by omega) (by omega)]
  have e7 : fst' (last7 cl x i) (cl.length - (i + 1)) = last7 cl x (i + 1) := by
    show _ = fst' none (cl.length - (i + 1))
    obtain ⟨n, hn⟩ : ∃ n, cl.length - (i + 1) = n + 1 := ⟨cl.length - (i + 1) - 1, by omega⟩
    rw [hn]
    rfl
  rw [e7]
end N

/-! What all laws share: the comparison, values that grow. -/
namespace MM
open L2 GB PySem
/-! rows for simp -/
section
variable {s : MSt} {a b : Val} {o o1 o2 : Own} {i : Int} {l : List D} {ks : List Key}
@[simp] theorem keyOf_int : keyOf (.int i) = some (.inl i) := (rfl)
@[simp] theorem keyOf_str {z : Str} : keyOf (.str z) = some (.inr z) := (rfl)
@[simp] theorem dct?_dct : (D.dct ks l).dct? = some (ks, l) := (rfl)
@[simp] theorem eDNew_s : eDNew s = .ok ⟨.al, .dct [] []⟩ s false := (rfl)
theorem opIxA_seq {d : D} (h : der s a.d = some d) (h2 : d.seq? = some l) : opIxA [a, ⟨o2, .int i⟩] s = ixR a (atI l i) s := by
  have z : opIxA [a, ⟨o2, .int i⟩] s = opIx [a, ⟨o2, .int i⟩] s := by
    unfold opIxA
    dsimp only
    rw [h]
    cases d <;> first | rfl | cases h2
  rw [z]
  simp [h, h2]
def ixSR (z : Str) (x : Option Nat) (s : MSt) : Res Val := match x with
  | some c => bif decide (z.length ≤ sizeLine) then .ok ⟨.al, .str ⟨#[c]⟩⟩ s false else .bad
  | none => .bad
@[simp] theorem ixSR_some {z : Str} {c : Nat} : ixSR z (some c) s = bif decide (z.length ≤ sizeLine) then .ok ⟨.al, .str ⟨#[c]⟩⟩ s false else .bad := (rfl)
theorem opIxA_str {z : Str} (h : der s a.d = some (.str z)) : opIxA [a, ⟨o2, .int i⟩] s = ixSR z (atI z.cps.toList i) s := by
  have e : opIxA [a, ⟨o2, .int i⟩] s = opIxS [a, ⟨o2, .int i⟩] s := by
    unfold opIxA
    dsimp only
    rw [h]
  rw [e]
  unfold opIxS ixSR
  dsimp only [int?_int]
  rw [h]
  show (match atI z.cps.toList i with | some c => _ | none => _) = _
  cases atI z.cps.toList i <;> rfl
theorem opIxA_dct {k : Key} {d : D} (h : der s a.d = some (.dct ks l)) (hk : keyOf b.d = some k) (hl : lookD k ks l = some d) : opIxA [a, b] s = .ok ⟨inO a d, d⟩ s false := by
  have e : opIxA [a, b] s = opDGet [a, b] s := by
    unfold opIxA
    dsimp only
    rw [h]
  rw [e]
  unfold opDGet
  dsimp only
  rw [h, hk]
  show (match lookD k ks l with | some d => _ | none => _) = _
  rw [hl]
def dinR (n : Bool) (x : Option (List Key × List D)) (y : Option Key) (s : MSt) : Res Val := match x, y with
    | some (ks, l), some key => .ok ⟨.al, .bl (n != (lookD key ks l).isSome)⟩ s false
    | _, _ => .bad
@[simp] theorem opDIn_s {n : Bool} : opDIn n [b, a] s = dinR n ((der s a.d).bind D.dct?) (keyOf b.d) s := by
  unfold opDIn dinR
  rfl
@[simp] theorem dinR_some {n : Bool} {k : Key} : dinR n (some (ks, l)) (some k) s = .ok ⟨.al, .bl (n != (lookD k ks l).isSome)⟩ s false := (rfl)
end
theorem cAll0 : ∀ ns : List Int, PyData.canLayAll0 (ns.map PyData.int) = true
  | [] => rfl
  | _ :: r => by simp [PyData.canLayAll0, PyData.canLay0, cAll0 r]
theorem dAll0 : ∀ ns : List Int, PyData.depthAll (ns.map PyData.int) = 0
  | [] => rfl
  | _ :: r => by simp [PyData.depthAll, PyData.depth, dAll0 r]
theorem shp_ints {ns : List Int} : shp (.list (ns.map PyData.int)) = some (.list (ns.map PyData.int)) := by
  unfold shp
  simp [SeqAt.shaped, PyData.canLay0, PyData.depth, cAll0, dAll0]
theorem pdL_ints : ∀ ns : List Int, pdL (ns.map D.int) = some (ns.map PyData.int)
  | [] => by simp [pdL]
  | a :: r => by simp [pdL, pdL_ints r, D.pd]
theorem pdOf_ints {ns : List Int} {o : Own} {s : MSt} : pdOf s ⟨o, .lst (ns.map .int)⟩ = some (.list (ns.map .int)) := by
  unfold pdOf
  simp [D.pd, pdL_ints, shp_ints]
theorem eqv_ints : ∀ (l r : List Int), PyData.eqvAll (l.map .int) (r.map .int) = decide (l = r)
  | [], [] => by simp [PyData.eqvAll]
  | [], _ :: _ => by simp [PyData.eqvAll]
  | _ :: _, [] => by simp [PyData.eqvAll]
  | a :: l, b :: r => by
    simp only [List.map_cons, PyData.eqvAll, PyData.eqv, eqv_ints l r]
    by_cases h : a = b <;> by_cases h' : l = r <;> simp [h, h']
/-- l == [] of numbers -/
theorem eqD_nil {ns : List Int} {n : Bool} {o o2 : Own} {s : MSt} : opEqD n [⟨o, .lst (ns.map .int)⟩, ⟨o2, .lst []⟩] s = .ok ⟨.al, .bl (n != ns.isEmpty)⟩ s false := by
  have h : pdOf s ⟨o2, .lst []⟩ = some (.list []) := pdOf_ints (ns := [])
  rw [opEqD_s, pdOf_ints, h]
  simp [PyData.eqv]
  have e := eqv_ints ns []
  rw [List.map_nil] at e
  rw [e]
  cases ns <;> rfl
/-- a comprehension that keeps some numbers -/
theorem comp_flt {lo : Int} {n : Nat} {q : Nat → Bool} {T : Tgt} {t : Mab} {f : Mac} {vs : List Nat} {acc : List Val} {s0 : MSt}
    (h : ∀ i, i < n → ∀ l acc, csR T t f vs l acc (T (itV (.int (lo + i))) s0) = compS T t f vs l (bif q i then acc ++ [⟨.al, .int (lo + i)⟩] else acc) s0) :
    compS T t f vs (rngD lo n) acc s0 = .ok (acc ++ ((List.range n).filter q).map fun (i : Nat) => ⟨.al, .int (lo + i)⟩) s0 true := by
  have z : ∀ k, k ≤ n → compS T t f vs ((rngD lo n).drop (n - k)) (acc ++ ((List.range (n - k)).filter q).map fun (i : Nat) => ⟨.al, .int (lo + i)⟩) s0 = .ok (acc ++ ((List.range n).filter q).map fun (i : Nat) => ⟨.al, .int (lo + i)⟩) s0 true := by
    intro k
    induction k with
    | zero =>
      intro _
      rw [List.drop_eq_nil_of_le (by rw [rngD_len]; omega), compS_nil]
      rfl
    | succ k ih =>
      intro hk
      have lt : n - (k + 1) < (rngD lo n).length := by rw [rngD_len]; omega
      rw [List.drop_eq_getElem_cons lt, compS_cons, rngD_get lt, h _ (by omega)]
      have e : n - (k + 1) + 1 = n - k := by omega
      rw [e]
      have e2 : (bif q (n - (k + 1)) then acc ++ (((List.range (n - (k + 1))).filter q).map fun (i : Nat) => (⟨.al, .int (lo + i)⟩ : Val)) ++ [⟨.al, .int (lo + (n - (k + 1) : Nat))⟩] else acc ++ (((List.range (n - (k + 1))).filter q).map fun (i : Nat) => (⟨.al, .int (lo + i)⟩ : Val))) = acc ++ ((List.range (n - k)).filter q).map fun (i : Nat) => ⟨.al, .int (lo + i)⟩ := by
        rw [← e, List.range_succ, List.filter_append, List.map_append]
        cases c : q (n - (k + 1)) <;> simp [c]
      rw [e2]
      exact ih (by omega)
  have y := z n (Nat.le_refl n)
  rw [Nat.sub_self] at y
  simpa using y
theorem flt_empty {n : Nat} {q : Nat → Bool} : ((List.range n).filter q).isEmpty = (List.range n).all fun i => !q i := by
  rw [Bool.eq_iff_iff, List.isEmpty_iff, List.filter_eq_nil_iff, List.all_eq_true]
  simp
def shdR2 (x : Option Ent) : Option D := match x with
  | some (some ⟨.sh, d⟩) => some d
  | _ => none
def shdR (x : Option Ent) (s : MSt) : Option D := match x with
  | some (some ⟨.sh, .ref n⟩) => shdR2 s.cells[n]?
  | some (some ⟨.sh, d⟩) => some d
  | _ => none
def keysR (x : Option D) (s : MSt) : Res (List D) := match x with
  | some (.dct ks _) => .ok (ks.map keyD) s true
  | _ => .bad
@[simp] theorem itKeys_s {i : Nat} {s : MSt} : itKeys i s = keysR (shdR s.env[i]? s) s := (rfl)
@[simp] theorem keysR_some {ks : List Key} {l : List D} {s : MSt} : keysR (some (.dct ks l)) s = .ok (ks.map keyD) s true := (rfl)
@[simp] theorem shdR_ref {n : Nat} {s : MSt} : shdR (some (some ⟨.sh, .ref n⟩)) s = shdR2 s.cells[n]? := (rfl)
@[simp] theorem shdR_dct {ks : List Key} {l : List D} {s : MSt} : shdR (some (some ⟨.sh, .dct ks l⟩)) s = some (.dct ks l) := (rfl)
@[simp] theorem shdR2_some {d : D} : shdR2 (some (some ⟨.sh, d⟩)) = some d := (rfl)
/-! ### the comparison -/
/-- what is seen of an argument -/
structure Se (cs : List Ent) (v d : D) : Prop where
  dr : Dr cs v d
  ro : v = d ∨ isRoot d = true ∧ ∃ m, v = .ref m ∧ shdR2 cs[m]? = some d
theorem Se.plain {cs : List Ent} {v : D} (p : plain v = true) : Se cs v v := ⟨Dr.plain p, .inl rfl⟩
theorem Se.sh {cs : List Ent} {v d : D} (h : Se cs v d) : Se (cs.map shC) v d := ⟨h.dr.sh, h.ro.imp id fun ⟨r, m, e, z⟩ => ⟨r, m, e, by
  rw [List.getElem?_map]
  cases q : cs[m]? with
  | none => rw [q] at z; cases z
  | some x =>
    cases x with
    | none => rw [q] at z; cases z
    | some a =>
      obtain ⟨o, d2⟩ := a
      rw [q] at z
      cases o <;> first | (cases z; rfl) | cases z⟩⟩
theorem Se.cell {cs : List Ent} {n : Nat} {a : Val} (h : cs[n]? = some (some a)) (r : isRoot a.d = true) : Se (cs.map shC) (.ref n) a.d := by
  have z : (cs.map shC)[n]? = some (some ⟨.sh, a.d⟩) := by rw [List.getElem?_map, h]; rfl
  exact ⟨fun _ => by rw [der_ref, z]; rfl, .inr ⟨r, n, rfl, by rw [z]; rfl⟩⟩
def strOk' (v : D) : Prop := ∀ z, v = .str z → z.length ≤ 1000000
def okT : Nat → D → Prop
  | 0, v => plain v = true ∧ strOk' v
  | n + 1, v => (plain v = true ∧ strOk' v) ∧ ∀ l, v.seq? = some l → ∀ x ∈ l, okT n x
def okS : Nat → D → Prop
  | 0, _ => False
  | n + 1, v => match v with
    | .non => True
    | .bl _ => True
    | .int _ => True
    | .str z => z.length ≤ 1000000
    | .lst l => l.length ≤ 1000000 ∧ ∀ x ∈ l, okS n x
    | .fls l => l.length ≤ 1000000 ∧ ∀ x ∈ l, okS n x
    | .tup l => l.length ≤ 1000000 ∧ ∀ x ∈ l, okS n x
    | .dct ks l => ks = [] ∧ l = []
    | _ => False
theorem okT.p {n : Nat} {v : D} (h : okT n v) : plain v = true := by cases n <;> first | exact h.1 | exact h.1.1
theorem okT.s {n : Nat} {v : D} (h : okT n v) : strOk' v := by cases n <;> first | exact h.2 | exact h.1.2
theorem okS.plain {n : Nat} {v : D} (h : okS n v) : plain v = true := by
  cases n with
  | zero => exact h.elim
  | succ n => cases v <;> first | rfl | exact h.elim
def allZ (f : D → D → Bool) (l r : List D) : Bool := decide (l.length = r.length) && (List.range r.length).all fun k => match l[k]?, r[k]? with
  | some x, some y => f x y
  | _, _ => false
def sameB : Nat → D → D → Bool
  | 0, _, _ => false
  | n + 1, t, d => match d with
    | .non => (match t with | .non => true | _ => false)
    | .bl b => (match t with | .bl c => decide (c = b) | _ => false)
    | .int j => (match t with | .int i => decide (i = j) | _ => false)
    | .str z => (match t with | .str y => decide (y = z) | _ => false)
    | .dct _ _ => (match t with | .dct ks _ => ks.isEmpty | _ => false)
    | .lst r => (match t with | .lst l => allZ (sameB n) l r | .fls l => allZ (sameB n) l r | _ => false)
    | .fls r => (match t with | .lst l => allZ (sameB n) l r | .fls l => allZ (sameB n) l r | _ => false)
    | .tup r => (match t with | .tup l => allZ (sameB n) l r | _ => false)
    | _ => false
theorem same_non {n : Nat} {t tv : D} {cs : List Ent} (ht : Se cs tv t) (p : plain t = true) : sameM (n + 1) [tv, .non] cs = .ok ⟨.al, .bl (sameB (n + 1) t .non)⟩ ⟨[], cs⟩ true := by
  have e : tv.isNon = some (sameB (n + 1) t .non) := by
    rcases ht with ⟨hd, rfl | ⟨hr, _⟩⟩
    · cases tv <;> first | rfl | cases p
    · have z := hd []
      cases tv <;> first | (cases z; cases hr; done) | (cases z; rfl) | skip
      cases t <;> first | (cases hr; done) | rfl
  unfold sameM
  simp [fnOf_s, e]
theorem same_bl {n : Nat} {b : Bool} {t tv : D} {cs : List Ent} (ht : Se cs tv t) (p : plain t = true) : sameM (n + 1) [tv, .bl b] cs = .ok ⟨.al, .bl (sameB (n + 1) t (.bl b))⟩ ⟨[], cs⟩ true := by
  have hd : ∀ env, der ⟨env, cs⟩ tv = some t := ht.dr
  unfold sameM
  cases t with
  | bl c =>
    have : tv = .bl c := ht.ro.elim id fun z => (nomatch z.1)
    subst this
    simp [fnOf_s, sameB]
  | _ => first | (cases p; done) | simp [fnOf_s, hd, sameB]
theorem same_int {n : Nat} {j : Int} {t tv : D} {cs : List Ent} (ht : Se cs tv t) (p : plain t = true) : sameM (n + 1) [tv, .int j] cs = .ok ⟨.al, .bl (sameB (n + 1) t (.int j))⟩ ⟨[], cs⟩ true := by
  have hd : ∀ env, der ⟨env, cs⟩ tv = some t := ht.dr
  unfold sameM
  cases t with
  | int i =>
    have : tv = .int i := ht.ro.elim id fun z => (nomatch z.1)
    subst this
    simp [fnOf_s, sameB]
    omega
  | bl c =>
    have : tv = .bl c := ht.ro.elim id fun z => (nomatch z.1)
    subst this
    simp [fnOf_s, sameB]
  | _ => first | (cases p; done) | simp [fnOf_s, hd, sameB]

@[simp] theorem lenD_str {z : Str} (h : z.length ≤ 1000000) : lenD (.str z) = some z.length := by
  show (bif decide (z.length ≤ sizeLine) then some z.length else none) = _
  rw [decide_eq_true (Nat.le_trans h (by decide))]
  rfl
theorem cutS_at {z : Str} {k : Nat} {c : Nat} (h : z.cps[k]? = some c) : cutS z (some (k : Int)) (some ((k : Int) + 1)) = ⟨#[c]⟩ := by
  have lt : k < z.cps.size := (Array.getElem?_eq_some_iff.mp h).1
  have lz : z.length = z.cps.size := rfl
  have e : ((k : Int) + 1) = ((k + 1 : Nat) : Int) := by omega
  unfold cutS
  rw [e, HT.sIx_nat, HT.sIx_nat, Nat.min_eq_left (by omega), Nat.min_eq_left (by omega), show k + 1 - k = 1 by omega]
  have hl : z.cps.toList[k]? = some c := by rw [← h]; simp
  rw [List.drop_eq_getElem_cons (by simpa using lt)]
  have : z.cps.toList[k] = c := by
    have := List.getElem?_eq_getElem (l := z.cps.toList) (i := k) (by simpa using lt)
    rw [hl] at this
    exact (Option.some.inj this).symm
  rw [this]
  rfl
theorem opSl_str {z : Str} {lo hi : Option Int} {s : MSt} {a : Val} (h : der s a.d = some (.str z)) (hz : z.length ≤ 1000000) : opSl lo hi a s = .ok ⟨.al, .str (cutS z lo hi)⟩ s false := by
  unfold opSl
  rw [h]
  dsimp only
  rw [decide_eq_true (Nat.le_trans hz (by decide))]
  rfl
theorem str_ext {y z : Str} (h : y.length = z.length) : decide (y = z) = (List.range z.length).all fun k => decide (y.cps[k]? = z.cps[k]?) := by
  rw [Bool.eq_iff_iff, decide_eq_true_iff, List.all_eq_true]
  constructor
  · rintro rfl k _
    simp
  · intro a
    obtain ⟨y⟩ := y
    obtain ⟨z⟩ := z
    congr 1
    apply Array.ext_getElem?
    intro i
    by_cases c : i < z.size
    · have := a i (List.mem_range.mpr c)
      simpa using this
    · have h : y.size = z.size := h
      rw [Array.getElem?_eq_none (by omega), Array.getElem?_eq_none (by omega)]
@[simp] theorem pdOf_nats {L : List Nat} {o : Own} {s : MSt} : pdOf s ⟨o, .lst (L.map fun (z : Nat) => D.int (z : Int))⟩ = some (.list (L.map fun (z : Nat) => .int (z : Int))) := by
  have := pdOf_ints (ns := L.map fun (z : Nat) => (z : Int)) (o := o) (s := s)
  rw [List.map_map, List.map_map] at this
  exact this
@[simp] theorem pdOf_nil {o : Own} {s : MSt} : pdOf s ⟨o, .lst []⟩ = some (.list []) := pdOf_ints (ns := [])
@[simp] theorem eqv_nil {ns : List Int} : PyData.eqv (.list (ns.map .int)) (.list []) = ns.isEmpty := by
  have e := eqv_ints ns []
  rw [List.map_nil] at e
  simp only [PyData.eqv]
  rw [e]
  cases ns <;> rfl
@[simp] theorem eqv_nilN {L : List Nat} : PyData.eqv (.list (L.map fun (z : Nat) => .int (z : Int))) (.list []) = L.isEmpty := by
  have e := eqv_nil (ns := L.map fun (z : Nat) => (z : Int))
  rw [List.map_map] at e
  exact e.trans (by cases L <;> rfl)
@[simp] theorem isEmpty_map' {α β : Type} {f : α → β} {l : List α} : (l.map f).isEmpty = l.isEmpty := by cases l <;> rfl
theorem same_str {n : Nat} {z : Str} {t tv : D} {cs : List Ent} (ht : Se cs tv t) (p : plain t = true) (st : strOk' t) (hz : z.length ≤ 1000000) : sameM (n + 1) [tv, .str z] cs = .ok ⟨.al, .bl (sameB (n + 1) t (.str z))⟩ ⟨[], cs⟩ true := by
  have hd : ∀ env, der ⟨env, cs⟩ tv = some t := ht.dr
  unfold sameM
  cases t with
  | str y =>
    have : tv = .str y := ht.ro.elim id fun z => (nomatch z.1)
    subst this
    have hy := st y rfl
    have hzl : z.length ≤ sizeLine := Nat.le_trans hz (by decide)
    by_cases l : y.length = z.length
    · have f1 : fits (z.length : Int) = true := fits_of (by omega) (by omega)
      have l7 : z.length ≤ 10000000 := by omega
      simp [fnOf_s, hy, hz, l, f1, rngD_len, l7]
      rw [comp_flt (q := fun k => !decide (y.cps[k]? = z.cps[k]?)) ?_]
      · have e2 := str_ext l
        have e3 := flt_empty (n := z.length) (q := fun k => !decide (y.cps[k]? = z.cps[k]?))
        simp only [Bool.not_not] at e3
        rw [← e2] at e3
        simp [allAl_map, dsOf_map, e3, sameB]
      · intro i hi l acc
        have ly : i < y.cps.size := by have : y.length = y.cps.size := rfl; omega
        have lz : i < z.cps.size := hi
        have hy2 : y.cps[i]? = some y.cps[i] := Array.getElem?_eq_getElem ly
        have hz2 : z.cps[i]? = some z.cps[i] := Array.getElem?_eq_getElem lz
        have c1 := cutS_at hy2
        have c2 : atI z.cps.toList (i : Int) = some z.cps[i] := by
          rw [atI_pos (by omega), Int.toNat_natCast]
          simpa using hz2
        by_cases c : y.cps[i] = z.cps[i] <;> simp [opSl_str, hy, hzl, c1, opIxA_str, c2, hy2, hz2, c]
    · have l2 : ¬ y = z := fun h => l (by rw [h])
      simp [fnOf_s, hy, hz, l, l2, sameB, Int.ofNat_inj]
  | _ => first | (cases p; done) | simp [fnOf_s, hd, sameB]
theorem der_see {v d : D} {cs : List Ent} (h : Dr cs v d) (env : List Ent) : der ⟨env, cs⟩ v = some d := h env
theorem all_allZ {f : D → D → Bool} {l r : List D} (h : l.length = r.length) : ((List.range r.length).all fun k => match l[k]?, r[k]? with | some x, some y => f x y | _, _ => false) = allZ f l r := by
  unfold allZ
  rw [decide_eq_true h]
  rfl
def kz (f : D → D → Bool) (l r : List D) (k : Nat) : Bool := match l[k]?, r[k]? with | some x, some y => f x y | _, _ => false
theorem kz_some {f : D → D → Bool} {l r : List D} {k : Nat} {x y : D} (h1 : l[k]? = some x) (h2 : r[k]? = some y) : kz f l r k = f x y := by unfold kz; rw [h1, h2]
theorem same_seq {n : Nat} {l r : List D} {t d tv dv : D} {cs : List Ent} (ht : Se cs tv t) (hd : Se cs dv d) (hl : t.seq? = some l) (hr : d.seq? = some r) (lr : r.length ≤ 1000000)
    (pt : plain t = true) (pd : plain d = true)
    (ih : ∀ x ∈ l, ∀ y ∈ r, ∀ cs', sameM n [x, y] cs' = .ok ⟨.al, .bl (sameB n x y)⟩ ⟨[], cs'⟩ true) :
    sameM (n + 1) [tv, dv] cs = .ok ⟨.al, .bl (decide (t.isA .list = d.isA .list) && allZ (sameB n) l r)⟩ ⟨[], cs⟩ true := by
  have h1 : ∀ env, der ⟨env, cs⟩ tv = some t := ht.dr
  have h2 : ∀ env, der ⟨env, cs⟩ dv = some d := hd.dr
  have n2 : dv.isNon = some false := by
    rcases hd with ⟨h, rfl | h3⟩
    · cases dv <;> first | (cases hr; done) | rfl
    · have z := h []
      cases dv <;> first | (cases z; cases hr; done) | (cases z; rfl) | rfl
  have b2 : d.isA .bool = false ∧ d.isA .int = false ∧ d.isA .str = false ∧ d.isA .dict = false := by cases d <;> first | (cases hr; done) | exact ⟨rfl, rfl, rfl, rfl⟩
  have s1 : t.isA .tuple = !t.isA .list := by cases t <;> first | (cases hl; done) | rfl
  have s2 : d.isA .tuple = !d.isA .list := by cases d <;> first | (cases hr; done) | rfl
  have l1 := lenD_seq hl
  have l2 := lenD_seq hr
  unfold sameM
  by_cases c : t.isA .list = d.isA .list
  · by_cases lc : l.length = r.length
    · have f1 : fits (r.length : Int) = true := fits_of (by omega) (by omega)
      have l7 : r.length ≤ 10000000 := by omega
      simp [fnOf_s, n2, h1, h2, isiR_some pt, isiR_some pd, b2, s1, s2, c, l1, l2, lc, f1, rngD_len, l7]
      rw [comp_flt (q := fun k => !kz (sameB n) l r k) ?_]
      · have e3 := flt_empty (n := r.length) (q := fun k => !kz (sameB n) l r k)
        simp only [Bool.not_not] at e3
        rw [show ((List.range r.length).all fun i => kz (sameB n) l r i) = allZ (sameB n) l r from all_allZ lc] at e3
        simp [allAl_map, dsOf_map, e3]
      · intro i hi la acc
        have i1 : l[i]? = some l[i] := List.getElem?_eq_getElem (by omega)
        have i2 : r[i]? = some r[i] := List.getElem?_eq_getElem hi
        have a1 : atI l (i : Int) = some l[i] := at_of rfl i1
        have a2 : atI r (i : Int) = some r[i] := at_of rfl i2
        have z := ih l[i] (List.getElem_mem ..) r[i] (List.getElem_mem ..) (cs.map shC)
        have kk := kz_some (f := sameB n) i1 i2
        have o1 : ∀ (o : Own) (s : MSt), der s tv = some t → opIxA [⟨o, tv⟩, ⟨.al, .int i⟩] s = ixR ⟨o, tv⟩ (atI l i) s := fun o s h => opIxA_seq h hl
        have o2 : ∀ (o : Own) (s : MSt), der s dv = some d → opIxA [⟨o, dv⟩, ⟨.al, .int i⟩] s = ixR ⟨o, dv⟩ (atI r i) s := fun o s h => opIxA_seq h hr
        cases q : sameB n l[i] r[i] <;> simp [h1, h2, o1, o2, i1, i2, z, kk, q]
    · simp [fnOf_s, n2, h1, h2, isiR_some pt, isiR_some pd, b2, s1, s2, c, l1, l2, lc, Int.ofNat_inj, allZ]
  · simp [fnOf_s, n2, h1, h2, isiR_some pt, isiR_some pd, b2, s1, s2, c]
@[simp] theorem eqv_nilnil : PyData.eqv (.list []) (.list []) = true := eqv_nil (ns := [])
/-- a comprehension that keeps nothing -/
theorem comp_no {T : Tgt} {t : Mab} {f : Mac} {vs : List Nat} {l : List D} {acc : List Val} {s0 : MSt} (h : ∀ d ∈ l, ∀ l acc, csR T t f vs l acc (T (itV d) s0) = compS T t f vs l acc s0) : compS T t f vs l acc s0 = .ok acc s0 true := by
  induction l with
  | nil => rfl
  | cons d l ih => rw [compS_cons, h d (by simp), ih fun d z => h d (by simp [z])]
theorem lookD_mem {key : Key} : ∀ {ks : List Key} {l : List D}, ks.length = l.length → key ∈ ks → ∃ d ∈ l, lookD key ks l = some d
  | [], _, _, h => by simp at h
  | j :: ks, [], e, _ => by simp at e
  | j :: ks, x :: l, e, h => by
    unfold lookD
    by_cases c : j = key
    · exact ⟨x, by simp, if_pos c⟩
    · rw [if_neg c]
      obtain ⟨d, h1, h2⟩ := lookD_mem (key := key) (ks := ks) (l := l) (by simpa using e) ((List.mem_cons.mp h).resolve_left fun z => c z.symm)
      exact ⟨d, by simp [h1], h2⟩
theorem keyOf_keyD {k : Key} : keyOf (keyD k) = some k := by cases k <;> rfl
theorem keyD_imm {k : Key} : imm (keyD k) = true := by cases k <;> rfl
/-- dv: a dict, or a cell that holds it -/
theorem same_dct_eq {n : Nat} {ks : List Key} {l : List D} {tv dv : D} {cs : List Ent} (ht : Se cs tv (.dct ks l)) (hd : Se cs dv (.dct ks l)) (e : ks.length = l.length) (lk : ks.length ≤ 1000000)
    (ih : ∀ x ∈ l, ∀ cs', sameM n [x, x] cs' = .ok ⟨.al, .bl true⟩ ⟨[], cs'⟩ true) :
    sameM (n + 1) [tv, dv] cs = .ok ⟨.al, .bl true⟩ ⟨[], cs⟩ true := by
  have h1 : ∀ env, der ⟨env, cs⟩ tv = some (.dct ks l) := ht.dr
  have h2 : ∀ env, der ⟨env, cs⟩ dv = some (.dct ks l) := hd.dr
  have n2 : dv.isNon = some false := by
    rcases hd with ⟨h, rfl | h3⟩
    · rfl
    · have z := h []
      cases dv <;> first | (cases z; done) | (cases z; rfl) | rfl
  have s2 : ∀ env, shdR (some (some ⟨.sh, dv⟩)) ⟨env, cs⟩ = some (.dct ks l) := fun env => by
    rcases hd.ro with rfl | ⟨_, m, rfl, z⟩
    · rfl
    · exact z
  have l7 : ks.length ≤ 10000000 := by omega
  unfold sameM
  generalize hG : mComp (itKeys 1) _ _ _ _ = G
  have z : G ⟨[some ⟨.sh, tv⟩, some ⟨.sh, dv⟩, none, none], cs⟩ = .ok ⟨.al, .lst []⟩ ⟨[some ⟨.sh, tv⟩, some ⟨.sh, dv⟩, none, none], cs⟩ true := by
    rw [← hG]
    simp [s2, l7]
    rw [comp_no]
    · simp
    · intro d hm la acc
      obtain ⟨key, hk, rfl⟩ := List.mem_map.mp hm
      obtain ⟨x, hx, lo⟩ := lookD_mem e hk
      have z := ih x hx (cs.map shC)
      have o1 : ∀ (o o3 : Own) (s : MSt), der s tv = some (.dct ks l) → opIxA [⟨o, tv⟩, ⟨o3, keyD key⟩] s = .ok ⟨inO ⟨o, tv⟩ x, x⟩ s false := fun o o3 s h => opIxA_dct h keyOf_keyD lo
      have o2 : ∀ (o o3 : Own) (s : MSt), der s dv = some (.dct ks l) → opIxA [⟨o, dv⟩, ⟨o3, keyD key⟩] s = .ok ⟨inO ⟨o, dv⟩ x, x⟩ s false := fun o o3 s h => opIxA_dct h keyOf_keyD lo
      simp [h1, h2, keyOf_keyD, keyD_imm, lo, o1, o2, z]
  clear hG
  simp [fnOf_s, n2, h2]
  simp [h1, h2, z]
theorem same_dct {n : Nat} {ks : List Key} {rl : List D} {t tv dv : D} {cs : List Ent} (ht : Se cs tv t) (hd : Se cs dv (.dct ks rl)) (hk : ks = []) (pt : plain t = true) :
    sameM (n + 1) [tv, dv] cs = .ok ⟨.al, .bl (sameB (n + 1) t (.dct ks rl))⟩ ⟨[], cs⟩ true := by
  have h1 : ∀ env, der ⟨env, cs⟩ tv = some t := ht.dr
  have h2 : ∀ env, der ⟨env, cs⟩ dv = some (.dct ks rl) := hd.dr
  have n2 : dv.isNon = some false := by
    rcases hd with ⟨h, rfl | ⟨_, m, rfl, _⟩⟩ <;> rfl
  have s2 : ∀ env, shdR (some (some ⟨.sh, dv⟩)) ⟨env, cs⟩ = some (.dct ks rl) := fun env => by
    rcases hd.ro with rfl | ⟨_, m, rfl, z⟩
    · rfl
    · exact z
  subst hk
  unfold sameM
  cases t with
  | dct k2 l2 =>
    cases k2 with
    | nil =>
      simp [fnOf_s, n2, h2]
      simp [h1, h2, s2, sameB]
    | cons x y =>
      simp [fnOf_s, n2, h2]
      simp [h1, h2, sameB, show ((y.length : Int) + 1 = 0) = False by simp; omega]
  | _ =>
    first
    | (cases pt; done)
    | (simp [fnOf_s, n2, h2]
       simp [h1, h2, sameB])
theorem same_seqB {n : Nat} {l r : List D} {t d : D} (hl : t.seq? = some l) (hr : d.seq? = some r) : (decide (t.isA .list = d.isA .list) && allZ (sameB n) l r) = sameB (n + 1) t d := by
  cases t <;> first | (cases hl; done) | skip
  all_goals cases d <;> first | (cases hr; done) | (cases hl; cases hr; rfl)
theorem same_notseq {n : Nat} {r : List D} {t d tv dv : D} {cs : List Ent} (ht : Se cs tv t) (hd : Se cs dv d) (hl : t.seq? = none) (hr : d.seq? = some r) (pt : plain t = true) (pd : plain d = true) :
    sameM (n + 1) [tv, dv] cs = .ok ⟨.al, .bl (sameB (n + 1) t d)⟩ ⟨[], cs⟩ true := by
  have h1 : ∀ env, der ⟨env, cs⟩ tv = some t := ht.dr
  have h2 : ∀ env, der ⟨env, cs⟩ dv = some d := hd.dr
  have n2 : dv.isNon = some false := by
    rcases hd with ⟨h, rfl | h3⟩
    · cases dv <;> first | (cases hr; done) | rfl
    · have z := h []
      cases dv <;> first | (cases z; cases hr; done) | (cases z; rfl) | rfl
  have b2 : d.isA .bool = false ∧ d.isA .int = false ∧ d.isA .str = false ∧ d.isA .dict = false := by cases d <;> first | (cases hr; done) | exact ⟨rfl, rfl, rfl, rfl⟩
  have s1 : t.isA .tuple = false ∧ t.isA .list = false := by cases t <;> first | (cases hl; done) | exact ⟨rfl, rfl⟩
  have s2 : d.isA .tuple = !d.isA .list := by cases d <;> first | (cases hr; done) | rfl
  have e : sameB (n + 1) t d = false := by
    cases t <;> first | (cases hl; done) | (cases pt; done) | skip
    all_goals cases d <;> first | (cases hr; done) | rfl
  unfold sameM
  simp [fnOf_s, n2, h1, h2, isiR_some pt, isiR_some pd, b2, s1, s2, e]
theorem okS.el {n : Nat} {d : D} {r : List D} (h : okS (n + 1) d) (e : d.seq? = some r) : r.length ≤ 1000000 ∧ ∀ x ∈ r, okS n x := by cases d <;> first | (cases e; done) | (cases e; exact h)
theorem okT.el {n : Nat} {d : D} {r : List D} (h : okT (n + 1) d) (e : d.seq? = some r) : ∀ x ∈ r, okT n x := h.2 r e
/-- what the comparison reckons -/
theorem ev_same {n : Nat} : ∀ {t d tv dv : D} {cs : List Ent}, Se cs tv t → Se cs dv d → okT n t → okS (n + 1) d → sameM (n + 1) [tv, dv] cs = .ok ⟨.al, .bl (sameB (n + 1) t d)⟩ ⟨[], cs⟩ true := by
  have top : ∀ {n : Nat} {t d tv dv : D} {cs : List Ent}, Se cs tv t → Se cs dv d → plain t = true → strOk' t → okS (n + 1) d →
      (∀ l r, t.seq? = some l → d.seq? = some r → ∀ x ∈ l, ∀ y ∈ r, ∀ cs', sameM n [x, y] cs' = .ok ⟨.al, .bl (sameB n x y)⟩ ⟨[], cs'⟩ true) →
      sameM (n + 1) [tv, dv] cs = .ok ⟨.al, .bl (sameB (n + 1) t d)⟩ ⟨[], cs⟩ true := by
    intro n t d tv dv cs ht hd pt st ks ih
    have pd := okS.plain ks
    cases hr : d.seq? with
    | some r =>
      cases hl : t.seq? with
      | none => exact same_notseq ht hd hl hr pt pd
      | some l =>
        rw [← same_seqB hl hr]
        exact same_seq ht hd hl hr (ks.el hr).1 pt pd (ih l r hl hr)
    | none =>
      cases d with
      | non =>
        obtain rfl : dv = .non := hd.ro.elim id fun z => (nomatch z.1)
        exact same_non ht pt
      | bl b =>
        obtain rfl : dv = .bl b := hd.ro.elim id fun z => (nomatch z.1)
        exact same_bl ht pt
      | int b =>
        obtain rfl : dv = .int b := hd.ro.elim id fun z => (nomatch z.1)
        exact same_int ht pt
      | str b =>
        obtain rfl : dv = .str b := hd.ro.elim id fun z => (nomatch z.1)
        exact same_str ht pt st ks
      | dct k2 l2 => exact same_dct ht hd ks.1 pt
      | _ => first | (cases hr; done) | exact ks.elim
  induction n with
  | zero =>
    intro t d tv dv cs ht hd kt ks
    exact top ht hd kt.p kt.s ks fun l r _ hr x _ y hy => ((ks.el hr).2 y hy).elim
  | succ n ih =>
    intro t d tv dv cs ht hd kt ks
    exact top ht hd kt.p kt.s ks fun l r hl hr x hx y hy cs' => ih (Se.plain (kt.el hl x hx).p) (Se.plain (okS.plain ((ks.el hr).2 y hy))) (kt.el hl x hx) ((ks.el hr).2 y hy)
theorem allZ_self {f : D → D → Bool} {l : List D} (h : ∀ x ∈ l, f x x = true) : allZ f l l = true := by
  unfold allZ
  rw [decide_eq_true rfl, Bool.true_and, List.all_eq_true]
  intro k hk
  have lt := List.mem_range.mp hk
  rw [List.getElem?_eq_getElem lt]
  exact h _ (List.getElem_mem ..)
theorem sameB_self : ∀ {n : Nat} {d : D}, okS n d → sameB n d d = true
  | 0, _, h => h.elim
  | n + 1, d, h => by
    cases d <;> first | exact h.elim | exact decide_eq_true rfl | rfl | (exact allZ_self fun x hx => sameB_self (h.2 x hx)) | skip
    obtain ⟨h1, h2⟩ := h
    subst h1 h2
    rfl
theorem okT_of : ∀ {n : Nat} {d : D}, okS (n + 1) d → okT n d
  | 0, d, h => ⟨okS.plain h, fun z e => by subst e; exact h⟩
  | n + 1, d, h => ⟨⟨okS.plain h, fun z e => by subst e; exact h⟩, fun l hl x hx => okT_of ((h.el hl).2 x hx)⟩
theorem allZ_iff {f : D → D → Bool} {l r : List D} : allZ f l r = true ↔ l.length = r.length ∧ ∀ (k : Nat) (x y : D), l[k]? = some x → r[k]? = some y → f x y = true := by
  unfold allZ
  rw [Bool.and_eq_true, decide_eq_true_iff, List.all_eq_true]
  constructor
  · rintro ⟨e, h⟩
    refine ⟨e, fun k x y h1 h2 => ?_⟩
    have z := h k (List.mem_range.mpr (List.getElem?_eq_some_iff.mp h2).1)
    rw [h1, h2] at z
    exact z
  · rintro ⟨e, h⟩
    refine ⟨e, fun k hk => ?_⟩
    have lt := List.mem_range.mp hk
    rw [List.getElem?_eq_getElem lt, List.getElem?_eq_getElem (by omega)]
    exact h k _ _ (List.getElem?_eq_getElem (by omega)) (List.getElem?_eq_getElem lt)
/-- the same twice -/
theorem ev_same_self {n : Nat} {d tv dv : D} {cs : List Ent} (ht : Se cs tv d) (hd : Se cs dv d) (k : okS (n + 1) d) : sameM (n + 1) [tv, dv] cs = .ok ⟨.al, .bl true⟩ ⟨[], cs⟩ true := by
  have z := ev_same ht hd (okT_of k) k
  rw [sameB_self k] at z
  exact z
/-- a list or a tuple of fls tells the same -/
theorem okS.mono {n : Nat} : ∀ {m : Nat} {d : D}, okS n d → n ≤ m → okS m d := by
  induction n with
  | zero => intro m d h; exact h.elim
  | succ n ih =>
    intro m d h l
    obtain ⟨m, rfl⟩ : ∃ k, m = k + 1 := ⟨m - 1, by omega⟩
    cases d <;> first | exact h | exact h.elim | exact ⟨h.1, fun x hx => ih (h.2 x hx) (by omega)⟩
theorem okS_ints {n : Nat} {l : List Int} (h : l.length ≤ 1000000) : okS (n + 2) (.lst (l.map .int)) := ⟨by rw [List.length_map]; exact h, fun x hx => by
  obtain ⟨i, _, rfl⟩ := List.mem_map.mp hx
  trivial⟩
/-! ### values that grow -/
theorem ev_grown_lst {n : Nat} {cs : List Ent} {l : List D} (hc : cs[n]? = some (some ⟨.al, .lst l⟩)) (h : l.length < 8000000) : grownM [.ref n] cs = .ok ⟨.al, .non⟩ ⟨[], cs.set n (some ⟨.al, .lst (l ++ [.str "more"])⟩)⟩ true := by
  have lt : n < cs.length := (List.getElem?_eq_some_iff.mp hc).1
  have sm := small_of h
  have e : (cs.set n (some ⟨.al, .lst (l ++ [.str "more"])⟩))[n]? = some (some (⟨.al, .lst (l ++ [.str "more"])⟩ : Val)) := by rw [List.getElem?_set_self lt]
  simp [grownM, fnOf_s, hc, sm, e]
theorem ev_grown_no {v : D} {cs : List Ent} (p : plain v = true) (h1 : v.isA .list = false) (h2 : v.isA .dict = false) : grownM [v] cs = .ok ⟨.al, .non⟩ ⟨[], cs⟩ true := by
  have hd : ∀ env, der ⟨env, cs⟩ v = some v := Dr.plain p
  simp [grownM, fnOf_s, hd, isiR_some p, h1, h2]
/-! ### loops by invariants -/
/-- a return, whatever the frame -/
def Rt (a : Val) (c : List Ent) (r : Res Fl) : Prop := ∃ env e, r = .ok (.rt a) ⟨env, c⟩ e
@[simp] theorem Rt_ok {a : Val} {c env : List Ent} {e : Bool} : Rt a c (.ok (.rt a) ⟨env, c⟩ e) := ⟨env, e, rfl⟩
theorem Rt.fn {a : Val} {c : List Ent} {r : Res Fl} (h : Rt a c r) (n : a.o ≠ .bo) : fnR r = .ok a ⟨[], c⟩ true := by
  obtain ⟨env, e, rfl⟩ := h
  rw [fnR_rt, decide_eq_false n]
  rfl
theorem Rt.sq {a : Val} {c : List Ent} {r : Res Fl} {G : Mas} (h : Rt a c r) : Rt a c (sqR r G) := by
  obtain ⟨env, e, rfl⟩ := h
  exact Rt_ok
theorem Rt.fs {a : Val} {c : List Ent} {r : Res Fl} {T : Tgt} {wip : List Nat} {F : Mas} {l : List D} (h : Rt a c r) : Rt a c (fsR2 T wip F l r) := by
  obtain ⟨env, e, rfl⟩ := h
  exact Rt_ok
section
variable {T : Tgt} {wip : List Nat} {F : Mas} {l : List D} {s0 : MSt}
/-- a loop that looks at each item, and gives up at the first that is wrong -/
theorem for_chk {x : Val} {q : D → Bool} {c : List Ent} (h : ∀ d ∈ l, (q d = true → ∀ r, fsR T wip F r (T (itV d) s0) = forS T wip F r s0) ∧ (q d = false → ∀ r, Rt x c (fsR T wip F r (T (itV d) s0)))) :
    (l.all q = true ∧ forS T wip F l s0 = .ok .nx s0 true) ∨ (l.all q = false ∧ Rt x c (forS T wip F l s0)) := by
  induction l with
  | nil => exact .inl ⟨rfl, rfl⟩
  | cons d l ih =>
    have h1 := h d (by simp)
    cases e : q d with
    | true =>
      have z := h1.1 e l
      have e2 : (d :: l).all q = l.all q := by rw [List.all_cons, e, Bool.true_and]
      rw [e2, forS_cons, z]
      exact ih fun d hd => h d (by simp [hd])
    | false =>
      refine .inr ⟨by rw [List.all_cons, e, Bool.false_and], ?_⟩
      rw [forS_cons]
      exact h1.2 e l
/-- a loop by what holds ahead of each turn -/
theorem for_inv {I : Nat → MSt → Prop} (h0 : I 0 s0) (h : ∀ i (lt : i < l.length) s, I i s → ∃ s', I (i + 1) s' ∧ ∀ r, fsR T wip F r (T (itV l[i]) s) = forS T wip F r s') : ∃ s', I l.length s' ∧ forS T wip F l s0 = .ok .nx s' true := by
  have z : ∀ n i s, i + n = l.length → I i s → ∃ s', I l.length s' ∧ forS T wip F (l.drop i) s = .ok .nx s' true := by
    intro n
    induction n with
    | zero =>
      intro i s e hi
      refine ⟨s, ?_, ?_⟩
      · have : i = l.length := by omega
        rw [← this]
        exact hi
      · rw [List.drop_eq_nil_of_le (by omega), forS_nil]
    | succ n ih =>
      intro i s e hi
      obtain ⟨s1, h1, h2⟩ := h i (by omega) s hi
      obtain ⟨s2, h3, h4⟩ := ih (i + 1) s1 (by omega) h1
      refine ⟨s2, h3, ?_⟩
      rw [List.drop_eq_getElem_cons (show i < l.length by omega), forS_cons, h2]
      exact h4
  exact z l.length 0 s0 (by omega) h0
theorem for_inv_rng {lo : Int} {n : Nat} {I : Nat → MSt → Prop} (h0 : I 0 s0) (h : ∀ i, i < n → ∀ s, I i s → ∃ s', I (i + 1) s' ∧ ∀ r, fsR T wip F r (T (itV (.int (lo + i))) s) = forS T wip F r s') : ∃ s', I n s' ∧ forS T wip F (rngD lo n) s0 = .ok .nx s' true := by
  have z := for_inv (l := rngD lo n) (T := T) (wip := wip) (F := F) (I := I) h0 fun i lt s hs => by
    rw [rngD_get lt]
    exact h i (by rw [rngD_len] at lt; exact lt) s hs
  rw [rngD_len] at z
  exact z
/-- .. that may end early, by a break or by a return -/
theorem for_try {I : Nat → MSt → Prop} {E : Res Fl → Prop} (h0 : I 0 s0) (h : ∀ i (lt : i < l.length) s, I i s → (∃ s', I (i + 1) s' ∧ ∀ r, fsR T wip F r (T (itV l[i]) s) = forS T wip F r s') ∨ ∃ x, E x ∧ ∀ r, fsR T wip F r (T (itV l[i]) s) = x) :
    (∃ s', I l.length s' ∧ forS T wip F l s0 = .ok .nx s' true) ∨ E (forS T wip F l s0) := by
  have z : ∀ n i s, i + n = l.length → I i s → (∃ s', I l.length s' ∧ forS T wip F (l.drop i) s = .ok .nx s' true) ∨ E (forS T wip F (l.drop i) s) := by
    intro n
    induction n with
    | zero =>
      intro i s e hi
      refine .inl ⟨s, ?_, ?_⟩
      · have : i = l.length := by omega
        rw [← this]
        exact hi
      · rw [List.drop_eq_nil_of_le (by omega), forS_nil]
    | succ n ih =>
      intro i s e hi
      rw [List.drop_eq_getElem_cons (show i < l.length by omega), forS_cons]
      rcases h i (by omega) s hi with ⟨s1, h1, h2⟩ | ⟨x, hx, h2⟩
      · rw [h2]
        exact ih (i + 1) s1 (by omega) h1
      · rw [h2]
        exact .inr hx
  exact z l.length 0 s0 (by omega) h0
/-- a comprehension by what holds ahead of each turn -/
theorem comp_inv {t : Mab} {f : Mac} {vs : List Nat} {I : Nat → List Val → MSt → Prop} {acc : List Val} (h0 : I 0 acc s0) (h : ∀ i (lt : i < l.length) s acc, I i acc s → ∃ s' acc', I (i + 1) acc' s' ∧ ∀ r, csR T t f vs r acc (T (itV l[i]) s) = compS T t f vs r acc' s') :
    ∃ s' acc', I l.length acc' s' ∧ compS T t f vs l acc s0 = .ok acc' s' true := by
  have z : ∀ n i s acc, i + n = l.length → I i acc s → ∃ s' acc', I l.length acc' s' ∧ compS T t f vs (l.drop i) acc s = .ok acc' s' true := by
    intro n
    induction n with
    | zero =>
      intro i s acc e hi
      refine ⟨s, acc, ?_, ?_⟩
      · have : i = l.length := by omega
        rw [← this]
        exact hi
      · rw [List.drop_eq_nil_of_le (by omega), compS_nil]
    | succ n ih =>
      intro i s acc e hi
      obtain ⟨s1, a1, h1, h2⟩ := h i (by omega) s acc hi
      obtain ⟨s2, a2, h3, h4⟩ := ih (i + 1) s1 a1 (by omega) h1
      refine ⟨s2, a2, h3, ?_⟩
      rw [List.drop_eq_getElem_cons (show i < l.length by omega), compS_cons, h2]
      exact h4
  exact z l.length 0 s0 acc (by omega) h0
theorem comp_inv_rng {lo : Int} {n : Nat} {t : Mab} {f : Mac} {vs : List Nat} {I : Nat → List Val → MSt → Prop} {acc : List Val} (h0 : I 0 acc s0) (h : ∀ i, i < n → ∀ s acc, I i acc s → ∃ s' acc', I (i + 1) acc' s' ∧ ∀ r, csR T t f vs r acc (T (itV (.int (lo + i))) s) = compS T t f vs r acc' s') :
    ∃ s' acc', I n acc' s' ∧ compS T t f vs (rngD lo n) acc s0 = .ok acc' s' true := by
  have z := comp_inv (l := rngD lo n) (T := T) (t := t) (f := f) (vs := vs) (I := I) h0 fun i lt s acc hs => by
    rw [rngD_get lt]
    exact h i (by rw [rngD_len] at lt; exact lt) s acc hs
  rw [rngD_len] at z
  exact z
end
theorem allZ_zip {f : D → D → Bool} : ∀ {l r : List D}, allZ f l r = (decide (l.length = r.length) && ((l.zip r).all fun p => f p.1 p.2)) := by
  intro l r
  by_cases e : l.length = r.length
  · rw [Bool.eq_iff_iff, allZ_iff, Bool.and_eq_true, decide_eq_true_iff, List.all_eq_true]
    refine and_congr_right fun _ => ⟨fun h p hp => ?_, fun h k x y h1 h2 => ?_⟩
    · obtain ⟨k, hk⟩ := List.getElem?_of_mem hp
      rw [List.getElem?_zip_eq_some] at hk
      exact h k _ _ hk.1 hk.2
    · exact h (x, y) (List.mem_of_getElem? (List.getElem?_zip_eq_some.mpr ⟨h1, h2⟩))
  · unfold allZ
    rw [decide_eq_false e]
    rfl
/-! ### rows for simp: lists -/
section
variable {s : MSt} {a b : Val} {o o1 o2 : Own} {i : Int} {l l2 : List D} {d : D} {ks : List Key} {q : Nat ⊕ Nat} {π : List Nat}
def tupR (a : Val) (x : Option (List D)) (s : MSt) : Res Val := match x with
  | some l => .ok ⟨inO a (.tup l), .tup l⟩ s false
  | none => .bad
@[simp] theorem opTuple_s : opTuple [a] s = tupR a ((der s a.d).bind D.seq?) s := by
  unfold opTuple tupR
  rfl
@[simp] theorem tupR_some : tupR a (some l) s = .ok ⟨inO a (.tup l), .tup l⟩ s false := (rfl)
def listR (a : Val) (x : Option (List D)) (s : MSt) : Res Val := match x with
  | some l => newO (rowO a l) l s
  | none => .bad
theorem opList_r : opList [a] s = listR a ((der s a.d).bind D.seq?) s := by
  rw [opList_s]
  unfold listR
  rfl
@[simp] theorem listR_some : listR a (some l) s = newO (rowO a l) l s := (rfl)
def catR (a b : Val) (l r : List D) (s : MSt) : Res Val := bif decide (l.length < 8000000) && decide (r.length < 8000000) then (bif immL l && immL r then .ok ⟨.al, .lst (l ++ r)⟩ s false else bif nb a && nb b then .ok ⟨.sp, .lst (l ++ r)⟩ s false else .bad) else .bad
theorem opCat_s : opCat [⟨o1, .lst l⟩, ⟨o2, .lst l2⟩] s = catR ⟨o1, .lst l⟩ ⟨o2, .lst l2⟩ l l2 s := (rfl)
/-- two lists behind one another: what is owned is not told -/
theorem cat_ok (h1 : l.length < 8000000) (h2 : l2.length < 8000000) (n1 : o1 ≠ .bo) (n2 : o2 ≠ .bo) : ∃ o, o ≠ .bo ∧ o ≠ .sh ∧ opCat [⟨o1, .lst l⟩, ⟨o2, .lst l2⟩] s = .ok ⟨o, .lst (l ++ l2)⟩ s false := by
  rw [opCat_s]
  unfold catR
  rw [decide_eq_true h1, decide_eq_true h2]
  cases c : (immL l && immL l2) with
  | true => exact ⟨.al, by decide, by decide, rfl⟩
  | false =>
    refine ⟨.sp, by decide, by decide, ?_⟩
    simp [n1, n2]
def popR2 (o : Own) (d : D) (l : List D) (q : Nat ⊕ Nat) (π : List Nat) (x : Option D) (s : MSt) : Res Val := match x with
    | some y => bif decide (o = .al) then .ok ⟨.al, y⟩ (put s q (some ⟨.al, putD d π (.lst l.dropLast)⟩)) true else .ok (itV y) (put s q (some ⟨.sp, .lst l.dropLast⟩)) true
    | none => .bad
def popR (q : Nat ⊕ Nat) (π : List Nat) (x : Option (Own × D × List D)) (s : MSt) : Res Val := match x with
  | some (o, d, l) => popR2 o d l q π l[l.length - 1]? s
  | none => .bad
@[simp] theorem uPop_s : uPop q π [] s = popR q π (nodeL s q π) s := by
  unfold uPop popR popR2
  cases nodeL s q π <;> rfl
@[simp] theorem popR_some : popR q π (some (o, d, l)) s = popR2 o d l q π l[l.length - 1]? s := (rfl)
@[simp] theorem popR2_some {y : D} : popR2 o d l q π (some y) s = bif decide (o = .al) then .ok ⟨.al, y⟩ (put s q (some ⟨.al, putD d π (.lst l.dropLast)⟩)) true else .ok (itV y) (put s q (some ⟨.sp, .lst l.dropLast⟩)) true := (rfl)
noncomputable def insR (q : Nat ⊕ Nat) (π : List Nat) (a : Val) (x : Option (Own × D × List D)) (s : MSt) : Res Val := match x with
  | some (o, d, l) => bif !small l then .bad else bif decide (o = .al) && decide (a.o = .al) then .ok ⟨.al, .non⟩ (put s q (some ⟨.al, putD d π (.lst (a.d :: l))⟩)) true
      else bif decide (π = []) && decide (a.o ≠ .bo) then .ok ⟨.al, .non⟩ (put s q (some ⟨.sp, .lst (a.d :: l)⟩)) true else .bad
  | none => .bad
@[simp] theorem uIns_s : uIns q π [⟨o1, .int 0⟩, a] s = insR q π a (nodeL s q π) s := by
  unfold uIns insR
  cases nodeL s q π <;> rfl
@[simp] theorem insR_some : insR q π a (some (o, d, l)) s = bif !small l then .bad else bif decide (o = .al) && decide (a.o = .al) then .ok ⟨.al, .non⟩ (put s q (some ⟨.al, putD d π (.lst (a.d :: l))⟩)) true
      else bif decide (π = []) && decide (a.o ≠ .bo) then .ok ⟨.al, .non⟩ (put s q (some ⟨.sp, .lst (a.d :: l)⟩)) true else .bad := (rfl)
end
/-! ### values that are nice all through -/
mutual
def nice : D → Bool
  | .non => true | .bl _ => true | .int _ => true
  | .str z => decide (z.length ≤ 1000000)
  | .lst l => niceL l | .fls l => niceL l | .tup l => niceL l
  | .dct _ _ => true
  | .obj _ _ _ => false | .exc _ _ => false | .ref _ => false | .vv _ => false
def niceL : List D → Bool
  | [] => true
  | d :: r => nice d && niceL r
end
theorem niceL_iff : ∀ {l : List D}, niceL l = true ↔ ∀ d ∈ l, nice d = true
  | [] => by simp [niceL]
  | d :: l => by
    rw [niceL, Bool.and_eq_true, niceL_iff (l := l)]
    simp
theorem nice.pl {d : D} (h : nice d = true) : plain d = true := by cases d <;> first | rfl | (unfold nice at h; cases h)
theorem nice.st {d : D} (h : nice d = true) : strOk' d := fun z e => by
  subst e
  unfold nice at h
  exact of_decide_eq_true h
theorem nice.el {d : D} {l : List D} (h : nice d = true) (e : d.seq? = some l) : ∀ x ∈ l, nice x = true := by
  cases d <;> first | (cases e; done) | (cases e; unfold nice at h; exact niceL_iff.mp h)
theorem nice.okT : ∀ {n : Nat} {d : D}, nice d = true → okT n d
  | 0, d, h => ⟨nice.pl h, nice.st h⟩
  | n + 1, d, h => ⟨⟨nice.pl h, nice.st h⟩, fun l e x hx => nice.okT (nice.el h e x hx)⟩
theorem nice.plN : ∀ {n : Nat} {d : D}, nice d = true → plN n d
  | 0, d, h => nice.pl h
  | n + 1, d, h => ⟨nice.pl h, fun l e x hx => nice.plN (nice.el h e x hx)⟩
theorem nice_lst {l : List D} (h : ∀ d ∈ l, nice d = true) : nice (.lst l) = true := by unfold nice; exact niceL_iff.mpr h
theorem nice_tup {l : List D} (h : ∀ d ∈ l, nice d = true) : nice (.tup l) = true := by unfold nice; exact niceL_iff.mpr h
theorem nice_lst_iff {l : List D} : nice (.lst l) = true ↔ ∀ d ∈ l, nice d = true := by rw [nice]; exact niceL_iff
theorem nice_tup_iff {l : List D} : nice (.tup l) = true ↔ ∀ d ∈ l, nice d = true := by rw [nice]; exact niceL_iff
theorem nice_set {l : List D} {i : Nat} {y : D} (h : nice (.lst l) = true) (hy : nice y = true) : nice (.lst (l.set i y)) = true := by
  rw [nice_lst_iff] at h ⊢
  intro d hd
  rcases List.mem_or_eq_of_mem_set hd with z | rfl
  · exact h d z
  · exact hy
theorem nice_iL {l : List Int} : nice (iL l) = true := nice_lst fun d hd => by
  obtain ⟨i, _, rfl⟩ := List.mem_map.mp hd
  rfl
theorem nice_tL {l : List (List Int)} : nice (tL l) = true := nice_lst fun d hd => by
  obtain ⟨i, _, rfl⟩ := List.mem_map.mp hd
  exact nice_iL
theorem nice_uL {l : List (List (List Int))} : nice (uL l) = true := nice_lst fun d hd => by
  obtain ⟨i, _, rfl⟩ := List.mem_map.mp hd
  exact nice_tL
theorem dg_nat {p q m : Int} {x : Bx} (h : 0 < m) : ∃ k : Nat, dg p q x m = k ∧ (k : Int) < m := by
  refine ⟨(dg p q x m).toNat, ?_, ?_⟩
  · have := dg_nn (p := p) (q := q) (x := x) h
    omega
  · have := dg_nn (p := p) (q := q) (x := x) h
    have := dg_lt (p := p) (q := q) (x := x) h
    omega
theorem ixN_nat {n k : Nat} (h : k < n) : ixN n (k : Int) = some k := by rw [ixN_pos (by omega) (by omega), Int.toNat_natCast]
theorem at_nat {α : Type} {l : List α} {k : Nat} {x : α} (h : l[k]? = some x) : atI l (k : Int) = some x := by rw [atI_pos (by omega), Int.toNat_natCast]; exact h
/-! ### odd arguments: they are kept in a cell where they can grow -/
def setKR1 (a : Val) (r : Option ((Nat ⊕ Nat) × List Nat × MSt)) (g : Mac) : Res Fl := match r with
    | some (q, [], s2) => match g s2 with
      | .ok i s3 false => setKR q a (ent s3 q) (keyOf i.d) s3
      | _ => .bad
    | _ => .bad
def setKR0 (r : Res Val) (p : Plc) (g : Mac) : Res Fl := match r with
  | .ok a s1 _ => setKR1 a (p s1) g
  | .err c ns l s' => .err c ns l s'
  | .bad => .bad
def setKR2 (q : Nat ⊕ Nat) (a : Val) (r : Res Val) : Res Fl := match r with
      | .ok i s3 false => setKR q a (ent s3 q) (keyOf i.d) s3
      | _ => .bad
@[simp] theorem mSetK_s {f g : Mac} {p : Plc} {s : MSt} : mSetK f p g s = setKR0 (f s) p g := by
  unfold mSetK setKR0 setKR1
  rfl
@[simp] theorem setKR0_ok {a : Val} {s : MSt} {e : Bool} {p : Plc} {g : Mac} : setKR0 (.ok a s e) p g = setKR1 a (p s) g := (rfl)
@[simp] theorem setKR1_some {a : Val} {q : Nat ⊕ Nat} {s : MSt} {g : Mac} : setKR1 a (some (q, [], s)) g = setKR2 q a (g s) := by
  unfold setKR1 setKR2
  rfl
@[simp] theorem setKR2_ok {q : Nat ⊕ Nat} {a b : Val} {s : MSt} : setKR2 q a (.ok b s false) = setKR q a (ent s q) (keyOf b.d) s := (rfl)
@[simp] theorem setKR_some {q : Nat ⊕ Nat} {a : Val} {o : Own} {ks : List Key} {l : List D} {k : Key} {s : MSt} : setKR q a (some ⟨o, .dct ks l⟩) (some k) s = (bif (decide (o = .al) || decide (o = .sp)) && decide (ks.length < 8000000) && decide (a.o ≠ .bo) then .ok .nx (put s q (some ⟨.sp, .dct (putKs ks k) (putL ks l k a.d)⟩)) true else .bad) := (rfl)
def isLD : D → Bool
  | .lst _ => true | .dct _ _ => true | _ => false
def vO (d : D) (k : Nat) : D := bif isLD d then .ref k else d
def eO (d : D) (k : Nat) : Val := bif isLD d then ⟨.al, .ref k⟩ else ⟨.sh, d⟩
def c0 (d : D) : List Ent := bif isLD d then [some ⟨.al, d⟩] else []
def c1 : D → List Ent
  | .lst l => [some ⟨.al, .lst (l ++ [.str "more"])⟩]
  | .dct _ _ => [some ⟨.sp, .dct [.inr "more"] [.int 1]⟩]
  | _ => []
inductive Odd : D → Prop
  | imm' {d : D} : imm d = true → okS 6 d → isLD d = false → d.isA .list = false → d.isA .dict = false → Odd d
  | lst {l : List D} : okS 6 (.lst l) → l.length ≤ 1000 → Odd (.lst l)
  | dct : Odd (.dct [] [])
theorem Odd.imm {d : D} (h : MM.imm d = true) (q : okS 6 d) (a : d.isA .list = false) (b : d.isA .dict = false) : Odd d := .imm' h q (by cases d <;> first | rfl | (cases a; done) | (cases b; done)) a b
theorem okS.nice : ∀ {n : Nat} {d : D}, okS n d → nice d = true
  | 0, _, h => h.elim
  | n + 1, d, h => by
    cases d <;> first | exact h.elim | rfl | exact decide_eq_true h | exact nice_lst fun x hx => okS.nice (h.2 x hx) | exact nice_tup fun x hx => okS.nice (h.2 x hx)
theorem noxL_all : ∀ {l : List D}, (∀ x ∈ l, MM.nox x = true) → noxL l = true
  | [], _ => rfl
  | d :: l, h => by
    rw [noxL, h d (by simp), noxL_all fun x hx => h x (by simp [hx])]
    rfl
theorem okS.nox : ∀ {n : Nat} {d : D}, okS n d → MM.nox d = true
  | 0, _, h => h.elim
  | n + 1, d, h => by
    cases d <;> first | exact h.elim | rfl | (rw [MM.nox]; exact noxL_all fun x hx => okS.nox (h.2 x hx)) | skip
    obtain ⟨h1, h2⟩ := h
    subst h1 h2
    rfl
section
variable {d : D} {k : Nat} {cs : List Ent}
theorem Odd.ok (h : Odd d) : okS 6 d := by cases h <;> first | assumption | exact ⟨rfl, rfl⟩
theorem Odd.pl (h : Odd d) : plain d = true := h.ok.plain
theorem rdO_eO (h : Odd d) : rdO (eO d k) = .al := by
  cases h with
  | imm' h _ n _ _ => unfold eO; rw [n]; exact rdO_imm h
  | lst _ => rfl
  | dct => rfl
theorem eO_d : (eO d k).d = vO d k := by unfold eO vO; cases isLD d <;> rfl
theorem imm_vO (h : Odd d) : imm (vO d k) = true := by
  cases h with
  | imm' h _ n _ _ => unfold vO; rw [n]; exact h
  | lst _ => rfl
  | dct => rfl
theorem nox_vO (h : Odd d) : nox (vO d k) = true := by
  unfold vO
  cases isLD d with
  | true => rfl
  | false => exact h.ok.nox
/-- put into a cell, or kept as it is -/
theorem ref_odd {env : List Ent} {i : Nat} {e : Bool} (h : Odd d) (hi : i < env.length) : refR i (.ok ⟨.al, d⟩ ⟨env, cs⟩ e) = .ok .nx ⟨env.set i (some (eO d cs.length)), cs ++ c0 d⟩ true := by
  cases h with
  | imm' h _ n _ _ => simp [h, hi, eO, c0, n]
  | lst _ => simp [hi, eO, c0, isLD]
  | dct => simp [hi, eO, c0, isLD]
theorem dr_odd (h : Odd d) : Dr (cs ++ c0 d) (vO d cs.length) d := by
  cases h with
  | imm' h q n na nd => unfold vO; rw [n]; exact Dr.plain q.plain
  | lst _ => exact fun env => by simp [vO, c0, isLD]
  | dct => exact fun env => by simp [vO, c0, isLD]
theorem grown_odd (h : Odd d) : grownM [vO d cs.length] (cs ++ c0 d) = .ok ⟨.al, .non⟩ ⟨[], cs ++ c1 d⟩ true := by
  cases h with
  | imm' h q n na nd =>
    have e0 : c0 d = [] := by unfold c0; rw [n]; rfl
    have e1 : c1 d = [] := by cases d <;> first | rfl | cases n
    have ev : vO d cs.length = d := by unfold vO; rw [n]; rfl
    rw [e0, e1, ev]
    exact ev_grown_no q.plain na nd
  | @lst l q hl =>
    have z := ev_grown_lst (n := cs.length) (cs := cs ++ c0 (.lst l)) (l := l) (by simp [c0, isLD]) (by omega)
    rw [show vO (.lst l) cs.length = .ref cs.length from rfl, z]
    simp [c0, c1, isLD]
  | dct =>
    simp [grownM, fnOf_s, vO, c0, c1, isLD, putKs, putL, kIn]
/-- and then it is the same still -/
theorem same_odd (h : Odd d) : sameM 8 [vO d cs.length, vO d cs.length] ((cs ++ c1 d).map shC) = .ok ⟨.al, .bl true⟩ ⟨[], (cs ++ c1 d).map shC⟩ true := by
  cases h with
  | imm' h q n na nd =>
    have ev : vO d cs.length = d := by unfold vO; rw [n]; rfl
    rw [ev]
    exact ev_same_self (n := 7) (Se.plain q.plain) (Se.plain q.plain) (q.mono (by omega))
  | @lst l q hl =>
    have z : Se ((cs ++ c1 (.lst l)).map shC) (.ref cs.length) (.lst (l ++ [.str "more"])) := Se.cell (a := ⟨.al, .lst (l ++ [.str "more"])⟩) (by simp [c1]) rfl
    refine ev_same_self (n := 7) z z ?_
    have q2 : okS 8 (.lst l) := q.mono (by omega)
    refine ⟨by simp; omega, fun x hx => ?_⟩
    rcases List.mem_append.mp hx with hx | hx
    · exact q2.2 x hx
    · obtain rfl := List.mem_singleton.mp hx
      show Str.length _ ≤ _
      decide +kernel
  | dct =>
    have z : Se ((cs ++ c1 (.dct [] [])).map shC) (.ref cs.length) (.dct [.inr "more"] [.int 1]) := Se.cell (a := ⟨.sp, .dct [.inr "more"] [.int 1]⟩) (by simp [c1]) rfl
    refine same_dct_eq (n := 7) z z rfl (by simp) fun x hx cs' => ?_
    obtain rfl := List.mem_singleton.mp hx
    exact ev_same_self (n := 6) (Se.plain rfl) (Se.plain rfl) trivial
theorem entsOk_app {l r : List Ent} : entsOk (l ++ r) = (entsOk l && entsOk r) := by unfold entsOk; rw [List.all_append]
theorem entsOk_c0 : entsOk (c0 d) = true := by unfold c0; cases isLD d <;> rfl
theorem entsOk_c1 (h : Odd d) : entsOk (c1 d) = true := by
  cases h with
  | imm' _ _ n _ _ => cases d <;> first | rfl | cases n
  | lst _ => rfl
  | dct => rfl
theorem entsOk_set {l : List Ent} {n : Nat} {a : Val} (h : entsOk l = true) (ha : outOk a = true) : entsOk (l.set n (some a)) = true := by
  unfold entsOk at h ⊢
  rw [List.all_eq_true] at h ⊢
  intro x hx
  rcases List.mem_or_eq_of_mem_set hx with z | rfl
  · exact h x z
  · exact ha
theorem set_app {α : Type} {l r : List α} {n : Nat} {a : α} (h : n < l.length) : l.set n a ++ r = (l ++ r).set n a := (List.set_append_left _ _ h).symm
end
section
variable {T : Tgt} {wip : List Nat} {F : Mas} {l : List D} {s0 : MSt} {r : Res Fl}
theorem for_rng' {lo : Int} {n : Nat} (hr : forS T wip F (rngD lo n) s0 = r) (I : Nat → MSt → Prop) (h0 : I 0 s0) (h : ∀ i, i < n → ∀ s, I i s → ∃ s', I (i + 1) s' ∧ ∀ r, fsR T wip F r (T (itV (.int (lo + i))) s) = forS T wip F r s') : ∃ s', I n s' ∧ r = .ok .nx s' true := by
  obtain ⟨s', h1, h2⟩ := for_inv_rng h0 h
  exact ⟨s', h1, hr.symm.trans h2⟩
theorem for_row' (hr : forS T wip F l s0 = r) (I : Nat → MSt → Prop) (h0 : I 0 s0) (h : ∀ i (lt : i < l.length) s, I i s → ∃ s', I (i + 1) s' ∧ ∀ r, fsR T wip F r (T (itV l[i]) s) = forS T wip F r s') : ∃ s', I l.length s' ∧ r = .ok .nx s' true := by
  obtain ⟨s', h1, h2⟩ := for_inv h0 h
  exact ⟨s', h1, hr.symm.trans h2⟩
theorem comp_rng' {lo : Int} {n : Nat} {t : Mab} {f : Mac} {vs : List Nat} {acc : List Val} {r : Res (List Val)} (hr : compS T t f vs (rngD lo n) acc s0 = r) (I : Nat → List Val → MSt → Prop) (h0 : I 0 acc s0)
    (h : ∀ i, i < n → ∀ s acc, I i acc s → ∃ s' acc', I (i + 1) acc' s' ∧ ∀ r, csR T t f vs r acc (T (itV (.int (lo + i))) s) = compS T t f vs r acc' s') : ∃ s' acc', I n acc' s' ∧ r = .ok acc' s' true := by
  obtain ⟨s', a', h1, h2⟩ := comp_inv_rng h0 h
  exact ⟨s', a', h1, hr.symm.trans h2⟩
theorem comp_row' {t : Mab} {f : Mac} {vs : List Nat} {acc : List Val} {r : Res (List Val)} (hr : compS T t f vs l acc s0 = r) (I : Nat → List Val → MSt → Prop) (h0 : I 0 acc s0)
    (h : ∀ i (lt : i < l.length) s acc, I i acc s → ∃ s' acc', I (i + 1) acc' s' ∧ ∀ r, csR T t f vs r acc (T (itV l[i]) s) = compS T t f vs r acc' s') : ∃ s' acc', I l.length acc' s' ∧ r = .ok acc' s' true := by
  obtain ⟨s', a', h1, h2⟩ := comp_inv h0 h
  exact ⟨s', a', h1, hr.symm.trans h2⟩
end
theorem outOk_bx {x : Bx} : outOk ⟨.al, x.d⟩ = true := by unfold outOk; rfl
theorem entsOk_bx {l : List Ent} {n : Nat} {x : Bx} (h : entsOk l = true) : entsOk (l.set n x.e) = true := entsOk_set h outOk_bx
section
variable {T : Tgt} {wip : List Nat} {F : Mas} {l : List D} {s0 : MSt} {r : Res Fl}
theorem fs_step {d : D} {s s1 s2 : MSt} {e : Bool} {r : List D} (h1 : T (itV d) s = some s1) (h2 : F s1 = .ok .nx s2 e) : fsR T wip F r (T (itV d) s) = forS T wip F r (wipes wip s2) := by
  rw [h1, fsR_some, h2, fsR2_nx]
/-- a loop by its invariant; each turn: the target, the body, what is left -/
theorem for_rngF {lo : Int} {n : Nat} (hr : forS T wip F (rngD lo n) s0 = r) (I : Nat → MSt → Prop) (h0 : I 0 s0) (h : ∀ i, i < n → ∀ s, I i s → ∃ s1 s2 e, T (itV (.int (lo + i))) s = some s1 ∧ F s1 = .ok .nx s2 e ∧ I (i + 1) (wipes wip s2)) : ∃ s', I n s' ∧ r = .ok .nx s' true :=
  for_rng' hr I h0 fun i hi s hs => by
    obtain ⟨s1, s2, e, h1, h2, h3⟩ := h i hi s hs
    exact ⟨_, h3, fun r => fs_step h1 h2⟩
theorem for_rowF (hr : forS T wip F l s0 = r) (I : Nat → MSt → Prop) (h0 : I 0 s0) (h : ∀ i (lt : i < l.length) s, I i s → ∃ s1 s2 e, T (itV l[i]) s = some s1 ∧ F s1 = .ok .nx s2 e ∧ I (i + 1) (wipes wip s2)) : ∃ s', I l.length s' ∧ r = .ok .nx s' true :=
  for_row' hr I h0 fun i hi s hs => by
    obtain ⟨s1, s2, e, h1, h2, h3⟩ := h i hi s hs
    exact ⟨_, h3, fun r => fs_step h1 h2⟩
end
theorem rep_imm {l : List D} {c : Nat} {s : MSt} (h : l.length * c ≤ 16000000) (hc : c < 1000000) (hi : immL l = true) : opRep [⟨.al, .lst l⟩, ⟨.al, .int (c : Int)⟩] s = .ok ⟨.al, .lst (List.replicate c l).flatten⟩ s false := by
  have c1 : (decide (-(2 ^ 63) ≤ (c : Int)) && decide ((c : Int) < 2 ^ 63) && decide (l.length * (c : Int).toNat ≤ 16000000)) = true := by
    simp
    omega
  have z : ∀ c : Nat, immL (List.replicate c l).flatten = true := fun c => by
    induction c with
    | zero => rfl
    | succ c ih => rw [List.replicate_succ, List.flatten_cons]; exact immL_app hi ih
  rw [opRep_s, c1, Int.toNat_natCast, rowO_imm (z c)]
  rfl
theorem fnOf_nb {z : Nat} {F : Mas} {ds : List D} {cs : List Ent} {a : Val} {s : MSt} {e : Bool} (h : fnOf z F ds cs = .ok a s e) : a.o ≠ .bo := by
  rw [fnOf_s] at h
  revert h
  cases F ⟨ds.map (fun d => some ⟨.sh, d⟩) ++ List.replicate z none, cs⟩ with
  | ok fl s2 e2 =>
    cases fl with
    | rt b =>
      rw [fnR_rt]
      intro h hb
      by_cases c : b.o = .bo
      · rw [decide_eq_true c] at h
        cases h
      · rw [decide_eq_false c] at h
        cases h
        exact c hb
    | nx =>
      intro h hb
      rw [fnR_nx] at h
      cases h
      cases hb
    | _ => intro h; cases h
  | err _ _ _ _ => intro h; cases h
  | bad => intro h; cases h
@[simp] theorem imm_bx {x : Bx} : imm x.d = false := (rfl)
@[simp] theorem root_bx {x : Bx} : isRoot x.d = true := (rfl)
theorem e_bx {x : Bx} : some (⟨.al, x.d⟩ : Val) = x.e := (rfl)
/-- a box is a new cell -/
theorem box_new {cs : List Ent} {x : Bx} : cs ++ [some (⟨.al, x.d⟩ : Val)] = (cs ++ [none]).set cs.length x.e := by
  rw [List.set_append_right _ _ (Nat.le_refl _), Nat.sub_self]
  rfl
theorem refR_bx {env cells : List Ent} {i : Nat} {x : Bx} {e : Bool} (hi : i < env.length) : refR i (.ok ⟨.al, x.d⟩ ⟨env, cells⟩ e) = .ok .nx ⟨env.set i (some ⟨.al, .ref cells.length⟩), (cells ++ [none]).set cells.length x.e⟩ true := by
  rw [← box_new]
  simp [hi]
end MM

set_option maxHeartbeats 2000000
namespace N
open MM GB L2 PySem
noncomputable abbrev bodyTO : Mas := (mSeq (mSet false 5 (mComp (itRng1 (aCons (eVar 2) aNil)) (tgName true 7) mYes (e2 (eN (aCons (eC (.int 0)) aNil) opLst) (e2 (eVar 2) (eVar 7) (opII (gI (· - ·)))) opRep) [7]))
      (mSeq (mFor (itRng2 (aCons (eC (.int 2)) (aCons (e2 (eVar 2) (eC (.int 1)) (opII (gI (· + ·)))) aNil))) (tgName true 6) [6, 8] bodyTS)
      (mExpr (eMut (plVar 3) (aCons (eMv 5) aNil) uApp))))
theorem rep_zero {n : Nat} (h : n ≤ 1000) {s : MSt} : opRep [⟨.al, .lst [.int 0]⟩, ⟨.al, .int (n : Int)⟩] s = .ok ⟨.al, iL (List.replicate n 0)⟩ s false := by
  have fl : (List.replicate n [D.int 0]).flatten = (List.replicate n (0 : Int)).map D.int := by
    induction n with
    | zero => rfl
    | succ n ih => rw [List.replicate_succ, List.flatten_cons, ih (by omega)]; rfl
  rw [opRep_s]
  have c1 : (decide (-(2 ^ 63) ≤ (n : Int)) && decide ((n : Int) < 2 ^ 63) && decide (([D.int 0] : List D).length * (n : Int).toNat ≤ 16000000)) = true := by
    simp
    omega
  rw [c1, Int.toNat_natCast, fl, rowO_imm immL_int]
  rfl
def lst7 (cl : List Int) : Nat → Option Val
  | 0 => none
  | _ + 1 => last7 cl none (cl.length - 1)
theorem rowsAt_one {cl : List Int} {s : Nat} : (List.range cl.length).map (fun f => iL (List.replicate (cl.length - f) 0)) = (rowsAt cl s 1 0).map iL := by
  unfold rowsAt
  rw [List.map_map]
  apply List.map_congr_left
  intro f _
  simp [MT.rowAt_zero]
theorem rowsAt_full {cl : List Int} {s : Nat} : rowsAt cl s cl.length 0 = MT.tabRows cl s := by
  unfold rowsAt MT.tabRows
  apply List.map_congr_left
  intro f _
  rw [if_neg (by omega), MT.rowAt_full (by omega)]
theorem tab_snoc {cl : List Int} {s : Nat} : MT.tab cl (s + 1) = MT.tab cl s ++ [MT.tabRows cl s] := by
  unfold MT.tab
  rw [List.range_succ, List.map_append]
  rfl
theorem ev_TO {cl : List Int} {c : Int} {s : Nat} {cs : List Ent} {r : List D} (g : Good cl) (hs : s < 1000) :
    fsR (tgName true 4) [4, 5, 6, 8] bodyTO r (tgName true 4 (itV (.int (0 + (s : Int)))) ⟨envT cl c (MT.tab cl s) none none none (lst7 cl s) none, cs⟩) =
    forS (tgName true 4) [4, 5, 6, 8] bodyTO r ⟨envT cl c (MT.tab cl (s + 1)) none none none (lst7 cl (s + 1)) none, cs⟩ := by
  have g1 := g.l1
  have g2 := g.l2
  have f1 : fits (cl.length : Int) = true := fits_of (by omega) (by omega)
  have f2 : fits ((cl.length : Int) + 1) = true := fits_of (by omega) (by omega)
  have f3 : fits 2 = true := by decide
  have l7 : cl.length ≤ 10000000 := by omega
  have e0 : ((cl.length : Int) + 1 - 2).toNat = cl.length - 1 := by omega
  have sm : small ((MT.tab cl s).map tL) = true := small_of (by unfold MT.tab; simp; omega)
  simp [envT, f1, rngD_len, l7]
  rw [comp_rng (g := fun f => ⟨.al, iL (List.replicate (cl.length - f) 0)⟩) ?_]
  rotate_left
  · intro f hf l acc
    have z := rep_zero (n := cl.length - f) (by omega) (s := ⟨[some ⟨.sh, iL cl⟩, some ⟨.sh, .int c⟩, some ⟨.sh, .int cl.length⟩, some ⟨.al, uL (MT.tab cl s)⟩, some ⟨.sh, .int s⟩, none, none, some ⟨.sh, .int f⟩, none, none, none], cs⟩)
    rw [show ((cl.length - f : Nat) : Int) = (cl.length : Int) - f by omega] at z
    simp [z]
  have r1 := rowsAt_one (cl := cl) (s := s)
  simp [allAl_map, dsOf_map, r1, f2, f3, e0]
  rw [for_rng (g := fun i => ⟨envT cl c (MT.tab cl s) (some ⟨.sh, .int (s : Int)⟩) (some ⟨.al, tL (rowsAt cl s (i + 1) 0)⟩) none (last7 cl none i) none, cs⟩) ?_ ?_]
  · have e1 : cl.length - 1 + 1 = cl.length := by omega
    simp [envT, e1, rowsAt_full, sm, tab_snoc, lst7, uL]
  · simp [envT, last7]
  · intro i hi r
    exact ev_TS g (by omega)
/-- the law's own table is the same -/
theorem ev_law_table {cl : List Int} {c : Nat} {cs : List Ent} (g : Good cl) (h1 : 1 ≤ c) (h2 : c ≤ 40) : F__law_table [iL cl, .int c] cs = .ok ⟨.al, uL (MT.tab cl c)⟩ ⟨[], cs⟩ true := by
  have f1 : fits (c : Int) = true := fits_of (by omega) (by omega)
  simp [F__law_table, fnOf_s, f1]
  rw [for_rng (g := fun s => ⟨envT cl c (MT.tab cl s) none none none (lst7 cl s) none, cs⟩) ?_ ?_]
  · simp [envT, uL]
  · simp [envT, lst7, MT.tab]
  · intro s hs r
    exact ev_TO g (by omega)
end N

set_option maxHeartbeats 2000000
namespace N
open MM GB L2 PySem
theorem same_eq : ∀ n, R__law_same n = sameM n
  | 0 => rfl
  | n + 1 => by
    unfold R__law_same sameM
    rw [same_eq n]
theorem same8 : F__law_same = sameM 8 := same_eq 8
theorem take_eq : F__law_take = takeM 15490139 179426587 := rfl
theorem cell_eq : F__law_cell = cellM 9007 := rfl
theorem box_eq : F__law_box = boxM := rfl
theorem grown_eq : F__law_grown = grownM := rfl
theorem zip_all {f : D → D → Bool} {l r : List D} : ((zipD l r).map (pairQ f)).all id = (l.zip r).all fun p => f p.1 p.2 := by
  unfold zipD
  rw [List.map_map, List.all_map]
  rfl
theorem same_eqI {n : Nat} {x : D} {j : Int} : sameB (n + 1) x (.int j) = eqI x (.int j) := by cases x <;> rfl
theorem same_num {n : Nat} {l : List D} {r : List Int} : sameB (n + 2) (.lst l) (iL r) = (decide (l.length = r.length) && ((zipD l (r.map .int)).map (pairQ eqI)).all id) := by
  show allZ (sameB (n + 1)) l (r.map .int) = _
  rw [allZ_zip, zip_all, List.length_map]
  congr 1
  rw [Bool.eq_iff_iff, List.all_eq_true, List.all_eq_true]
  refine forall_congr' fun p => forall_congr' fun hp => ?_
  obtain ⟨x, y⟩ := p
  obtain ⟨j, _, rfl⟩ := List.mem_map.mp (List.of_mem_zip hp).2
  rw [same_eqI]
def rowQ (row right : D) : Bool := match row.seq? with
  | some l => sameB 8 (.lst l) right
  | none => false
theorem rowQ_num {row : D} {r : List Int} : rowQ row (iL r) = numG row (iL r) := by
  unfold rowQ numG allG
  cases row.seq? with
  | none => rfl
  | some l =>
    show sameB 8 (.lst l) (iL r) = (decide (l.length = (r.map D.int).length) && _)
    rw [same_num (n := 6), List.length_map]
/-- any value up to depth 3 with texts that are not too long -/
structure Any3 (v : D) : Prop where
  p : plN 3 v
  o : okT 3 v
  l : ∀ l, v.seq? = some l → l.length ≤ 1000000
def inner (row right : D) : Bool := rowQ row right
noncomputable abbrev bodyI2 : Mas := (mIf (tOrM (tNotM (tTru (e1 (eVar 4) (opIsiQ .list .tuple)))) (tNotM (tTru (callM .v F__law_same (aCons (eN (aCons (eVar 4) aNil) opList) (aCons (eVar 5) aNil))))))
      (mRet (eC (.bl false)))
      mNext)
theorem okT_up : ∀ {n : Nat} {l : List D}, (∀ x ∈ l, okT n x) → okT (n + 1) (.lst l) := fun h => ⟨⟨rfl, fun z e => nomatch e⟩, fun l' e x hx => by cases e; exact h x hx⟩
theorem okT_mono' {n : Nat} : ∀ {m : Nat} {d : D}, okT n d → m ≤ n → okT m d := by
  induction n with
  | zero =>
    intro m d h l
    obtain rfl : m = 0 := by omega
    exact h
  | succ n ih =>
    intro m d h l
    cases m with
    | zero => exact h.1
    | succ m => exact ⟨h.1, fun l' e x hx => ih (h.2 l' e x hx) (by omega)⟩
theorem opList_it {row : D} {l : List D} {s : MSt} (h : row.seq? = some l) : ∃ o, opList [⟨(itV row).o, row⟩] s = .ok ⟨o, .lst l⟩ s false := by
  have e : opList [⟨(itV row).o, row⟩] s = newO (rowO ⟨(itV row).o, row⟩ l) l s := by
    rw [opList_s]
    cases row <;> first | (cases h; done) | (cases h; rfl)
  rw [e]
  cases c : immL l with
  | true => exact ⟨.al, by rw [rowO_imm c]; rfl⟩
  | false =>
    refine ⟨.sp, ?_⟩
    rw [rowO_nb c ?_]
    · rfl
    · cases row <;> first | (cases h; done) | (rw [itV_s]; cases h; simp [c])
theorem inner_ev {a b c d : Option Val} {row : D} {right : List Int} {cs : List Ent} (hr : okT 8 row) (lr : right.length ≤ 1000) :
    (rowQ row (iL right) = true → bodyI2 ⟨[a, b, c, d, some ⟨.sh, row⟩, some ⟨.sh, iL right⟩], cs⟩ = .ok .nx ⟨[a, b, c, d, some ⟨.sh, row⟩, some ⟨.sh, iL right⟩], cs⟩ true) ∧
    (rowQ row (iL right) = false → Rt ⟨.al, .bl false⟩ cs (bodyI2 ⟨[a, b, c, d, some ⟨.sh, row⟩, some ⟨.sh, iL right⟩], cs⟩)) := by
  have dv : ∀ env, der ⟨env, cs⟩ row = some row := Dr.plain hr.p
  have h3 := isA_seq (d := row)
  cases q : row.seq? with
  | none =>
    rw [q] at h3
    simp [dv, isiR_some hr.p, h3, rowQ, q]
  | some l =>
    rw [q] at h3
    obtain ⟨o, ho⟩ := opList_it (s := ⟨[a, b, c, d, some ⟨.sh, row⟩, some ⟨.sh, iL right⟩], cs⟩) q
    have ol : okT 7 (.lst l) := okT_up fun x hx => okT_mono' (hr.el q x hx) (by omega)
    have ok : okS 8 (iL right) := okS_ints (n := 6) (by omega)
    have z := ev_same (n := 7) (cs := cs.map shC) (Se.plain (v := .lst l) rfl) (Se.plain (v := iL right) rfl) ol ok
    rw [← same8] at z
    cases e : sameB 8 (.lst l) (iL right) <;> rw [e] at z <;> simp [dv, isiR_some hr.p, h3, rowQ, q, ho, z, e]
noncomputable abbrev bodyI1 : Mas := (mSeq (mIf (tOrM (tNotM (tTru (e1 (eVar 2) (opIsiQ .list .tuple)))) (tBl (e2 (eN (aCons (eVar 2) aNil) opLen) (eN (aCons (eVar 3) aNil) opLen) opNeS)))
      (mRet (eC (.bl false)))
      mNext)
      (mFor (itZip (aCons (eVar 2) (aCons (eVar 3) aNil))) (tgTup (tgCons (tgName true 4) (tgCons (tgName true 5) tgNil))) [4, 5]
      bodyI2))
theorem seq_row {d : D} {l : List D} (h : d.seq? = some l) : rowOf ⟨(itV d).o, d⟩ = some l := by
  rw [rowOf_s]
  simp [h]
theorem zip_congr {f g : D → D → Bool} {l r : List D} (h : ∀ x, ∀ y ∈ r, f x y = g x y) : ((zipD l r).map (pairQ f)).all id = (zipD l r).all (pairQ g) := by
  rw [List.all_map, Bool.eq_iff_iff, List.all_eq_true, List.all_eq_true]
  refine forall_congr' fun p => forall_congr' fun hp => ?_
  obtain ⟨x, y, rfl, _, hy⟩ := mem_zipD hp
  show f x y = true ↔ g x y = true
  rw [h x y hy]
theorem middle_ev {a b : Option Val} {one : D} {other : List (List Int)} {cs : List Ent} (hr : okT 9 one) (lr : other.length ≤ 1000) (le : ∀ r ∈ other, r.length ≤ 1000) :
    (rowG one (tL other) = true → bodyI1 ⟨[a, b, some ⟨.sh, one⟩, some ⟨.sh, tL other⟩, none, none], cs⟩ = .ok .nx ⟨[a, b, some ⟨.sh, one⟩, some ⟨.sh, tL other⟩, none, none], cs⟩ true) ∧
    (rowG one (tL other) = false → Rt ⟨.al, .bl false⟩ cs (bodyI1 ⟨[a, b, some ⟨.sh, one⟩, some ⟨.sh, tL other⟩, none, none], cs⟩)) := by
  have dv : ∀ env, der ⟨env, cs⟩ one = some one := Dr.plain hr.p
  have h3 := isA_seq (d := one)
  cases q : one.seq? with
  | none =>
    rw [q] at h3
    simp [dv, isiR_some hr.p, h3, rowG, allG, q]
  | some l =>
    rw [q] at h3
    have h5 := lenD_seq q
    by_cases c : l.length = other.length
    · have z := for_chk (T := tgTup (tgCons (tgName true 4) (tgCons (tgName true 5) tgNil))) (wip := [4, 5]) (F := bodyI2) (l := zipD l (other.map iL)) (s0 := ⟨[a, b, some ⟨.sh, one⟩, some ⟨.sh, tL other⟩, none, none], cs⟩) (x := ⟨.al, .bl false⟩) (q := pairQ rowQ) (c := cs) (fun d hd => by
        obtain ⟨x, y, rfl, hx, hy⟩ := mem_zipD hd
        obtain ⟨j, hj, rfl⟩ := List.mem_map.mp hy
        have z := inner_ev (a := a) (b := b) (c := some ⟨.sh, one⟩) (d := some ⟨.sh, tL other⟩) (right := j) (cs := cs) (hr.el q x hx) (le j hj)
        generalize bodyI2 = F at z
        refine ⟨fun h r => ?_, fun h r => ?_⟩
        · have z := z.1 h
          simp [z]
        · have z := (z.2 h).fs (T := tgTup (tgCons (tgName true 4) (tgCons (tgName true 5) tgNil))) (wip := [4, 5]) (F := F) (l := r)
          simpa using z)
      have eg : rowG one (tL other) = (zipD l (other.map iL)).all (pairQ rowQ) := by
        unfold rowG allG
        rw [q]
        show (decide (l.length = (other.map iL).length) && _) = _
        rw [List.length_map, decide_eq_true c, Bool.true_and]
        refine zip_congr fun x y hy => ?_
        obtain ⟨j, _, rfl⟩ := List.mem_map.mp hy
        exact rowQ_num.symm
      rw [eg]
      have ro := seq_row q
      rcases z with ⟨z1, z2⟩ | ⟨z1, z2⟩
      · simp [z1, dv, isiR_some hr.p, h3, h5, c, q, z2]
      · obtain ⟨env, e, z2⟩ := z2
        simp [z1, dv, isiR_some hr.p, h3, h5, c, q, z2]
    · simp [dv, isiR_some hr.p, h3, h5, c, Int.ofNat_inj, rowG, allG, q]
theorem ev_is_table {v : D} {t : List (List (List Int))} {cs : List Ent} (hv : okT 10 v) (l1 : t.length ≤ 1000) (l2 : ∀ r ∈ t, r.length ≤ 1000) (l3 : ∀ r ∈ t, ∀ x ∈ r, x.length ≤ 1000) :
    F__law_is_table [uL t, v] cs = .ok ⟨.al, .bl (tabG v (uL t))⟩ ⟨[], cs⟩ true := by
  have dv : ∀ env, der ⟨env, cs⟩ v = some v := Dr.plain hv.p
  have h3 := isA_seq (d := v)
  cases q : v.seq? with
  | none =>
    rw [q] at h3
    simp [F__law_is_table, fnOf_s, dv, isiR_some hv.p, h3, tabG, allG, q]
  | some l =>
    rw [q] at h3
    have h5 := lenD_seq q
    by_cases c : l.length = t.length
    · have z := for_chk (T := tgTup (tgCons (tgName true 2) (tgCons (tgName true 3) tgNil))) (wip := [2, 3, 4, 5]) (F := bodyI1) (l := zipD l (t.map tL)) (s0 := ⟨[some ⟨.sh, uL t⟩, some ⟨.sh, v⟩, none, none, none, none], cs⟩) (x := ⟨.al, .bl false⟩) (q := pairQ rowG) (c := cs) (fun d hd => by
        obtain ⟨x, y, rfl, hx, hy⟩ := mem_zipD hd
        obtain ⟨j, hj, rfl⟩ := List.mem_map.mp hy
        have z := middle_ev (a := some ⟨.sh, uL t⟩) (b := some ⟨.sh, v⟩) (other := j) (cs := cs) (hv.el q x hx) (l2 j hj) (l3 j hj)
        generalize bodyI1 = F at z
        refine ⟨fun h r => ?_, fun h r => ?_⟩
        · have z := z.1 h
          simp [z]
        · have z := (z.2 h).fs (T := tgTup (tgCons (tgName true 2) (tgCons (tgName true 3) tgNil))) (wip := [2, 3, 4, 5]) (F := F) (l := r)
          simpa using z)
      have eg : tabG v (uL t) = (zipD l (t.map tL)).all (pairQ rowG) := by
        unfold tabG allG
        rw [q]
        show (decide (l.length = (t.map tL).length) && _) = _
        rw [List.length_map, decide_eq_true c, Bool.true_and]
        exact zip_congr fun x y hy => rfl
      rw [eg]
      have ro := seq_row q
      rcases z with ⟨z1, z2⟩ | ⟨z1, z2⟩
      · simp [F__law_is_table, fnOf_s, z1, dv, isiR_some hv.p, h3, h5, c, q, z2]
      · obtain ⟨env, e, z2⟩ := z2
        simp [F__law_is_table, fnOf_s, z1, dv, isiR_some hv.p, h3, h5, c, q, z2]
    · simp [F__law_is_table, fnOf_s, dv, isiR_some hv.p, h3, h5, c, Int.ofNat_inj, tabG, allG, q]
end N

set_option maxHeartbeats 2000000
namespace N
open MM GB L2 PySem
abbrev C1 : Int := 15490139
abbrev C2 : Int := 179426587
def tup1 : D → D
  | .lst w => .tup w
  | d => d
def tup2 : D → D
  | .lst l => .tup (l.map tup1)
  | d => d
@[simp] theorem tup1_lst {w : List D} : tup1 (.lst w) = .tup w := (rfl)
@[simp] theorem tup2_lst {w : List D} : tup2 (.lst w) = .tup (w.map tup1) := (rfl)
theorem imm_tup1 {r : List (List Int)} : immL ((r.map iL).map tup1) = true := immL_all fun d hd => by
  obtain ⟨x, hx, rfl⟩ := List.mem_map.mp hd
  obtain ⟨w, _, rfl⟩ := List.mem_map.mp hx
  simp
theorem imm_tup2 {t : List (List (List Int))} : immL ((t.map tL).map tup2) = true := immL_all fun d hd => by
  obtain ⟨x, hx, rfl⟩ := List.mem_map.mp hd
  obtain ⟨w, _, rfl⟩ := List.mem_map.mp hx
  rw [tup2_lst, imm_tup]
  exact imm_tup1
theorem sl_any {l : List D} {lo hi : Option Int} {s : MSt} : ∃ o, o ≠ .bo ∧ opSl lo hi ⟨.sh, .lst l⟩ s = .ok ⟨o, .lst (cutD l lo hi)⟩ s false := by
  cases c : immL (cutD l lo hi) with
  | true => exact ⟨.al, by decide, by unfold opSl; simp [rowO_imm c]⟩
  | false => exact ⟨.sp, by decide, by unfold opSl; simp [rowO_nb c]⟩
theorem rep_any {l : List D} {c : Nat} {s : MSt} (h : l.length * c ≤ 16000000) (hc : c < 1000000) : ∃ o, o ≠ .bo ∧ opRep [⟨.al, .lst l⟩, ⟨.al, .int (c : Int)⟩] s = .ok ⟨o, .lst (List.replicate c l).flatten⟩ s false := by
  have c1 : (decide (-(2 ^ 63) ≤ (c : Int)) && decide ((c : Int) < 2 ^ 63) && decide (l.length * (c : Int).toNat ≤ 16000000)) = true := by
    simp
    omega
  rw [opRep_s, c1, Int.toNat_natCast]
  cases c2 : immL (List.replicate c l).flatten with
  | true => exact ⟨.al, by decide, by rw [rowO_imm c2]; rfl⟩
  | false => exact ⟨.sp, by decide, by rw [rowO_nb c2 (by simp)]; rfl⟩
theorem mem_cutD {l : List D} {lo hi : Option Int} {d : D} (h : d ∈ cutD l lo hi) : d ∈ l := List.mem_of_mem_drop (List.mem_of_mem_take h)
theorem ev_values {n : Nat} {cs : List Ent} {x : Bx} {t : List (List (List Int))} {j : Int} {c m : Nat} (hn : n < cs.length) (ok : x.Ok (j + 10)) (j0 : 0 ≤ j) (lt : t.length = c) (c1 : 1 ≤ c) (c2 : c ≤ 40) (m1 : 1 ≤ m) (m2 : m ≤ 60)
    (hr : ∀ r ∈ t, r.length = m) (hw : ∀ r ∈ t, ∀ f, f < m → ∃ w, r[f]? = some w ∧ w.length = m - f) :
    ∃ (o : Own) (vs : List D) (x' : Bx), F__law_values [.ref n, uL t] (cs.set n x.e) = .ok ⟨o, .lst vs⟩ ⟨[], cs.set n x'.e⟩ true ∧ x'.Ok j ∧ (∀ v ∈ vs, nice v = true) ∧ vs.length ≤ 1000 ∧ o ≠ .bo ∧ o ≠ .sh := by
  have p0 : (0 : Int) ≤ 15490139 := by omega
  have p1 : (15490139 : Int) < 2 ^ 30 := by omega
  have q0 : (0 : Int) ≤ 179426587 := by omega
  have q1 : (179426587 : Int) < 2 ^ 30 := by omega
  have tk : ∀ (x : Bx) (m : Int), x.Ok 1 → 0 < m → m < 1073741824 → takeM 15490139 179426587 [.ref n, .int m] (cs.set n x.e) = .ok ⟨.al, .int (dg C1 C2 x m)⟩ ⟨[], cs.set n (nx x m).e⟩ true := fun x m ox h1 h2 => ev_take hn ox h1 h2 p0 p1 q0 q1
  -- the draws
  have T1 := tk x c (ok.less (by omega)) (by omega) (by omega)
  have o1 : (nx x c).Ok (j + 9) := nx_ok (by omega) (by have := ok; exact this.less (by omega))
  obtain ⟨S, hS, lS⟩ := dg_nat (p := C1) (q := C2) (x := x) (m := c) (by omega)
  have T2 := tk (nx x c) m (o1.less (by omega)) (by omega) (by omega)
  have o2 : (nx (nx x c) m).Ok (j + 8) := nx_ok (by omega) (o1.less (by omega))
  obtain ⟨Fi, hF, lF⟩ := dg_nat (p := C1) (q := C2) (x := nx x c) (m := m) (by omega)
  obtain ⟨r, hrS⟩ : ∃ r, t[S]? = some r := ⟨t[S]'(by omega), List.getElem?_eq_getElem (by omega)⟩
  obtain ⟨r0, hr0⟩ : ∃ r, t[0]? = some r := ⟨t[0]'(by omega), List.getElem?_eq_getElem (by omega)⟩
  have lr0 := hr r0 (List.mem_of_getElem? hr0)
  have lr := hr r (List.mem_of_getElem? hrS)
  obtain ⟨w, hw1, hw2⟩ := hw r (List.mem_of_getElem? hrS) Fi (by omega)
  have lw : 0 < ((w.length : Nat) : Int) := by omega
  generalize hx2 : nx (nx x c) m = x2 at T2 o2
  have T3 := tk x2 w.length (o2.less (by omega)) lw (by omega)
  have o3 : (nx x2 w.length).Ok (j + 7) := nx_ok lw (o2.less (by omega))
  obtain ⟨Z, hZ, lZ⟩ := dg_nat (p := C1) (q := C2) (x := x2) (m := w.length) lw
  generalize hx3 : nx x2 w.length = x3 at T3 o3
  obtain ⟨v, hv⟩ : ∃ v, w[Z]? = some v := ⟨w[Z]'(by omega), List.getElem?_eq_getElem (by omega)⟩
  have T4 := tk x3 2 (o3.less (by omega)) (by omega) (by omega)
  have o4 : (nx x3 2).Ok (j + 6) := nx_ok (by omega) (o3.less (by omega))
  generalize hx4 : nx x3 2 = x4 at T4 o4
  have T5 := tk x4 4 (o4.less (by omega)) (by omega) (by omega)
  have o5 : (nx x4 4).Ok (j + 5) := nx_ok (by omega) (o4.less (by omega))
  obtain ⟨Y, hY, lY⟩ := dg_nat (p := C1) (q := C2) (x := x4) (m := 4) (by omega)
  generalize hx5 : nx x4 4 = x5 at T5 o5
  rw [hS] at T1
  rw [hF] at T2
  rw [hZ] at T3
  rw [hY] at T5
  -- the reads
  have a1 : atI (t.map tL) (S : Int) = some (tL r) := at_nat (getL hrS)
  have a2 : atI (r.map iL) (Fi : Int) = some (iL w) := at_nat (getL hw1)
  have a3 : atI (w.map D.int) (Z : Int) = some (.int v) := at_nat (getI hv)
  have g0 : (t.map tL)[0]? = some (tL r0) := getL hr0
  have g1 : (t.map tL)[S]? = some (tL r) := getL hrS
  have g2 : (r.map iL)[Fi]? = some (iL w) := getL hw1
  have g3 : (w.map D.int)[Z]? = some (.int v) := getI hv
  have i1 : ixN t.length (S : Int) = some S := ixN_nat (by omega)
  have i2 : ixN m (Fi : Int) = some Fi := ixN_nat (by omega)
  have i3 : ixN w.length (Z : Int) = some Z := ixN_nat (by omega)
  have f7 : fits 7 = true := by decide
  have cp : ∀ cs', F__law_copy [uL t] cs' = .ok ⟨.al, uL t⟩ ⟨[], cs'⟩ true := fun cs' => ev_copy (by omega) fun r hr' => by rw [hr r hr']; omega
  have mu : gIc CMulW (fun x1 x2 => x1 * x2) 2 (dg C1 C2 x3 2) = some (.int (2 * dg C1 C2 x3 2)) := mul_ok (by omega) (by have := dg_nn (p := C1) (q := C2) (x := x3) (m := 2) (by omega); have := dg_lt (p := C1) (q := C2) (x := x3) (m := 2) (by omega); omega)
  subst lt
  obtain ⟨y, hy, ny⟩ : ∃ y, ([D.non, D.str "0", D.tup [D.int v], D.lst [D.int v]] : List D)[Y]? = some y ∧ nice y = true := by
    have : Y < 4 := by omega
    match Y, this with
    | 0, _ => exact ⟨_, rfl, rfl⟩
    | 1, _ => exact ⟨_, rfl, by decide +kernel⟩
    | 2, _ => exact ⟨_, rfl, rfl⟩
    | 3, _ => exact ⟨_, rfl, rfl⟩
  simp [F__law_values, fnOf_s, take_eq, T1, hr0, lr0, T2, hrS, hw1, hv, lr, T3, f7, rngD_len]
  rw [comp_rng (g := fun _ => ⟨.al, uL t⟩) (fun i hi l acc => by simp [cp])]
  have sm1 : small (w.map D.int) = true := small_of (by simp; omega)
  have sm2 : small (t.map tL) = true := small_of (by simp; omega)
  simp [allAl_map, dsOf_map, hrS, hw1, hv, T4, mu, List.range_succ, i1, i2, i3, lr]
  obtain ⟨wl, hwl⟩ : ∃ z, r[m - 1]? = some z := ⟨r[m - 1]'(by omega), List.getElem?_eq_getElem (by omega)⟩
  have hwl2 : ∃ w, r[m - 1]? = some w ∧ w.length = m - (m - 1) := hw r (List.mem_of_getElem? hrS) (m - 1) (by omega)
  have lwl : wl.length = 1 := by
    obtain ⟨w', e1, e2⟩ := hwl2
    rw [hwl] at e1
    cases e1
    omega
  obtain ⟨vl, hvl⟩ : ∃ z, wl[0]? = some z := ⟨wl[0]'(by omega), List.getElem?_eq_getElem (by omega)⟩
  have i4 : ixN m ((m : Int) - 1) = some (m - 1) := by
    have := ixN_nat (n := m) (k := m - 1) (by omega)
    rw [show ((m - 1 : Nat) : Int) = (m : Int) - 1 by omega] at this
    exact this
  simp [T5, hy, hrS, hw1, hv, i1, i2, i3, lr, sm1, hwl, cp, hr0]
  simp [T5, hy, hrS, hw1, hv, i1, i2, i3, lr, sm1, sm2, hwl, cp, hr0, lr0, i4, hvl, lwl]
  have t7 : t.length ≤ 10000000 := by omega
  simp [t7]
  rw [MM.comp_map (g := fun d => ⟨.al, tup2 d⟩) ?_]
  rotate_left
  · intro d hd l acc
    obtain ⟨r', hr', rfl⟩ := List.mem_map.mp hd
    have l7 : r'.length ≤ 10000000 := by rw [hr r' hr']; omega
    simp [l7]
    rw [MM.comp_map (g := fun d => ⟨.al, tup1 d⟩) ?_]
    · have := imm_tup1 (r := r')
      have e1 : dsOf ((r'.map iL).map fun d => (⟨.al, tup1 d⟩ : Val)) = (r'.map iL).map tup1 := dsOf_map
      have e2 : allAl ((r'.map iL).map fun d => (⟨.al, tup1 d⟩ : Val)) = true := allAl_map fun _ _ => rfl
      simp only [List.nil_append, finC_ok, e1, e2]
      simp [-List.map_map, this]
      rw [List.map_map]
    · intro d hd l acc
      obtain ⟨w', _, rfl⟩ := List.mem_map.mp hd
      simp
  have it2 := imm_tup2 (t := t)
  have e1 : dsOf ((t.map tL).map fun d => (⟨.al, tup2 d⟩ : Val)) = (t.map tL).map tup2 := dsOf_map
  have e2 : allAl ((t.map tL).map fun d => (⟨.al, tup2 d⟩ : Val)) = true := allAl_map fun _ _ => rfl
  simp only [List.nil_append, finC_ok, e1, e2]
  simp [-List.map_map, it2]
  generalize hE : (⟨[some ⟨.sh, .ref n⟩, some ⟨.sh, uL t⟩, some ⟨.sh, .int S⟩, some ⟨.sh, .int Fi⟩, some ⟨.sh, .int Z⟩, none, none, none, none], cs.set n x5.e⟩ : MSt) = sE
  have eE : sE.env[1]? = some (some ⟨.sh, uL t⟩) := by rw [← hE]; rfl
  have eC : sE.cells = cs.set n x5.e := by rw [← hE]
  obtain ⟨oa, ha, sa⟩ := sl_any (l := t.map tL) (lo := none) (hi := some (-1)) (s := sE)
  obtain ⟨ob, hb, sb⟩ := rep_any (l := [D.non]) (c := t.length) (s := sE) (by simp; omega) (by omega)
  obtain ⟨oc, hc, sc⟩ := rep_any (l := [D.lst [D.non]]) (c := t.length) (s := sE) (by simp; omega) (by omega)
  simp [sa, eE, sb, sc, ha, hb, hc]
  simp [opCat_s, catR]
  refine ⟨.sp, _, x5, ⟨⟨rfl, rfl⟩, eC⟩, o5.less (by omega), ?_, ?_, by decide, by decide⟩
  · have nr : ∀ (l : List D), nice (.lst l) = true → nice (.lst ((r.map iL).set Fi (.lst l))) = true := fun l h => nice_set nice_tL h
    have nt : ∀ (l : List D), nice (.lst l) = true → nice (.lst ((t.map tL).set S (.lst l))) = true := fun l h => nice_set nice_uL h
    intro u hu
    simp only [List.mem_cons, List.not_mem_nil, or_false] at hu
    rcases hu with rfl | rfl | rfl | rfl | rfl | rfl | rfl | rfl | rfl | rfl | rfl | rfl | rfl | rfl | rfl | rfl | rfl | rfl
    · exact nt _ (nr _ (nice_set nice_iL rfl))
    · exact nt _ (nr _ (nice_set nice_iL ny))
    · refine nt _ (nr _ (nice_lst fun d hd => ?_))
      rcases List.mem_append.mp hd with z | z
      · exact nice_lst_iff.mp (nice_iL (l := w)) d z
      · obtain rfl := List.mem_singleton.mp z
        rfl
    · exact nt _ (nice_lst fun d hd => nice_lst_iff.mp (nice_tL (l := r)) d (List.mem_of_mem_take (by rw [List.dropLast_eq_take] at hd; exact hd)))
    · refine nice_lst fun d hd => ?_
      rcases List.mem_append.mp hd with z | z
      · exact nice_lst_iff.mp (nice_uL (l := t)) d z
      · obtain rfl := List.mem_singleton.mp z
        exact nice_tL
    · exact nt _ (nice_set nice_tL (nice_tup fun d hd => nice_lst_iff.mp (nice_iL (l := w)) d hd))
    · exact nt _ (nice_set nice_tL (nice_set nice_iL rfl))
    · exact nice_uL
    · refine nice_tup fun d hd => ?_
      obtain ⟨a, _, rfl⟩ := List.mem_map.mp hd
      refine nice_tup fun d hd => ?_
      obtain ⟨b, hb, rfl⟩ := List.mem_map.mp hd
      obtain ⟨c, _, rfl⟩ := List.mem_map.mp hb
      exact nice_tup fun d hd => nice_lst_iff.mp (nice_iL (l := c)) d hd
    · exact nice_lst fun d hd => nice_lst_iff.mp (nice_uL (l := t)) d (mem_cutD hd)
    · rfl
    · rfl
    · rfl
    · rfl
    · rfl
    · decide +kernel
    · refine nice_lst fun d hd => ?_
      rw [List.eq_of_mem_replicate hd]
      rfl
    · refine nice_lst fun d hd => ?_
      rw [List.eq_of_mem_replicate hd]
      rfl
  · simp
end N

set_option maxHeartbeats 2000000
namespace N
open MM GB L2 PySem
theorem badC_odd {d : D} {cs : List Ent} (h : Odd d) (n : costsB d = false) : BadC (cs ++ c0 d) (vO d cs.length) d := ⟨dr_odd h, h.pl, fun l hl x hx => ((h.ok.el hl).2 x hx).plain, n⟩
theorem badS_odd {d : D} {cs : List Ent} (h : Odd d) (n : btw 1 40 d = false) : BadS (cs ++ c0 d) (vO d cs.length) d := by
  refine ⟨dr_odd h, h.pl, ?_, n⟩
  cases h with
  | imm' _ _ n2 _ _ => exact .inl (by unfold vO; rw [n2]; rfl)
  | lst => exact .inr rfl
  | dct => exact .inr rfl
theorem odd12 {Y : Nat} (h : Y < 12) : ∃ d, ([D.non, D.int 5, D.dct [] [], D.str "1", D.lst [], D.lst [.int 0], D.lst [.int 1000001], D.lst [.bl true], D.lst (List.replicate 61 (.int 1)), D.lst [.int 1, .non], D.lst [.tup [.int 1]], D.lst [.int (-1)]] : List D)[Y]? = some d ∧ Odd d ∧ costsB d = false := by
  match Y, h with
  | 0, _ => exact ⟨_, rfl, .imm rfl trivial rfl rfl, rfl⟩
  | 1, _ => exact ⟨_, rfl, .imm rfl trivial rfl rfl, rfl⟩
  | 2, _ => exact ⟨_, rfl, .dct, rfl⟩
  | 3, _ => exact ⟨_, rfl, .imm rfl (by show Str.length _ ≤ _; decide +kernel) rfl rfl, rfl⟩
  | 4, _ => exact ⟨_, rfl, .lst ⟨by decide, by simp⟩ (by decide), rfl⟩
  | 5, _ => exact ⟨_, rfl, .lst ⟨by decide, by simp [okS]⟩ (by decide), rfl⟩
  | 6, _ => exact ⟨_, rfl, .lst ⟨by decide, by simp [okS]⟩ (by decide), rfl⟩
  | 7, _ => exact ⟨_, rfl, .lst ⟨by decide, by simp [okS]⟩ (by decide), rfl⟩
  | 8, _ => exact ⟨_, rfl, .lst ⟨by decide, fun x hx => by rw [List.eq_of_mem_replicate hx]; trivial⟩ (by decide), by decide +kernel⟩
  | 9, _ => exact ⟨_, rfl, .lst ⟨by decide, by simp [okS]⟩ (by decide), rfl⟩
  | 10, _ => exact ⟨_, rfl, .lst ⟨by decide, by simp [okS]⟩ (by decide), rfl⟩
  | 11, _ => exact ⟨_, rfl, .lst ⟨by decide, by simp [okS]⟩ (by decide), rfl⟩
theorem odd9 {Y : Nat} (h : Y < 9) : ∃ d, ([D.non, D.int 0, D.int 41, D.int (-1), D.bl true, D.str "1", D.lst [.int 1], D.tup [.int 1], D.dct [] []] : List D)[Y]? = some d ∧ Odd d ∧ btw 1 40 d = false := by
  match Y, h with
  | 0, _ => exact ⟨_, rfl, .imm rfl trivial rfl rfl, rfl⟩
  | 1, _ => exact ⟨_, rfl, .imm rfl trivial rfl rfl, rfl⟩
  | 2, _ => exact ⟨_, rfl, .imm rfl trivial rfl rfl, rfl⟩
  | 3, _ => exact ⟨_, rfl, .imm rfl trivial rfl rfl, rfl⟩
  | 4, _ => exact ⟨_, rfl, .imm rfl trivial rfl rfl, rfl⟩
  | 5, _ => exact ⟨_, rfl, .imm rfl (by show Str.length _ ≤ _; decide +kernel) rfl rfl, rfl⟩
  | 6, _ => exact ⟨_, rfl, .lst ⟨by decide, by simp [okS]⟩ (by decide), rfl⟩
  | 7, _ => exact ⟨_, rfl, .imm rfl ⟨by decide, by simp [okS]⟩ rfl rfl, rfl⟩
  | 8, _ => exact ⟨_, rfl, .dct, rfl⟩
end N

set_option maxHeartbeats 2000000
namespace N
open MM GB L2 PySem
theorem tk_of {n : Nat} {cs : List Ent} (hn : n < cs.length) (x : Bx) (m : Int) (ox : x.Ok 1) (h1 : 0 < m) (h2 : m < 1073741824) : takeM 15490139 179426587 [.ref n, .int m] (cs.set n x.e) = .ok ⟨.al, .int (dg C1 C2 x m)⟩ ⟨[], cs.set n (nx x m).e⟩ true :=
  ev_take hn ox h1 h2 (by omega) (by omega) (by omega) (by omega)
theorem ev_refused {n : Nat} {cs : List Ent} {x : Bx} {bn : Bool} {j : Int} (hn : n < cs.length) (ok : x.Ok (j + 4)) (j0 : 0 ≤ j) (oc : entsOk cs = true) :
    ∃ (cs' : List Ent) (x' : Bx), F__law_refused_right [.ref n, .bl bn] (cs.set n x.e) = .ok ⟨.al, .bl true⟩ ⟨[], cs'.set n x'.e⟩ true ∧ n < cs'.length ∧ x'.Ok j ∧ entsOk cs' = true := by
  have f2 : fits 2 = true := by decide
  simp [F__law_refused_right, fnOf_s, f2]
  generalize hr : forS _ _ _ _ _ = r
  refine Exists.elim (for_rngF hr (fun i s => ∃ (cs' : List Ent) (x' : Bx), s = ⟨[some ⟨.sh, .ref n⟩, some ⟨.sh, .bl bn⟩, none, none, none], cs'.set n x'.e⟩ ∧ n < cs'.length ∧ x'.Ok (j + 4 - 2 * i) ∧ entsOk cs' = true) ⟨cs, x, rfl, hn, by simpa using ok, oc⟩ ?_) ?_
  rotate_left
  · rintro s' ⟨⟨cs', x', rfl, h1, h2, h3⟩, rfl⟩
    exact ⟨cs', x', by simp, h1, h2.less (by omega), h3⟩
  clear hr
  rintro i hi s ⟨cs', x', rfl, h1, h2, h3⟩
  have T1 := tk_of h1 x' 12 (h2.less (by omega)) (by omega) (by omega)
  have o1 : (nx x' 12).Ok (j + 3 - 2 * i) := nx_ok (by omega) (h2.less (by omega))
  obtain ⟨Y, hY, lY⟩ := dg_nat (p := C1) (q := C2) (x := x') (m := 12) (by omega)
  obtain ⟨d, hd, od, nd⟩ := odd12 (Y := Y) (by omega)
  generalize nx x' 12 = x1 at T1 o1
  rw [hY] at T1
  have hk : (i : Int) = 0 ∨ (i : Int) = 1 := by omega
  have ob := entsOk_bx (n := n) (x := x1) h3
  have k1 : (cs'.set n x1.e).length = cs'.length := List.length_set
  have B1 := badC_odd (cs := cs'.set n x1.e) od nd
  have G1 := grown_odd (cs := cs'.set n x1.e) od
  have S1 := same_odd (cs := cs'.set n x1.e) od
  rw [k1] at B1 G1 S1
  obtain ⟨om, M1⟩ := ev_met_costs (w := .non) (x := .non) (bn := bn) hk B1 (nox_vO od) (by rw [entsOk_app, ob, entsOk_c0]; rfl)
  have om2 := fnOf_nb M1
  rw [set_app (r := c1 d) h1] at G1 S1
  have hA : entsOk (cs' ++ c1 d) = true := by rw [entsOk_app, h3, entsOk_c1 od]; rfl
  have nA : n < (cs' ++ c1 d).length := by simp; omega
  generalize cs' ++ c1 d = A at G1 S1 hA nA
  have T2 := tk_of nA x1 9 (o1.less (by omega)) (by omega) (by omega)
  have o2 : (nx x1 9).Ok (j + 2 - 2 * i) := nx_ok (by omega) (o1.less (by omega))
  obtain ⟨Y2, hY2, lY2⟩ := dg_nat (p := C1) (q := C2) (x := x1) (m := 9) (by omega)
  obtain ⟨d2, hd2, od2, nd2⟩ := odd9 (Y := Y2) (by omega)
  generalize nx x1 9 = x2 at T2 o2
  rw [hY2] at T2
  have rp : ∀ s, opRep [⟨.al, .lst [.int 1]⟩, ⟨.al, .int 61⟩] s = .ok ⟨.al, .lst (List.replicate 61 (.int 1))⟩ s false := fun s => by
    have h2 := rep_imm (l := [D.int 1]) (c := 61) (s := s) (by simp) (by omega) rfl
    rw [List.flatten_replicate_singleton] at h2
    exact h2
  have tt : tgName true 2 (itV (.int (0 + (i : Int)))) ⟨[some ⟨.sh, .ref n⟩, some ⟨.sh, .bl bn⟩, none, none, none], cs'.set n x'.e⟩ = some ⟨[some ⟨.sh, .ref n⟩, some ⟨.sh, .bl bn⟩, some ⟨.sh, .int i⟩, none, none], cs'.set n x'.e⟩ := by simp
  have obA := entsOk_bx (n := n) (x := x2) hA
  have gd : Good [3, 1] := ⟨by decide, by decide, by simp⟩
  have k2 : (A.set n x2.e).length = A.length := List.length_set
  have B2 := badS_odd (cs := A.set n x2.e) od2 nd2
  have G2 := grown_odd (cs := A.set n x2.e) od2
  have S2 := same_odd (cs := A.set n x2.e) od2
  rw [k2] at B2 G2 S2
  obtain ⟨om', M2⟩ := ev_met_slots (x := .non) (bn := !bn) hk gd B2 (nox_vO od2) (by rw [entsOk_app, obA, entsOk_c0]; rfl)
  have hL : iL [3, 1] = .lst [.int 3, .int 1] := rfl
  rw [hL] at M2
  have om2' := fnOf_nb M2
  rw [set_app (r := c1 d2) nA] at G2 S2
  have hA2 : entsOk (A ++ c1 d2) = true := by rw [entsOk_app, hA, entsOk_c1 od2]; rfl
  have nA2 : n < (A ++ c1 d2).length := by simp; omega
  generalize A ++ c1 d2 = A2 at G2 S2 hA2 nA2
  refine ⟨_, ⟨[some ⟨.sh, .ref n⟩, some ⟨.sh, .bl bn⟩, some ⟨.sh, .int i⟩, some (eO d2 A.length), some ⟨.sh, .lst [.str "slots", vO d2 A.length]⟩], A2.set n x2.e⟩, true, tt, ?_, ?_⟩
  · simp [-List.reduceReplicate, -List.map_append, -List.map_set, take_eq, rp, T1, hd, ref_odd od, rdO_eO od, eO_d, M1, om2, grown_eq, G1, same8, S1, imm_vO od]
    simp [-List.map_append, -List.map_set, T2, hd2, ref_odd od2, rdO_eO od2, eO_d, M2, om2', G2, S2, imm_vO od2]
  · exact ⟨A2, x2, by simp, nA2, o2.less (by omega), hA2⟩
end N

set_option maxHeartbeats 2000000
namespace N
open MM GB L2 PySem
theorem okS_tL {n : Nat} {t : List (List Int)} (h1 : t.length ≤ 1000) (h2 : ∀ r ∈ t, r.length ≤ 1000) : okS (n + 3) (tL t) := ⟨by rw [List.length_map]; omega, fun x hx => by
  obtain ⟨r, hr, rfl⟩ := List.mem_map.mp hx
  exact okS_ints (n := n) (by have := h2 r hr; omega)⟩
theorem okS_uL {n : Nat} {t : List (List (List Int))} (h1 : t.length ≤ 1000) (h2 : ∀ r ∈ t, r.length ≤ 1000) (h3 : ∀ r ∈ t, ∀ x ∈ r, x.length ≤ 1000) : okS (n + 4) (uL t) := ⟨by rw [List.length_map]; omega, fun x hx => by
  obtain ⟨r, hr, rfl⟩ := List.mem_map.mp hx
  exact okS_tL (n := n) (h2 r hr) (h3 r hr)⟩
theorem tab_len {cl : List Int} {c : Nat} : (MT.tab cl c).length = c := by unfold MT.tab; simp
theorem tab_mem {cl : List Int} {c : Nat} {r : List (List Int)} (h : r ∈ MT.tab cl c) : ∃ s, r = MT.tabRows cl s := by
  unfold MT.tab at h
  obtain ⟨s, _, rfl⟩ := List.mem_map.mp h
  exact ⟨s, rfl⟩
theorem rows_len {cl : List Int} {s : Nat} : (MT.tabRows cl s).length = cl.length := by unfold MT.tabRows; simp
theorem rows_mem {cl : List Int} {s : Nat} {x : List Int} (h : x ∈ MT.tabRows cl s) : x.length ≤ cl.length := by
  unfold MT.tabRows at h
  obtain ⟨f, _, rfl⟩ := List.mem_map.mp h
  unfold MT.tabRow
  simp
theorem ixN_last {n : Nat} (h : 1 ≤ n) : ixN n (-1) = some (n - 1) := by
  unfold ixN
  rw [if_neg (by omega), if_pos (by omega)]
  congr 1
  omega
theorem ev_table_right {n : Nat} {cs : List Ent} {x : Bx} {cl : List Int} {c : Nat} {bn : Bool} {j : Int} (g : Good cl) (h1 : 1 ≤ c) (h2 : c ≤ 40) (hn : n < cs.length) (ok : x.Ok (j + 10)) (j0 : 0 ≤ j) :
    ∃ (x' : Bx), F__law_table_right [.ref n, iL cl, .int c, .bl bn] (cs.set n x.e) = .ok ⟨.al, .bl true⟩ ⟨[], cs.set n x'.e⟩ true ∧ x'.Ok j := by
  have g1 := g.l1
  have g2 := g.l2
  have Tb : ∀ cs', F__law_table [iL cl, .int c] cs' = .ok ⟨.al, uL (MT.tab cl c)⟩ ⟨[], cs'⟩ true := fun cs' => ev_law_table g h1 h2
  have gt0 : (MT.tab cl c)[0]? = some (MT.tabRows cl 0) := by unfold MT.tab; rw [List.getElem?_map, List.getElem?_range (by omega)]; rfl
  have gt1 : (MT.tab cl c)[c - 1]? = some (MT.tabRows cl (c - 1)) := by unfold MT.tab; rw [List.getElem?_map, List.getElem?_range (by omega)]; rfl
  have gr0 : ∀ s, (MT.tabRows cl s)[0]? = some (MT.tabRow cl s 0) := fun s => tabRows_get (by omega)
  have lt := tab_len (cl := cl) (c := c)
  have lr : ∀ r ∈ MT.tab cl c, r.length = cl.length := fun r hr => by
    obtain ⟨s, rfl⟩ := tab_mem hr
    exact rows_len
  have lw : ∀ r ∈ MT.tab cl c, ∀ x ∈ r, x.length ≤ 1000 := fun r hr x hx => by
    obtain ⟨s, rfl⟩ := tab_mem hr
    exact Nat.le_trans (rows_mem hx) (by omega)
  have okt : okS 7 (uL (MT.tab cl c)) := okS_uL (n := 3) (by omega) (fun r hr => by rw [lr r hr]; omega) lw
  have oktold : okS 8 (.lst [.str "told", uL (MT.tab cl c)]) := ⟨by simp, fun x hx => by
    rcases List.mem_cons.mp hx with rfl | hx
    · show Str.length _ ≤ _
      decide +kernel
    · obtain rfl := List.mem_singleton.mp hx
      exact okt⟩
  have Sm : ∀ cs', sameM 8 [.lst [.str "told", uL (MT.tab cl c)], .lst [.str "told", uL (MT.tab cl c)]] cs' = .ok ⟨.al, .bl true⟩ ⟨[], cs'⟩ true := fun cs' => ev_same_self (n := 7) (Se.plain rfl) (Se.plain rfl) oktold
  have i0 : ixN c 0 = some 0 := ixN_nat (k := 0) (by omega)
  have i00 : ixN cl.length 0 = some 0 := ixN_nat (k := 0) (by omega)
  have rl : (MT.tabRows cl 0).length = cl.length := rows_len
  have i1 : ixN c (-1) = some (c - 1) := ixN_last h1
  have sm1 : small ((MT.tabRow cl 0 0).map D.int) = true := small_of (by unfold MT.tabRow; simp; omega)
  have sm2 : small ((MT.tabRows cl (c - 1)).map iL) = true := small_of (by unfold MT.tabRows; simp; omega)
  simp [F__law_table_right, fnOf_s, Tb]
  generalize hr : forS _ _ _ _ _ = r
  refine Exists.elim (for_rowF hr (fun i s => s = ⟨[some ⟨.sh, .ref n⟩, some ⟨.sh, iL cl⟩, some ⟨.sh, .int c⟩, some ⟨.sh, .bl bn⟩, some ⟨.sh, uL (MT.tab cl c)⟩, none, none, none, none], cs.set n x.e⟩) rfl ?_) ?_
  · rintro i hi s rfl
    obtain ⟨b, hb⟩ : ∃ b, ([D.bl bn, D.bl !bn] : List D)[i] = .bl b := by
      match i, hi with
      | 0, _ => exact ⟨_, rfl⟩
      | 1, _ => exact ⟨_, rfl⟩
    rw [hb]
    have M := ev_met_table (cs := cs.set n x.e) (bn := b) g h1 h2
    obtain ⟨X, hX⟩ : ∃ X : List D, X = ((MT.tab cl c).map tL).set 0 (.lst (((MT.tabRows cl 0).map iL).set 0 (.lst ((MT.tabRow cl 0 0).map D.int ++ [.str "more"])))) := ⟨_, rfl⟩
    obtain ⟨l', hl', sl⟩ : ∃ l', X[c - 1]? = some (.lst l') ∧ l'.length < 8000000 := by
      by_cases e : c - 1 = 0
      · refine ⟨((MT.tabRows cl 0).map iL).set 0 (.lst ((MT.tabRow cl 0 0).map D.int ++ [.str "more"])), ?_, by simp [rl]; omega⟩
        rw [hX, e, List.getElem?_set_self (by simp [lt]; omega)]
      · refine ⟨(MT.tabRows cl (c - 1)).map iL, ?_, by simp [rows_len]; omega⟩
        rw [hX, List.getElem?_set_ne (by omega), List.getElem?_map, gt1]
        rfl
    have sl2 := small_of sl
    have lX : X.length = c := by rw [hX, List.length_set, List.length_map, lt]
    refine ⟨⟨[some ⟨.sh, .ref n⟩, some ⟨.sh, iL cl⟩, some ⟨.sh, .int c⟩, some ⟨.sh, .bl bn⟩, some ⟨.sh, uL (MT.tab cl c)⟩, some ⟨.sh, .bl b⟩, none, none, none], cs.set n x.e⟩,
      ⟨[some ⟨.sh, .ref n⟩, some ⟨.sh, iL cl⟩, some ⟨.sh, .int c⟩, some ⟨.sh, .bl bn⟩, some ⟨.sh, uL (MT.tab cl c)⟩, some ⟨.sh, .bl b⟩, some ⟨.al, .lst [.str "told", .lst (X.set (c - 1) (.lst (.str "more" :: l')))]⟩, none, none], cs.set n x.e⟩, true, by simp, ?_, by simp⟩
    simp [M, same8, Sm, gt0, gr0, lt, sm1, i1, gt1, i0, i00, rl, ← hX, hl', sl2, lX]
  · rintro s' ⟨rfl, rfl⟩
    have LC : ∀ cs', F_least_cost [iL cl, .int c] cs' = .ok ⟨.al, .int (MT.T cl (c - 1) 0 cl.length)⟩ ⟨[], cs'⟩ true := fun cs' => ev_least_cost (b := false) g h1 h2
    have LC2 : ∀ cs', F_least_cost [.tup (cl.map .int), .int c] cs' = .ok ⟨.al, .int (MT.T cl (c - 1) 0 cl.length)⟩ ⟨[], cs'⟩ true := fun cs' => ev_least_cost (b := true) g h1 h2
    have pm : byIx [1, 0] [D.int (c : Int), .tup (cl.map .int)] = [.tup (cl.map .int), .int c] := rfl
    have a1 : atI ((MT.tab cl c).map tL) (-1) = some (tL (MT.tabRows cl (c - 1))) := by rw [MM.atI_last, List.getLast?_map, tab_last h1]; rfl
    have a3 : atI ((MT.tabRow cl (c - 1) 0).map D.int) (-1) = some (.int (MT.T cl (c - 1) 0 cl.length)) := by
      rw [MM.atI_last, List.getLast?_eq_getElem?]
      have e : ((MT.tabRow cl (c - 1) 0).map D.int).length - 1 = cl.length - 1 := by unfold MT.tabRow; simp
      rw [e]
      have q := tabRow_get (cl := cl) (s := c - 1) (f := 0) (j := cl.length - 1) (by omega)
      rw [show cl.length - 1 + 1 = cl.length by omega] at q
      exact getI q
    generalize MT.T cl (c - 1) 0 cl.length = L at LC LC2 a3
    have S2 : ∀ cs', sameM 8 [.lst [.int L, .int L], .lst [.int L, .int L]] cs' = .ok ⟨.al, .bl true⟩ ⟨[], cs'⟩ true := fun cs' => ev_same_self (n := 7) (Se.plain rfl) (Se.plain rfl) ⟨by simp, by simp [okS]⟩
    have S3 : ∀ (b : Bool) cs', sameM 8 [.lst [.str "told", .bl b], .lst [.str "told", .bl b]] cs' = .ok ⟨.al, .bl true⟩ ⟨[], cs'⟩ true := fun b cs' => ev_same_self (n := 7) (Se.plain rfl) (Se.plain rfl) ⟨by simp, fun x hx => by
      rcases List.mem_cons.mp hx with rfl | hx
      · show Str.length _ ≤ _
        decide +kernel
      · obtain rfl := List.mem_singleton.mp hx
        trivial⟩
    obtain ⟨o, vs, x', V, ok', nv, lv, ob, osh⟩ := ev_values (n := n) (cs := cs) (x := x) (t := MT.tab cl c) (j := j) hn ok j0 lt h1 h2 g1 g2 lr (fun r hr f hf => by
      obtain ⟨s, rfl⟩ := tab_mem hr
      exact ⟨_, tabRows_get hf, by unfold MT.tabRow; simp⟩)
    refine ⟨x', ?_⟩
    simp [a1, gr0, a3, LC, LC2, pm, same8, S2, V, ob]
    generalize hr : forS _ _ _ _ _ = r
    refine Exists.elim (for_rowF hr (fun i s => ∃ b, s = ⟨[some ⟨.sh, .ref n⟩, some ⟨.sh, iL cl⟩, some ⟨.sh, .int c⟩, some ⟨.sh, .bl b⟩, some ⟨.sh, uL (MT.tab cl c)⟩, none, none, some ⟨.sh, .int L⟩, none], cs.set n x'.e⟩) ⟨_, rfl⟩ ?_) ?_
    · rintro i hi s ⟨b, rfl⟩
      have nvi := nv vs[i] (List.getElem_mem ..)
      generalize vs[i] = v at nvi
      have M := ev_met_is (cs := cs.set n x'.e) (bn := b) g h1 h2 (nice.plN (n := 3) nvi)
      have I : ∀ cs', F__law_is_table [uL (MT.tab cl c), v] cs' = .ok ⟨.al, .bl (tabG v (uL (MT.tab cl c)))⟩ ⟨[], cs'⟩ true := fun cs' => ev_is_table (nice.okT nvi) (by omega) (fun r hr => by rw [lr r hr]; omega) lw
      refine ⟨⟨[some ⟨.sh, .ref n⟩, some ⟨.sh, iL cl⟩, some ⟨.sh, .int c⟩, some ⟨.sh, .bl b⟩, some ⟨.sh, uL (MT.tab cl c)⟩, none, none, some ⟨.sh, .int L⟩, some ⟨.sh, v⟩], cs.set n x'.e⟩,
        ⟨[some ⟨.sh, .ref n⟩, some ⟨.sh, iL cl⟩, some ⟨.sh, .int c⟩, some ⟨.sh, .bl !b⟩, some ⟨.sh, uL (MT.tab cl c)⟩, none, none, some ⟨.sh, .int L⟩, some ⟨.sh, v⟩], cs.set n x'.e⟩, true, by simp, ?_, by simp⟩
      simp [M, I, same8, S3]
    · rintro s' ⟨⟨b, rfl⟩, rfl⟩
      simp [ok']
end N

set_option maxHeartbeats 2000000
namespace N
open MM GB L2 PySem
theorem tkF {n : Nat} {cs : List Ent} (hn : n < cs.length) (x : Bx) (m : Int) (ox : x.Ok 1) (h1 : 0 < m) (h2 : m < 1073741824) : F__law_take [.ref n, .int m] (cs.set n x.e) = .ok ⟨.al, .int (dg C1 C2 x m)⟩ ⟨[], cs.set n (nx x m).e⟩ true := tk_of hn x m ox h1 h2
noncomputable abbrev tailM : Mas := (mSeq (mSet true 7 (mComp (itRng1 (aCons (eVar 5) aNil)) (tgName true 8) mYes (e2 (eN (aCons (eC (.int 1)) (aCons (eC (.int 2)) (aCons (eC (.int 3)) (aCons (eC (.int 17)) (aCons (eC (.int 1000000)) aNil))))) opLst) (callM .e F__law_take (aCons (eVar 3) (aCons (eC (.int 5)) aNil))) opIxO) [8]))
      (mIf (tOrM (tNotM (tTru (callM .e F__law_table_right (aCons (eVar 3) (aCons (eVar 7) (aCons (eVar 6) (aCons (eVar 4) aNil))))))) (tNotM (tTru (callM .e F__law_refused_right (aCons (eVar 3) (aCons (eVar 4) aNil))))))
      (mRet (eC (.bl false)))
      mNext))
theorem ev_tail {a b d : Option Val} {n m c : Nat} {bn : Bool} {cs : List Ent} {x : Bx} (hn : n < cs.length) (ok : x.Ok 100) (m1 : 1 ≤ m) (m2 : m ≤ 60) (c1 : 1 ≤ c) (c2 : c ≤ 40) (oc : entsOk cs = true) :
    ∃ (v : Option Val) (cs' : List Ent), tailM ⟨[a, b, d, some ⟨.al, .ref n⟩, some ⟨.sh, .bl bn⟩, some ⟨.sh, .int m⟩, some ⟨.sh, .int c⟩, none, none], cs.set n x.e⟩ =
      .ok .nx ⟨[a, b, d, some ⟨.al, .ref n⟩, some ⟨.sh, .bl bn⟩, some ⟨.sh, .int m⟩, some ⟨.sh, .int c⟩, v, none], cs'⟩ true ∧ entsOk cs' = true := by
  have f1 : fits (m : Int) = true := fits_of (by omega) (by omega)
  have l7 : m ≤ 10000000 := by omega
  unfold tailM
  generalize hG : mComp (itRng1 (aCons (eVar 5) aNil)) (tgName true 8) mYes _ [8] = G
  have z : ∃ (l : List Int) (x' : Bx), G ⟨[a, b, d, some ⟨.al, .ref n⟩, some ⟨.sh, .bl bn⟩, some ⟨.sh, .int m⟩, some ⟨.sh, .int c⟩, none, none], cs.set n x.e⟩ = .ok ⟨.al, iL l⟩ ⟨[a, b, d, some ⟨.al, .ref n⟩, some ⟨.sh, .bl bn⟩, some ⟨.sh, .int m⟩, some ⟨.sh, .int c⟩, none, none], cs.set n x'.e⟩ true ∧
      l.length = m ∧ (∀ z ∈ l, 1 ≤ z ∧ z ≤ 1000000) ∧ x'.Ok (100 - m) := by
    rw [← hG]
    simp [f1, rngD_len, l7]
    generalize hr : compS _ _ _ _ _ _ _ = r
    refine Exists.elim (comp_rng' hr (fun i acc s => ∃ (l : List Int) (x' : Bx), acc = l.map (fun z => ⟨.al, .int z⟩) ∧ l.length = i ∧ (∀ z ∈ l, 1 ≤ z ∧ z ≤ 1000000) ∧ x'.Ok (100 - i) ∧
      s = ⟨[a, b, d, some ⟨.al, .ref n⟩, some ⟨.sh, .bl bn⟩, some ⟨.sh, .int m⟩, some ⟨.sh, .int c⟩, none, none], cs.set n x'.e⟩) ⟨[], x, rfl, rfl, by simp, by simpa using ok, rfl⟩ ?_) ?_
    · rintro i hi s acc ⟨l, x', rfl, e1, e2, e3, rfl⟩
      have T1 := tkF hn x' 5 (e3.less (by omega)) (by omega) (by omega)
      have o1 : (nx x' 5).Ok (100 - (i + 1 : Nat)) := nx_ok (by omega) (e3.less (by omega))
      obtain ⟨Y, hY, lY⟩ := dg_nat (p := C1) (q := C2) (x := x') (m := 5) (by omega)
      generalize nx x' 5 = x1 at T1 o1
      rw [hY] at T1
      obtain ⟨v, hv, hv2⟩ : ∃ v : Int, ([D.int 1, D.int 2, D.int 3, D.int 17, D.int 1000000] : List D)[Y]? = some (.int v) ∧ 1 ≤ v ∧ v ≤ 1000000 := by
        match Y, (show Y < 5 by omega) with
        | 0, _ => exact ⟨1, rfl, by omega, by omega⟩
        | 1, _ => exact ⟨2, rfl, by omega, by omega⟩
        | 2, _ => exact ⟨3, rfl, by omega, by omega⟩
        | 3, _ => exact ⟨17, rfl, by omega, by omega⟩
        | 4, _ => exact ⟨1000000, rfl, by omega, by omega⟩
      refine ⟨⟨[a, b, d, some ⟨.al, .ref n⟩, some ⟨.sh, .bl bn⟩, some ⟨.sh, .int m⟩, some ⟨.sh, .int c⟩, none, none], cs.set n x1.e⟩, (l ++ [v]).map (fun z => ⟨.al, .int z⟩), ⟨l ++ [v], x1, rfl, by simp [e1], ?_, o1, rfl⟩, fun r => ?_⟩
      · intro z hz
        rcases List.mem_append.mp hz with hz | hz
        · exact e2 z hz
        · obtain rfl := List.mem_singleton.mp hz
          exact hv2
      · simp [T1, hv]
    · rintro s' ⟨acc, ⟨l, x', rfl, e1, e2, e3, rfl⟩, rfl⟩
      refine ⟨l, x', ?_, e1, e2, e3⟩
      simp [allAl_map, dsOf_map]
  obtain ⟨l, x1, z, e1, e2, e3⟩ := z
  clear hG
  have g : Good l := ⟨by omega, by omega, e2⟩
  obtain ⟨x2, R, o2⟩ := ev_table_right (bn := bn) (j := 20) g c1 c2 hn (e3.less (by omega)) (by omega)
  obtain ⟨cs', x3, R2, h1, o3, oc'⟩ := ev_refused (bn := bn) (j := 0) hn (o2.less (by omega)) (by omega) oc
  refine ⟨some ⟨.sh, iL l⟩, cs'.set n x3.e, ?_, entsOk_bx oc'⟩
  simp [z, R, R2]
theorem ev_law {xs : List Int} (hl : xs.length ≤ 63) : ∃ cs', F_law [.fls (xs.map .int)] [] = .ok ⟨.al, .bl true⟩ ⟨[], cs'⟩ true := by
  have io : intsOf ((xs.map D.int).take 1) = some (xs.take 1) := by rw [← List.map_take]; exact intsOf_map _
  obtain ⟨M, hM, lM⟩ : ∃ M : Nat, (if (if (xs.length : Int) < 4 then (xs.length : Int) else 4) > 2 then (if (xs.length : Int) < 4 then (xs.length : Int) else 4) else 2) = M ∧ M ≤ 4 := ⟨(if (if (xs.length : Int) < 4 then (xs.length : Int) else 4) > 2 then (if (xs.length : Int) < 4 then (xs.length : Int) else 4) else 2).toNat, by split <;> split <;> omega, by split <;> split <;> omega⟩
  have f1 : fits (M : Int) = true := fits_of (by omega) (by omega)
  have hM2 : (if 2 < (if (xs.length : Int) < 4 then (xs.length : Int) else 4) then (if (xs.length : Int) < 4 then (xs.length : Int) else 4) else 2) = (M : Int) := hM
  simp [F_law, fnOf_s, opSl_fls, io, hM2, f1]
  generalize decide ((xs.take 1).sum.fmod 8 = 6) = gr
  generalize hr : forS _ _ _ _ _ = r
  refine Exists.elim (for_rngF hr (fun i s => ∃ cs, s = ⟨[some ⟨.sh, .fls (xs.map .int)⟩, some ⟨.sh, .bl gr⟩, none, none, none, none, none, none, none], cs⟩ ∧ entsOk cs = true) ⟨[], rfl, rfl⟩ ?_) ?_
  rotate_left
  · rintro s' ⟨⟨cs, rfl, _⟩, rfl⟩
    exact ⟨cs, by simp⟩
  clear hr
  rintro i hi s ⟨cs, rfl, oc⟩
  have Ce : ∀ cs', F__law_cell [.fls (xs.map .int), .int i] cs' = .ok ⟨.al, .int (cellV 9007 xs i)⟩ ⟨[], cs'⟩ true := fun cs' => ev_cell (by omega) (by omega) (by omega)
  have Bo : ∀ cs', F__law_box [.int (cellV 9007 xs i)] cs' = .ok ⟨.al, (mkBx (cellV 9007 xs i)).d⟩ ⟨[], cs'⟩ true := fun cs' => ev_box
  have ok := mkBx_ok (g := cellV 9007 xs i) (j := 200) (by omega)
  generalize mkBx (cellV 9007 xs i) = x at Bo ok
  have hn : cs.length < (cs ++ [none]).length := by simp
  have oC : entsOk (cs ++ [none]) = true := by rw [entsOk_app, oc]; rfl
  have Rf : ∀ {env : List Ent} {i : Nat} {e : Bool}, i < env.length → refR i (.ok ⟨.al, x.d⟩ ⟨env, cs⟩ e) = .ok .nx ⟨env.set i (some ⟨.al, .ref cs.length⟩), (cs ++ [none]).set cs.length x.e⟩ true := refR_bx
  generalize cs ++ [none] = C at hn oC Rf
  generalize cs.length = N at hn Rf
  have T1 := tkF hn x 2 (ok.less (by omega)) (by omega) (by omega)
  have o1 : (nx x 2).Ok 199 := nx_ok (by omega) (ok.less (by omega))
  generalize nx x 2 = x1 at T1 o1
  generalize dg C1 C2 x 2 = d1 at T1
  have T2 := tkF hn x1 4 (o1.less (by omega)) (by omega) (by omega)
  have o2 : (nx x1 4).Ok 198 := nx_ok (by omega) (o1.less (by omega))
  obtain ⟨a2, ha2, la2⟩ := dg_nat (p := C1) (q := C2) (x := x1) (m := 4) (by omega)
  generalize nx x1 4 = x2 at T2 o2
  rw [ha2] at T2
  have T3 := tkF hn x2 12 (o2.less (by omega)) (by omega) (by omega)
  have o3 : (nx x2 12).Ok 197 := nx_ok (by omega) (o2.less (by omega))
  obtain ⟨a3, ha3, la3⟩ := dg_nat (p := C1) (q := C2) (x := x2) (m := 12) (by omega)
  generalize nx x2 12 = x3 at T3 o3
  rw [ha3] at T3
  have T4 := tkF hn x3 2 (o3.less (by omega)) (by omega) (by omega)
  have o4 : (nx x3 2).Ok 196 := nx_ok (by omega) (o3.less (by omega))
  obtain ⟨a4, ha4, la4⟩ := dg_nat (p := C1) (q := C2) (x := x3) (m := 2) (by omega)
  generalize nx x3 2 = x4 at T4 o4
  rw [ha4] at T4
  have T5 := tkF hn x4 4 (o4.less (by omega)) (by omega) (by omega)
  have o5 : (nx x4 4).Ok 195 := nx_ok (by omega) (o4.less (by omega))
  obtain ⟨a5, ha5, la5⟩ := dg_nat (p := C1) (q := C2) (x := x4) (m := 4) (by omega)
  generalize nx x4 4 = x5 at T5 o5
  rw [ha5] at T5
  obtain ⟨m, hm, m1, m2⟩ : ∃ m : Nat, ([D.int (1 + a2), D.int (1 + a3)] : List D)[a4]? = some (.int m) ∧ 1 ≤ m ∧ m ≤ 60 := by
    match a4, (show a4 < 2 by omega) with
    | 0, _ => exact ⟨1 + a2, by simp, by omega, by omega⟩
    | 1, _ => exact ⟨1 + a3, by simp, by omega, by omega⟩
  obtain ⟨v1, cs1, t1, oc1⟩ := ev_tail (a := some ⟨.sh, .fls (xs.map .int)⟩) (b := some ⟨.sh, .bl gr⟩) (d := some ⟨.sh, .int i⟩) (n := N) (m := m) (c := 1 + a5) (bn := decide (d1 = 0)) hn (o5.less (by omega)) m1 m2 (by omega) (by omega) oC
  obtain ⟨v2, cs2, t2, oc2⟩ := ev_tail (a := some ⟨.sh, .fls (xs.map .int)⟩) (b := some ⟨.sh, .bl gr⟩) (d := some ⟨.sh, .int i⟩) (n := N) (m := 40) (c := 3) (bn := decide (d1 = 0)) hn (o5.less (by omega)) (by omega) (by omega) (by omega) (by omega) oC
  have ec : ((1 + a5 : Nat) : Int) = 1 + (a5 : Int) := by omega
  rw [ec] at t1
  rw [show ((40 : Nat) : Int) = 40 from rfl, show ((3 : Nat) : Int) = 3 from rfl] at t2
  have tt : tgName true 2 (itV (.int (0 + (i : Int)))) ⟨[some ⟨.sh, .fls (xs.map .int)⟩, some ⟨.sh, .bl gr⟩, none, none, none, none, none, none, none], cs⟩ = some ⟨[some ⟨.sh, .fls (xs.map .int)⟩, some ⟨.sh, .bl gr⟩, some ⟨.sh, .int i⟩, none, none, none, none, none, none], cs⟩ := by simp
  by_cases hg : (gr && decide ((i : Int) = 0)) = true
  · refine ⟨_, ⟨[some ⟨.sh, .fls (xs.map .int)⟩, some ⟨.sh, .bl gr⟩, some ⟨.sh, .int i⟩, some ⟨.al, .ref N⟩, some ⟨.sh, .bl (decide (d1 = 0))⟩, some ⟨.sh, .int 40⟩, some ⟨.sh, .int 3⟩, v2, none], cs2⟩, true, tt, ?_, ⟨cs2, by simp, oc2⟩⟩
    obtain ⟨rfl, h0⟩ : gr = true ∧ i = 0 := by simpa using hg
    have h0 : (i = 0) = True := eq_true h0
    simp [Ce, Bo, Rf, h0, T1, T2, T3, T4, T5, hm, ↓t2]
  · have hg2 : (gr && decide ((i : Int) = 0)) = false := by simpa using hg
    refine ⟨_, ⟨[some ⟨.sh, .fls (xs.map .int)⟩, some ⟨.sh, .bl gr⟩, some ⟨.sh, .int i⟩, some ⟨.al, .ref N⟩, some ⟨.sh, .bl (decide (d1 = 0))⟩, some ⟨.sh, .int m⟩, some ⟨.sh, .int (1 + a5)⟩, v1, none], cs1⟩, true, tt, ?_, ⟨cs1, by simp, oc1⟩⟩
    cases gr with
    | false => simp [Ce, Bo, Rf, T1, T2, T3, T4, T5, hm, ↓t1]
    | true =>
      have h0 : (i = 0) = False := eq_false (by simpa using hg2)
      simp [Ce, Bo, Rf, h0, T1, T2, T3, T4, T5, hm, ↓t1]
end N

/-! The end: from a machine to a promise of the law. -/
namespace MM
open PySem PySem.Spec PyProof.Rows L2 GB
def p0 : Addr → Prop := fun _ => False
def w0' : Ow := fun _ => none
theorem fz0 {H : Hp} : fz p0 w0' H = H := by
  funext a
  cases h : H a with
  | none =>
    unfold fz
    split <;> first | rfl | exact h
  | some u => rw [fz_at (fun z => z) rfl, h]
theorem sp_law {K : PySem.W.Frag} {mg : Str → Option Value} {F : Fn} (hF : ∀ xs : List Int, xs.length ≤ 63 → ∃ cs', F [.fls (xs.map .int)] [] = .ok ⟨.al, .bl true⟩ ⟨[], cs'⟩ true) {H : Hp} {a : Addr} {ns : List Int}
    (hl : ns.length ≤ 63) (hO : Only H) (hS : SqL K H a (ns.map V.int)) : spM K mg 1 F [.ref a] H (fun v _ => v = .bl true) (fun _ _ _ => False) := by
  obtain ⟨cs', h⟩ := hF ns hl
  refine ⟨none, p0, w0', [], [.fls (ns.map .int)], [], rfl, fun a i z => (nomatch z), ?_, ?_, rfl, ?_⟩
  · exact ⟨fun a z => z.elim (fun q => q.elim) (fun q => absurd rfl q), fun a z => rfl, rfl, rfl, fun i o d z => (by simp at z), fun j o d z => (by simp at z)⟩
  · rw [fz0]
    refine .cons (.fls (xs := ns.map V.int) ?_ ?_) .nil
    · rcases hS with (z | z) | z
      · exfalso
        rcases hO a with q | ⟨o, xs, q⟩
        · rw [q] at z; cases z
        · rw [q] at z; cases z
      · exact .inl z
      · exact .inr z
    · clear hl hS h hF
      induction ns with
      | nil => exact .nil
      | cons i ns ih => exact .cons (.int i) ih
  · rw [h]
    intro v H' A w' m' g p
    cases p with
    | al p =>
      cases p with
      | imm p _ => cases p; rfl
theorem dn_fn {P : Program} {w : World} {K : PySem.W.Frag} {mg : Str → Option Value} {base : Heap} {k : Nat} {x : Str} {st : Stmt} {ps : List Str} {sp : Sp} {f : Addr} {fd : FuncData} (D : Dn P w K mg base k x st ps sp) (F : Fun K x x st f fd) (m : mg x = some (.ref f)) : FnOk P w K mg base (L2.CX P w) k f fd ps sp := by
  obtain ⟨f', fd', h, hm, F'⟩ := D.ex
  rw [m] at hm
  cases hm
  obtain ⟨oc, od, kV, doc, pm, an, cdv, ct, osl, rfl, lk, hcd⟩ := F.ex
  obtain ⟨oc', od', kV', doc', pm', an', cdv', ct', osl', e', lk', hcd'⟩ := F'.ex
  rw [lk] at lk'
  cases lk'
  exact h
theorem cx_no {P : Program} {w : World} {H : Hp} {s : Shared} {e : Value} {s' : Shared} (h : L2.CX P w [] H s (fun _ _ _ => False) e s') : False := by
  obtain ⟨_, _, _, _, _, _, _, _, _, _, _, _, h⟩ := h
  exact h
end MM

namespace N
open PySem PySem.Spec PyProof.Rows L2 GB MM
section
variable {P : Program} {w : World} {K : PySem.W.Frag} {mg : Str → Option Value} {base : Heap}
theorem ok_ini_InvalidCosts {C fI : Addr} {fd : FuncData} (F : Fun K "__init__" "InvalidCosts.__init__" s_InvalidCosts_init fI fd) (O : OexC K C) (no : PySem.W.findIn K (.ref C) "given" = some none) : FnOk P w K mg base (L2.CX P w) 1 fI fd ["self", "given"] (spInit C ["given"]) := by
  refine F.okX sc_InvalidCosts_init (fun vs H Q E h => ?_) (fun cdv A outer s H vs Q E hr h => ?_)
  · obtain ⟨a, ws, rfl, hl, _⟩ := h
    match ws, hl with
    | [_], _ => rfl
  · obtain ⟨a, ws, rfl, hl, ha, k⟩ := h
    match ws, hl, k with
    | [v], _, k =>
      refine ⟨_, PSs.nox (pss_one (ps_ost (pv 0) (pv 1))), ?_⟩
      refine ⟨_, rfl, _, rfl, a, C, rfl, O, no, .inl ⟨ha, fun d nd nda => ?_⟩⟩
      refine k _ d (fun b h1 h2 => ?_) nd nda upd_same ?_
      · rw [upd_ne h1, upd_ne h2]
      · rw [upd_ne nda, upd_same]
        rfl
theorem bd_ini_InvalidCosts {fI : Addr} {fd : FuncData} (F : Fun K "__init__" "InvalidCosts.__init__" s_InvalidCosts_init fI fd) : Binds K fd ["self", "given"] [] :=
  F.binds (ps := ["self", "given"]) fun _ _ _ _ _ _ us hl => match us, hl with | [_, _], _ => rfl
theorem er_InvalidCosts {C fI : Addr} {fd : FuncData} (F : Fun K "__init__" "InvalidCosts.__init__" s_InvalidCosts_init fI fd) (O : OexC K C) (no : PySem.W.findIn K (.ref C) "given" = some none) (ini : PySem.W.findIn K (.ref C) "__init__" = some (some (.ref fI)))
    (ty : PySem.W.typeIn K (.ref fI) = some (.type "function")) (gm : mg "InvalidCosts" = some (.ref C)) (xf : XfC K C) : Er P w K mg base "InvalidCosts" C ["given"] :=
  ⟨O, ⟨fI, fd, ini, ty, ok_ini_InvalidCosts F O no, bd_ini_InvalidCosts F⟩, gm, xf, fun f hf => by rw [List.mem_singleton.mp hf]; exact no, by decide⟩
theorem ok_ini_InvalidSlots {C fI : Addr} {fd : FuncData} (F : Fun K "__init__" "InvalidSlots.__init__" s_InvalidSlots_init fI fd) (O : OexC K C) (no : PySem.W.findIn K (.ref C) "given" = some none) : FnOk P w K mg base (L2.CX P w) 1 fI fd ["self", "given"] (spInit C ["given"]) := by
  refine F.okX sc_InvalidSlots_init (fun vs H Q E h => ?_) (fun cdv A outer s H vs Q E hr h => ?_)
  · obtain ⟨a, ws, rfl, hl, _⟩ := h
    match ws, hl with
    | [_], _ => rfl
  · obtain ⟨a, ws, rfl, hl, ha, k⟩ := h
    match ws, hl, k with
    | [v], _, k =>
      refine ⟨_, PSs.nox (pss_one (ps_ost (pv 0) (pv 1))), ?_⟩
      refine ⟨_, rfl, _, rfl, a, C, rfl, O, no, .inl ⟨ha, fun d nd nda => ?_⟩⟩
      refine k _ d (fun b h1 h2 => ?_) nd nda upd_same ?_
      · rw [upd_ne h1, upd_ne h2]
      · rw [upd_ne nda, upd_same]
        rfl
theorem bd_ini_InvalidSlots {fI : Addr} {fd : FuncData} (F : Fun K "__init__" "InvalidSlots.__init__" s_InvalidSlots_init fI fd) : Binds K fd ["self", "given"] [] :=
  F.binds (ps := ["self", "given"]) fun _ _ _ _ _ _ us hl => match us, hl with | [_, _], _ => rfl
theorem er_InvalidSlots {C fI : Addr} {fd : FuncData} (F : Fun K "__init__" "InvalidSlots.__init__" s_InvalidSlots_init fI fd) (O : OexC K C) (no : PySem.W.findIn K (.ref C) "given" = some none) (ini : PySem.W.findIn K (.ref C) "__init__" = some (some (.ref fI)))
    (ty : PySem.W.typeIn K (.ref fI) = some (.type "function")) (gm : mg "InvalidSlots" = some (.ref C)) (xf : XfC K C) : Er P w K mg base "InvalidSlots" C ["given"] :=
  ⟨O, ⟨fI, fd, ini, ty, ok_ini_InvalidSlots F O no, bd_ini_InvalidSlots F⟩, gm, xf, fun f hf => by rw [List.mem_singleton.mp hf]; exact no, by decide⟩
end
/-! ### what the top has written; the end -/
theorem all_mk {l : PySem.W.OpenLaw} {w : World} {K : PySem.W.Frag} {h : Heap} {mg : Str → Option Value} {fa : Addr} (X : K.In h) (G : h.Ns mainGlobals mg) (hfa : mg "law" = some (.ref fa))
    {C0 I0 N0 : Addr} {nm0 q0 : Str} {bs0 bm0 sub0 : List Value} {sn0 : List Str} {ab0 : Bool} {col0 : Option Bool} {dd0 odi0 ani0 : Option Addr} {w00 w10 w20 w30 w50 : Option Value} {sli0 : Array (Option Value)} {oci0 kVi0 dci0 pmi0 cdi0 cti0 : Value}
    {C1 I1 N1 : Addr} {nm1 q1 : Str} {bs1 bm1 sub1 : List Value} {sn1 : List Str} {ab1 : Bool} {col1 : Option Bool} {dd1 odi1 ani1 : Option Addr} {w01 w11 w21 w31 w51 : Option Value} {sli1 : Array (Option Value)} {oci1 kVi1 dci1 pmi1 cdi1 cti1 : Value}
    {f0 : Addr} {od0 an0 : Option Addr} {sl0 : Array (Option Value)} {oc0 kV0 dc0 pm0 cd0 ct0 : Value}
    {f1 : Addr} {od1 an1 : Option Addr} {sl1 : Array (Option Value)} {oc1 kV1 dc1 pm1 cd1 ct1 : Value}
    {f2 : Addr} {od2 an2 : Option Addr} {sl2 : Array (Option Value)} {oc2 kV2 dc2 pm2 cd2 ct2 : Value}
    {f3 : Addr} {od3 an3 : Option Addr} {sl3 : Array (Option Value)} {oc3 kV3 dc3 pm3 cd3 ct3 : Value}
    {f4 : Addr} {od4 an4 : Option Addr} {sl4 : Array (Option Value)} {oc4 kV4 dc4 pm4 cd4 ct4 : Value}
    {f5 : Addr} {od5 an5 : Option Addr} {sl5 : Array (Option Value)} {oc5 kV5 dc5 pm5 cd5 ct5 : Value}
    {f6 : Addr} {od6 an6 : Option Addr} {sl6 : Array (Option Value)} {oc6 kV6 dc6 pm6 cd6 ct6 : Value}
    {f7 : Addr} {od7 an7 : Option Addr} {sl7 : Array (Option Value)} {oc7 kV7 dc7 pm7 cd7 ct7 : Value}
    {f8 : Addr} {od8 an8 : Option Addr} {sl8 : Array (Option Value)} {oc8 kV8 dc8 pm8 cd8 ct8 : Value}
    {f9 : Addr} {od9 an9 : Option Addr} {sl9 : Array (Option Value)} {oc9 kV9 dc9 pm9 cd9 ct9 : Value}
    {f10 : Addr} {od10 an10 : Option Addr} {sl10 : Array (Option Value)} {oc10 kV10 dc10 pm10 cd10 ct10 : Value}
    {f11 : Addr} {od11 an11 : Option Addr} {sl11 : Array (Option Value)} {oc11 kV11 dc11 pm11 cd11 ct11 : Value}
    {f12 : Addr} {od12 an12 : Option Addr} {sl12 : Array (Option Value)} {oc12 kV12 dc12 pm12 cd12 ct12 : Value}
    {f13 : Addr} {od13 an13 : Option Addr} {sl13 : Array (Option Value)} {oc13 kV13 dc13 pm13 cd13 ct13 : Value}
    {f14 : Addr} {od14 an14 : Option Addr} {sl14 : Array (Option Value)} {oc14 kV14 dc14 pm14 cd14 ct14 : Value}
    {f15 : Addr} {od15 an15 : Option Addr} {sl15 : Array (Option Value)} {oc15 kV15 dc15 pm15 cd15 ct15 : Value}
    {f16 : Addr} {od16 an16 : Option Addr} {sl16 : Array (Option Value)} {oc16 kV16 dc16 pm16 cd16 ct16 : Value}
    {f17 : Addr} {od17 an17 : Option Addr} {sl17 : Array (Option Value)} {oc17 kV17 dc17 pm17 cd17 ct17 : Value}
    {f18 : Addr} {od18 an18 : Option Addr} {sl18 : Array (Option Value)} {oc18 kV18 dc18 pm18 cd18 ct18 : Value}
    {f19 : Addr} {od19 an19 : Option Addr} {sl19 : Array (Option Value)} {oc19 kV19 dc19 pm19 cd19 ct19 : Value}
    {f20 : Addr} {od20 an20 : Option Addr} {sl20 : Array (Option Value)} {oc20 kV20 dc20 pm20 cd20 ct20 : Value}
    {f21 : Addr} {od21 an21 : Option Addr} {sl21 : Array (Option Value)} {oc21 kV21 dc21 pm21 cd21 ct21 : Value}
    {f22 : Addr} {od22 an22 : Option Addr} {sl22 : Array (Option Value)} {oc22 kV22 dc22 pm22 cd22 ct22 : Value}
    {f23 : Addr} {od23 an23 : Option Addr} {sl23 : Array (Option Value)} {oc23 kV23 dc23 pm23 cd23 ct23 : Value}
    {f24 : Addr} {od24 an24 : Option Addr} {sl24 : Array (Option Value)} {oc24 kV24 dc24 pm24 cd24 ct24 : Value}
    {f25 : Addr} {od25 an25 : Option Addr} {sl25 : Array (Option Value)} {oc25 kV25 dc25 pm25 cd25 ct25 : Value}
    {f26 : Addr} {od26 an26 : Option Addr} {sl26 : Array (Option Value)} {oc26 kV26 dc26 pm26 cd26 ct26 : Value}
    {tg0 : _}
    {tg1 : _}
    {tg2 : _}
    (aC0 : PySem.W.nsIn K mainGlobals "InvalidCosts" = some (some (.ref C0)))
    (eC0 : PySem.W.subIn K (.ref C0) (.type "BaseException") = some true)
    (tC0 : PySem.W.typeIn K (.ref C0) = some (.type "type"))
    (iC0 : PySem.W.isClsIn K C0 = true)
    (xL0 : K.lookup C0 = some (excClassObj nm0 q0 C0 N0 bs0 bm0 true sn0 sub0 ab0 col0 dd0 w00 w10 w20 w30 w50 "ValueError.__new__"))
    (rV0 : PySem.HandSPX.refsVE bm0 = true)
    (sa0 : PySem.W.findIn K (.ref C0) "__setattr__" = some (some (.builtin "object.__setattr__")))
    (ga0 : PySem.W.findIn K (.ref C0) "__getattribute__" = some (some (.builtin "BaseException.__getattribute__")))
    (gg0 : PySem.W.findIn K (.ref C0) "__getattr__" = some none)
    (kC0 : PySem.W.keepIn K (.ref C0) = true)
    (hC0 : PySem.W.hasDictIn K C0 = true)
    (aI0 : PySem.W.findIn K (.ref C0) "__init__" = some (some (.ref I0)))
    (tI0 : PySem.W.typeIn K (.ref I0) = some (.type "function"))
    (lI0 : K.lookup I0 = some ⟨oci0, odi0, .func (PySem.W.fnOf "__init__" "InvalidCosts.__init__" (defArgs s_InvalidCosts_init) (defBody s_InvalidCosts_init) (defScope s_InvalidCosts_init) .none kVi0 dci0 pmi0 ani0 cdi0 cti0), sli0⟩)
    (cI0 : PySem.W.codeIn K cdi0 "InvalidCosts.__init__" = true)
    (kI0 : PySem.W.keepIn K (.ref I0) = true)
    (nF00 : PySem.W.findIn K (.ref C0) "given" = some none)
    (aC1 : PySem.W.nsIn K mainGlobals "InvalidSlots" = some (some (.ref C1)))
    (eC1 : PySem.W.subIn K (.ref C1) (.type "BaseException") = some true)
    (tC1 : PySem.W.typeIn K (.ref C1) = some (.type "type"))
    (iC1 : PySem.W.isClsIn K C1 = true)
    (xL1 : K.lookup C1 = some (excClassObj nm1 q1 C1 N1 bs1 bm1 true sn1 sub1 ab1 col1 dd1 w01 w11 w21 w31 w51 "ValueError.__new__"))
    (rV1 : PySem.HandSPX.refsVE bm1 = true)
    (sa1 : PySem.W.findIn K (.ref C1) "__setattr__" = some (some (.builtin "object.__setattr__")))
    (ga1 : PySem.W.findIn K (.ref C1) "__getattribute__" = some (some (.builtin "BaseException.__getattribute__")))
    (gg1 : PySem.W.findIn K (.ref C1) "__getattr__" = some none)
    (kC1 : PySem.W.keepIn K (.ref C1) = true)
    (hC1 : PySem.W.hasDictIn K C1 = true)
    (aI1 : PySem.W.findIn K (.ref C1) "__init__" = some (some (.ref I1)))
    (tI1 : PySem.W.typeIn K (.ref I1) = some (.type "function"))
    (lI1 : K.lookup I1 = some ⟨oci1, odi1, .func (PySem.W.fnOf "__init__" "InvalidSlots.__init__" (defArgs s_InvalidSlots_init) (defBody s_InvalidSlots_init) (defScope s_InvalidSlots_init) .none kVi1 dci1 pmi1 ani1 cdi1 cti1), sli1⟩)
    (cI1 : PySem.W.codeIn K cdi1 "InvalidSlots.__init__" = true)
    (kI1 : PySem.W.keepIn K (.ref I1) = true)
    (nF10 : PySem.W.findIn K (.ref C1) "given" = some none)
    (s_InvalidCosts_InvalidCosts : PySem.W.subIn K (.ref C0) (.ref C0) = some true)
    (s_InvalidCosts_InvalidSlots : PySem.W.subIn K (.ref C0) (.ref C1) = some false)
    (s_InvalidSlots_InvalidCosts : PySem.W.subIn K (.ref C1) (.ref C0) = some false)
    (s_InvalidSlots_InvalidSlots : PySem.W.subIn K (.ref C1) (.ref C1) = some true)
    (a0 : PySem.W.nsIn K mainGlobals "is_integer" = some (some (.ref f0)))
    (l0 : K.lookup f0 = some ⟨oc0, od0, .func (PySem.W.fnOf "is_integer" "is_integer" (defArgs s_is_integer) (defBody s_is_integer) (defScope s_is_integer) .none kV0 dc0 pm0 an0 cd0 ct0), sl0⟩)
    (c0 : PySem.W.codeIn K cd0 "is_integer" = true)
    (k0 : PySem.W.keepIn K (.ref f0) = true)
    (a1 : PySem.W.nsIn K mainGlobals "is_between" = some (some (.ref f1)))
    (l1 : K.lookup f1 = some ⟨oc1, od1, .func (PySem.W.fnOf "is_between" "is_between" (defArgs s_is_between) (defBody s_is_between) (defScope s_is_between) .none kV1 dc1 pm1 an1 cd1 ct1), sl1⟩)
    (c1 : PySem.W.codeIn K cd1 "is_between" = true)
    (k1 : PySem.W.keepIn K (.ref f1) = true)
    (a2 : PySem.W.nsIn K mainGlobals "is_list" = some (some (.ref f2)))
    (l2 : K.lookup f2 = some ⟨oc2, od2, .func (PySem.W.fnOf "is_list" "is_list" (defArgs s_is_list) (defBody s_is_list) (defScope s_is_list) .none kV2 dc2 pm2 an2 cd2 ct2), sl2⟩)
    (c2 : PySem.W.codeIn K cd2 "is_list" = true)
    (k2 : PySem.W.keepIn K (.ref f2) = true)
    (a3 : PySem.W.nsIn K mainGlobals "are_costs" = some (some (.ref f3)))
    (l3 : K.lookup f3 = some ⟨oc3, od3, .func (PySem.W.fnOf "are_costs" "are_costs" (defArgs s_are_costs) (defBody s_are_costs) (defScope s_are_costs) .none kV3 dc3 pm3 an3 cd3 ct3), sl3⟩)
    (c3 : PySem.W.codeIn K cd3 "are_costs" = true)
    (k3 : PySem.W.keepIn K (.ref f3) = true)
    (a4 : PySem.W.nsIn K mainGlobals "check_costs" = some (some (.ref f4)))
    (l4 : K.lookup f4 = some ⟨oc4, od4, .func (PySem.W.fnOf "check_costs" "check_costs" (defArgs s_check_costs) (defBody s_check_costs) (defScope s_check_costs) .none kV4 dc4 pm4 an4 cd4 ct4), sl4⟩)
    (c4 : PySem.W.codeIn K cd4 "check_costs" = true)
    (k4 : PySem.W.keepIn K (.ref f4) = true)
    (a5 : PySem.W.nsIn K mainGlobals "check_slots" = some (some (.ref f5)))
    (l5 : K.lookup f5 = some ⟨oc5, od5, .func (PySem.W.fnOf "check_slots" "check_slots" (defArgs s_check_slots) (defBody s_check_slots) (defScope s_check_slots) .none kV5 dc5 pm5 an5 cd5 ct5), sl5⟩)
    (c5 : PySem.W.codeIn K cd5 "check_slots" = true)
    (k5 : PySem.W.keepIn K (.ref f5) = true)
    (a6 : PySem.W.nsIn K mainGlobals "lone_row" = some (some (.ref f6)))
    (l6 : K.lookup f6 = some ⟨oc6, od6, .func (PySem.W.fnOf "lone_row" "lone_row" (defArgs s_lone_row) (defBody s_lone_row) (defScope s_lone_row) .none kV6 dc6 pm6 an6 cd6 ct6), sl6⟩)
    (c6 : PySem.W.codeIn K cd6 "lone_row" = true)
    (k6 : PySem.W.keepIn K (.ref f6) = true)
    (a7 : PySem.W.nsIn K mainGlobals "split_costs" = some (some (.ref f7)))
    (l7 : K.lookup f7 = some ⟨oc7, od7, .func (PySem.W.fnOf "split_costs" "split_costs" (defArgs s_split_costs) (defBody s_split_costs) (defScope s_split_costs) .none kV7 dc7 pm7 an7 cd7 ct7), sl7⟩)
    (c7 : PySem.W.codeIn K cd7 "split_costs" = true)
    (k7 : PySem.W.keepIn K (.ref f7) = true)
    (a8 : PySem.W.nsIn K mainGlobals "table_of" = some (some (.ref f8)))
    (l8 : K.lookup f8 = some ⟨oc8, od8, .func (PySem.W.fnOf "table_of" "table_of" (defArgs s_table_of) (defBody s_table_of) (defScope s_table_of) .none kV8 dc8 pm8 an8 cd8 ct8), sl8⟩)
    (c8 : PySem.W.codeIn K cd8 "table_of" = true)
    (k8 : PySem.W.keepIn K (.ref f8) = true)
    (a9 : PySem.W.nsIn K mainGlobals "least_cost" = some (some (.ref f9)))
    (l9 : K.lookup f9 = some ⟨oc9, od9, .func (PySem.W.fnOf "least_cost" "least_cost" (defArgs s_least_cost) (defBody s_least_cost) (defScope s_least_cost) .none kV9 dc9 pm9 an9 cd9 ct9), sl9⟩)
    (c9 : PySem.W.codeIn K cd9 "least_cost" = true)
    (k9 : PySem.W.keepIn K (.ref f9) = true)
    (a10 : PySem.W.nsIn K mainGlobals "cost_table" = some (some (.ref f10)))
    (l10 : K.lookup f10 = some ⟨oc10, od10, .func (PySem.W.fnOf "cost_table" "cost_table" (defArgs s_cost_table) (defBody s_cost_table) (defScope s_cost_table) .none kV10 dc10 pm10 an10 cd10 ct10), sl10⟩)
    (c10 : PySem.W.codeIn K cd10 "cost_table" = true)
    (k10 : PySem.W.keepIn K (.ref f10) = true)
    (a11 : PySem.W.nsIn K mainGlobals "are_numbers" = some (some (.ref f11)))
    (l11 : K.lookup f11 = some ⟨oc11, od11, .func (PySem.W.fnOf "are_numbers" "are_numbers" (defArgs s_are_numbers) (defBody s_are_numbers) (defScope s_are_numbers) .none kV11 dc11 pm11 an11 cd11 ct11), sl11⟩)
    (c11 : PySem.W.codeIn K cd11 "are_numbers" = true)
    (k11 : PySem.W.keepIn K (.ref f11) = true)
    (a12 : PySem.W.nsIn K mainGlobals "are_rows" = some (some (.ref f12)))
    (l12 : K.lookup f12 = some ⟨oc12, od12, .func (PySem.W.fnOf "are_rows" "are_rows" (defArgs s_are_rows) (defBody s_are_rows) (defScope s_are_rows) .none kV12 dc12 pm12 an12 cd12 ct12), sl12⟩)
    (c12 : PySem.W.codeIn K cd12 "are_rows" = true)
    (k12 : PySem.W.keepIn K (.ref f12) = true)
    (a13 : PySem.W.nsIn K mainGlobals "is_cost_table" = some (some (.ref f13)))
    (l13 : K.lookup f13 = some ⟨oc13, od13, .func (PySem.W.fnOf "is_cost_table" "is_cost_table" (defArgs s_is_cost_table) (defBody s_is_cost_table) (defScope s_is_cost_table) .none kV13 dc13 pm13 an13 cd13 ct13), sl13⟩)
    (c13 : PySem.W.codeIn K cd13 "is_cost_table" = true)
    (k13 : PySem.W.keepIn K (.ref f13) = true)
    (a14 : PySem.W.nsIn K mainGlobals "_law_cell" = some (some (.ref f14)))
    (l14 : K.lookup f14 = some ⟨oc14, od14, .func (PySem.W.fnOf "_law_cell" "_law_cell" (defArgs s__law_cell) (defBody s__law_cell) (defScope s__law_cell) .none kV14 dc14 pm14 an14 cd14 ct14), sl14⟩)
    (c14 : PySem.W.codeIn K cd14 "_law_cell" = true)
    (k14 : PySem.W.keepIn K (.ref f14) = true)
    (a15 : PySem.W.nsIn K mainGlobals "_law_box" = some (some (.ref f15)))
    (l15 : K.lookup f15 = some ⟨oc15, od15, .func (PySem.W.fnOf "_law_box" "_law_box" (defArgs s__law_box) (defBody s__law_box) (defScope s__law_box) .none kV15 dc15 pm15 an15 cd15 ct15), sl15⟩)
    (c15 : PySem.W.codeIn K cd15 "_law_box" = true)
    (k15 : PySem.W.keepIn K (.ref f15) = true)
    (a16 : PySem.W.nsIn K mainGlobals "_law_take" = some (some (.ref f16)))
    (l16 : K.lookup f16 = some ⟨oc16, od16, .func (PySem.W.fnOf "_law_take" "_law_take" (defArgs s__law_take) (defBody s__law_take) (defScope s__law_take) .none kV16 dc16 pm16 an16 cd16 ct16), sl16⟩)
    (c16 : PySem.W.codeIn K cd16 "_law_take" = true)
    (k16 : PySem.W.keepIn K (.ref f16) = true)
    (a17 : PySem.W.nsIn K mainGlobals "_law_table" = some (some (.ref f17)))
    (l17 : K.lookup f17 = some ⟨oc17, od17, .func (PySem.W.fnOf "_law_table" "_law_table" (defArgs s__law_table) (defBody s__law_table) (defScope s__law_table) .none kV17 dc17 pm17 an17 cd17 ct17), sl17⟩)
    (c17 : PySem.W.codeIn K cd17 "_law_table" = true)
    (k17 : PySem.W.keepIn K (.ref f17) = true)
    (a18 : PySem.W.nsIn K mainGlobals "_law_copy" = some (some (.ref f18)))
    (l18 : K.lookup f18 = some ⟨oc18, od18, .func (PySem.W.fnOf "_law_copy" "_law_copy" (defArgs s__law_copy) (defBody s__law_copy) (defScope s__law_copy) .none kV18 dc18 pm18 an18 cd18 ct18), sl18⟩)
    (c18 : PySem.W.codeIn K cd18 "_law_copy" = true)
    (k18 : PySem.W.keepIn K (.ref f18) = true)
    (a19 : PySem.W.nsIn K mainGlobals "_law_same" = some (some (.ref f19)))
    (l19 : K.lookup f19 = some ⟨oc19, od19, .func (PySem.W.fnOf "_law_same" "_law_same" (defArgs s__law_same) (defBody s__law_same) (defScope s__law_same) .none kV19 dc19 pm19 an19 cd19 ct19), sl19⟩)
    (c19 : PySem.W.codeIn K cd19 "_law_same" = true)
    (k19 : PySem.W.keepIn K (.ref f19) = true)
    (a20 : PySem.W.nsIn K mainGlobals "_law_grown" = some (some (.ref f20)))
    (l20 : K.lookup f20 = some ⟨oc20, od20, .func (PySem.W.fnOf "_law_grown" "_law_grown" (defArgs s__law_grown) (defBody s__law_grown) (defScope s__law_grown) .none kV20 dc20 pm20 an20 cd20 ct20), sl20⟩)
    (c20 : PySem.W.codeIn K cd20 "_law_grown" = true)
    (k20 : PySem.W.keepIn K (.ref f20) = true)
    (a21 : PySem.W.nsIn K mainGlobals "_law_values" = some (some (.ref f21)))
    (l21 : K.lookup f21 = some ⟨oc21, od21, .func (PySem.W.fnOf "_law_values" "_law_values" (defArgs s__law_values) (defBody s__law_values) (defScope s__law_values) .none kV21 dc21 pm21 an21 cd21 ct21), sl21⟩)
    (c21 : PySem.W.codeIn K cd21 "_law_values" = true)
    (k21 : PySem.W.keepIn K (.ref f21) = true)
    (a22 : PySem.W.nsIn K mainGlobals "_law_is_table" = some (some (.ref f22)))
    (l22 : K.lookup f22 = some ⟨oc22, od22, .func (PySem.W.fnOf "_law_is_table" "_law_is_table" (defArgs s__law_is_table) (defBody s__law_is_table) (defScope s__law_is_table) .none kV22 dc22 pm22 an22 cd22 ct22), sl22⟩)
    (c22 : PySem.W.codeIn K cd22 "_law_is_table" = true)
    (k22 : PySem.W.keepIn K (.ref f22) = true)
    (a23 : PySem.W.nsIn K mainGlobals "_law_met" = some (some (.ref f23)))
    (l23 : K.lookup f23 = some ⟨oc23, od23, .func (PySem.W.fnOf "_law_met" "_law_met" (defArgs s__law_met) (defBody s__law_met) (defScope s__law_met) .none kV23 dc23 pm23 an23 cd23 ct23), sl23⟩)
    (c23 : PySem.W.codeIn K cd23 "_law_met" = true)
    (k23 : PySem.W.keepIn K (.ref f23) = true)
    (a24 : PySem.W.nsIn K mainGlobals "_law_table_right" = some (some (.ref f24)))
    (l24 : K.lookup f24 = some ⟨oc24, od24, .func (PySem.W.fnOf "_law_table_right" "_law_table_right" (defArgs s__law_table_right) (defBody s__law_table_right) (defScope s__law_table_right) .none kV24 dc24 pm24 an24 cd24 ct24), sl24⟩)
    (c24 : PySem.W.codeIn K cd24 "_law_table_right" = true)
    (k24 : PySem.W.keepIn K (.ref f24) = true)
    (a25 : PySem.W.nsIn K mainGlobals "_law_refused_right" = some (some (.ref f25)))
    (l25 : K.lookup f25 = some ⟨oc25, od25, .func (PySem.W.fnOf "_law_refused_right" "_law_refused_right" (defArgs s__law_refused_right) (defBody s__law_refused_right) (defScope s__law_refused_right) .none kV25 dc25 pm25 an25 cd25 ct25), sl25⟩)
    (c25 : PySem.W.codeIn K cd25 "_law_refused_right" = true)
    (k25 : PySem.W.keepIn K (.ref f25) = true)
    (a26 : PySem.W.nsIn K mainGlobals "law" = some (some (.ref f26)))
    (l26 : K.lookup f26 = some ⟨oc26, od26, .func (PySem.W.fnOf "law" "law" (defArgs s_law) (defBody s_law) (defScope s_law) .none kV26 dc26 pm26 an26 cd26 ct26), sl26⟩)
    (c26 : PySem.W.codeIn K cd26 "law" = true)
    (k26 : PySem.W.keepIn K (.ref f26) = true)
    (gl0 : PySem.W.nsIn K mainGlobals "MOST_COST" = some (some (.int (1000000) tg0)))
    (gl1 : PySem.W.nsIn K mainGlobals "MOST_ROUNDS" = some (some (.int (60) tg1)))
    (gl2 : PySem.W.nsIn K mainGlobals "MOST_SLOTS" = some (some (.int (40) tg2)))
    (z_isinstance : PySem.W.nsIn K mainGlobals "isinstance" = some none)
    (z_bool : PySem.W.nsIn K mainGlobals "bool" = some none)
    (z_int : PySem.W.nsIn K mainGlobals "int" = some none)
    (z_str : PySem.W.nsIn K mainGlobals "str" = some none)
    (z_dict : PySem.W.nsIn K mainGlobals "dict" = some none)
    (z_list : PySem.W.nsIn K mainGlobals "list" = some none)
    (z_tuple : PySem.W.nsIn K mainGlobals "tuple" = some none)
    (z_len : PySem.W.nsIn K mainGlobals "len" = some none)
    (z_range : PySem.W.nsIn K mainGlobals "range" = some none)
    (z_sum : PySem.W.nsIn K mainGlobals "sum" = some none)
    (z_min : PySem.W.nsIn K mainGlobals "min" = some none)
    (z_max : PySem.W.nsIn K mainGlobals "max" = some none)
    (z_all : PySem.W.nsIn K mainGlobals "all" = some none)
    (z_any : PySem.W.nsIn K mainGlobals "any" = some none)
    (z_abs : PySem.W.nsIn K mainGlobals "abs" = some none)
    (z_enumerate : PySem.W.nsIn K mainGlobals "enumerate" = some none)
    (z_zip : PySem.W.nsIn K mainGlobals "zip" = some none) :
    ∃ fd : FuncData, (∀ (s : Shared) (v : Value), BindsTo s fd ⟨[v], []⟩ [("script", v)]) ∧ ∀ base : Heap, K.In base → base.Ns mainGlobals mg → FnOk l.prog w K mg base (L2.CX l.prog w) 12 fa fd ["script"] (fun vs H Q E => ∀ mg, spM K mg 1 F_law vs H Q E) := by
  have e := hfa.symm.trans (PySem.W.mg_of X G a26)
  cases e
  have B : Bi mg := ⟨PySem.W.mg_none_of X G z_isinstance, PySem.W.mg_none_of X G z_bool, PySem.W.mg_none_of X G z_int, PySem.W.mg_none_of X G z_str, PySem.W.mg_none_of X G z_dict, PySem.W.mg_none_of X G z_list, PySem.W.mg_none_of X G z_tuple, PySem.W.mg_none_of X G z_len, PySem.W.mg_none_of X G z_range, PySem.W.mg_none_of X G z_sum, PySem.W.mg_none_of X G z_min, PySem.W.mg_none_of X G z_max, PySem.W.mg_none_of X G z_all, PySem.W.mg_none_of X G z_any, PySem.W.mg_none_of X G z_abs, PySem.W.mg_none_of X G z_enumerate, PySem.W.mg_none_of X G z_zip⟩
  have A_is_integer : At K mg "is_integer" s_is_integer := ⟨_, _, fun_mk (st := s_is_integer) l0 c0 k0, PySem.W.mg_of X G a0⟩
  have A_is_between : At K mg "is_between" s_is_between := ⟨_, _, fun_mk (st := s_is_between) l1 c1 k1, PySem.W.mg_of X G a1⟩
  have A_is_list : At K mg "is_list" s_is_list := ⟨_, _, fun_mk (st := s_is_list) l2 c2 k2, PySem.W.mg_of X G a2⟩
  have A_are_costs : At K mg "are_costs" s_are_costs := ⟨_, _, fun_mk (st := s_are_costs) l3 c3 k3, PySem.W.mg_of X G a3⟩
  have A_check_costs : At K mg "check_costs" s_check_costs := ⟨_, _, fun_mk (st := s_check_costs) l4 c4 k4, PySem.W.mg_of X G a4⟩
  have A_check_slots : At K mg "check_slots" s_check_slots := ⟨_, _, fun_mk (st := s_check_slots) l5 c5 k5, PySem.W.mg_of X G a5⟩
  have A_lone_row : At K mg "lone_row" s_lone_row := ⟨_, _, fun_mk (st := s_lone_row) l6 c6 k6, PySem.W.mg_of X G a6⟩
  have A_split_costs : At K mg "split_costs" s_split_costs := ⟨_, _, fun_mk (st := s_split_costs) l7 c7 k7, PySem.W.mg_of X G a7⟩
  have A_table_of : At K mg "table_of" s_table_of := ⟨_, _, fun_mk (st := s_table_of) l8 c8 k8, PySem.W.mg_of X G a8⟩
  have A_least_cost : At K mg "least_cost" s_least_cost := ⟨_, _, fun_mk (st := s_least_cost) l9 c9 k9, PySem.W.mg_of X G a9⟩
  have A_cost_table : At K mg "cost_table" s_cost_table := ⟨_, _, fun_mk (st := s_cost_table) l10 c10 k10, PySem.W.mg_of X G a10⟩
  have A_are_numbers : At K mg "are_numbers" s_are_numbers := ⟨_, _, fun_mk (st := s_are_numbers) l11 c11 k11, PySem.W.mg_of X G a11⟩
  have A_are_rows : At K mg "are_rows" s_are_rows := ⟨_, _, fun_mk (st := s_are_rows) l12 c12 k12, PySem.W.mg_of X G a12⟩
  have A_is_cost_table : At K mg "is_cost_table" s_is_cost_table := ⟨_, _, fun_mk (st := s_is_cost_table) l13 c13 k13, PySem.W.mg_of X G a13⟩
  have A__law_cell : At K mg "_law_cell" s__law_cell := ⟨_, _, fun_mk (st := s__law_cell) l14 c14 k14, PySem.W.mg_of X G a14⟩
  have A__law_box : At K mg "_law_box" s__law_box := ⟨_, _, fun_mk (st := s__law_box) l15 c15 k15, PySem.W.mg_of X G a15⟩
  have A__law_take : At K mg "_law_take" s__law_take := ⟨_, _, fun_mk (st := s__law_take) l16 c16 k16, PySem.W.mg_of X G a16⟩
  have A__law_table : At K mg "_law_table" s__law_table := ⟨_, _, fun_mk (st := s__law_table) l17 c17 k17, PySem.W.mg_of X G a17⟩
  have A__law_copy : At K mg "_law_copy" s__law_copy := ⟨_, _, fun_mk (st := s__law_copy) l18 c18 k18, PySem.W.mg_of X G a18⟩
  have A__law_same : At K mg "_law_same" s__law_same := ⟨_, _, fun_mk (st := s__law_same) l19 c19 k19, PySem.W.mg_of X G a19⟩
  have A__law_grown : At K mg "_law_grown" s__law_grown := ⟨_, _, fun_mk (st := s__law_grown) l20 c20 k20, PySem.W.mg_of X G a20⟩
  have A__law_values : At K mg "_law_values" s__law_values := ⟨_, _, fun_mk (st := s__law_values) l21 c21 k21, PySem.W.mg_of X G a21⟩
  have A__law_is_table : At K mg "_law_is_table" s__law_is_table := ⟨_, _, fun_mk (st := s__law_is_table) l22 c22 k22, PySem.W.mg_of X G a22⟩
  have A__law_met : At K mg "_law_met" s__law_met := ⟨_, _, fun_mk (st := s__law_met) l23 c23 k23, PySem.W.mg_of X G a23⟩
  have A__law_table_right : At K mg "_law_table_right" s__law_table_right := ⟨_, _, fun_mk (st := s__law_table_right) l24 c24 k24, PySem.W.mg_of X G a24⟩
  have A__law_refused_right : At K mg "_law_refused_right" s__law_refused_right := ⟨_, _, fun_mk (st := s__law_refused_right) l25 c25 k25, PySem.W.mg_of X G a25⟩
  have A_law : At K mg "law" s_law := ⟨_, _, fun_mk (st := s_law) l26 c26 k26, PySem.W.mg_of X G a26⟩
  have g_MOST_COST := PySem.W.mg_of X G gl0
  have g_MOST_ROUNDS := PySem.W.mg_of X G gl1
  have g_MOST_SLOTS := PySem.W.mg_of X G gl2
  have c_InvalidCosts := PySem.W.mg_of X G aC0
  have FI0 := fun_mk (st := s_InvalidCosts_init) lI0 cI0 kI0
  have O0 : OexC K C0 := ⟨⟨nm0, q0, N0, bs0, bm0, sn0, sub0, ab0, col0, dd0, w00, w10, w20, w30, w50, xL0, rV0⟩, sa0, eC0, tC0, kC0⟩
  have XF0 : XfC K C0 := ⟨ga0, gg0, eC0, hC0⟩
  have c_InvalidSlots := PySem.W.mg_of X G aC1
  have FI1 := fun_mk (st := s_InvalidSlots_init) lI1 cI1 kI1
  have O1 : OexC K C1 := ⟨⟨nm1, q1, N1, bs1, bm1, sn1, sub1, ab1, col1, dd1, w01, w11, w21, w31, w51, xL1, rV1⟩, sa1, eC1, tC1, kC1⟩
  have XF1 : XfC K C1 := ⟨ga1, gg1, eC1, hC1⟩
  have E_InvalidCosts_InvalidCosts := exm_pair (b := true) eC0 iC0 tC0 s_InvalidCosts_InvalidCosts
  have E_InvalidCosts_InvalidSlots := exm_pair (b := false) eC1 iC1 tC1 s_InvalidCosts_InvalidSlots
  have E_InvalidSlots_InvalidCosts := exm_pair (b := false) eC0 iC0 tC0 s_InvalidSlots_InvalidCosts
  have E_InvalidSlots_InvalidSlots := exm_pair (b := true) eC1 iC1 tC1 s_InvalidSlots_InvalidSlots
  have et : EtOk K mg etab := by
    intro e he C hC
    simp only [etab, List.mem_cons, List.not_mem_nil, or_false] at he
    rcases he with rfl | rfl
    · have q : C = C0 := by rw [c_InvalidCosts] at hC; cases hC; rfl
      rw [q]
      refine ⟨XF0, fun f hf => ?_, fun p hp D hD => ?_⟩
      · simp only [List.mem_cons, List.not_mem_nil, or_false] at hf
        rcases hf with rfl
        · exact nF00
      · simp only [List.mem_cons, List.not_mem_nil, or_false] at hp
        rcases hp with rfl | rfl
        · have q : D = C0 := by rw [c_InvalidCosts] at hD; cases hD; rfl
          rw [q]
          exact E_InvalidCosts_InvalidCosts
        · have q : D = C1 := by rw [c_InvalidSlots] at hD; cases hD; rfl
          rw [q]
          exact E_InvalidCosts_InvalidSlots
    · have q : C = C1 := by rw [c_InvalidSlots] at hC; cases hC; rfl
      rw [q]
      refine ⟨XF1, fun f hf => ?_, fun p hp D hD => ?_⟩
      · simp only [List.mem_cons, List.not_mem_nil, or_false] at hf
        rcases hf with rfl
        · exact nF10
      · simp only [List.mem_cons, List.not_mem_nil, or_false] at hp
        rcases hp with rfl | rfl
        · have q : D = C0 := by rw [c_InvalidCosts] at hD; cases hD; rfl
          rw [q]
          exact E_InvalidSlots_InvalidCosts
        · have q : D = C1 := by rw [c_InvalidSlots] at hD; cases hD; rfl
          rw [q]
          exact E_InvalidSlots_InvalidSlots
  refine ⟨PySem.W.fnOf "law" "law" (defArgs s_law) (defBody s_law) (defScope s_law) .none kV26 dc26 pm26 an26 cd26 ct26, fun s v => .of_eq rfl, fun base _ _ => ?_⟩
  have e_InvalidCosts : Er l.prog w K mg base "InvalidCosts" C0 ["given"] := er_InvalidCosts FI0 O0 nF00 aI0 tI0 c_InvalidCosts XF0
  have e_InvalidSlots : Er l.prog w K mg base "InvalidSlots" C1 ["given"] := er_InvalidSlots FI1 O1 nF10 aI1 tI1 c_InvalidSlots XF1
  have d_is_integer := df_is_integer (P := l.prog) (w := w) (base := base) A_is_integer B
  have d_is_between := df_is_between (P := l.prog) (w := w) (base := base) A_is_between B d_is_integer
  have d_is_list := df_is_list (P := l.prog) (w := w) (base := base) A_is_list B
  have d_are_costs := df_are_costs (P := l.prog) (w := w) (base := base) A_are_costs B d_is_between d_is_list ⟨_, g_MOST_COST⟩ ⟨_, g_MOST_ROUNDS⟩
  have d_check_costs := df_check_costs (P := l.prog) (w := w) (base := base) A_check_costs B d_are_costs e_InvalidCosts
  have d_check_slots := df_check_slots (P := l.prog) (w := w) (base := base) A_check_slots B d_is_between ⟨_, g_MOST_SLOTS⟩ e_InvalidSlots
  have d_lone_row := df_lone_row (P := l.prog) (w := w) (base := base) A_lone_row B
  have d_split_costs := df_split_costs (P := l.prog) (w := w) (base := base) A_split_costs B
  have d_table_of := df_table_of (P := l.prog) (w := w) (base := base) A_table_of B d_lone_row d_split_costs
  have d_least_cost := df_least_cost (P := l.prog) (w := w) (base := base) A_least_cost B d_check_costs d_check_slots d_table_of
  have d_cost_table := df_cost_table (P := l.prog) (w := w) (base := base) A_cost_table B d_check_costs d_check_slots d_table_of
  have d_are_numbers := df_are_numbers (P := l.prog) (w := w) (base := base) A_are_numbers B d_is_integer d_is_list
  have d_are_rows := df_are_rows (P := l.prog) (w := w) (base := base) A_are_rows B d_are_numbers d_is_list
  have d_is_cost_table := df_is_cost_table (P := l.prog) (w := w) (base := base) A_is_cost_table B d_are_rows d_check_costs d_check_slots d_is_list d_table_of
  have d__law_cell := df__law_cell (P := l.prog) (w := w) (base := base) A__law_cell B
  have d__law_box := df__law_box (P := l.prog) (w := w) (base := base) A__law_box B
  have d__law_take := df__law_take (P := l.prog) (w := w) (base := base) A__law_take B
  have d__law_table := df__law_table (P := l.prog) (w := w) (base := base) A__law_table B
  have d__law_copy := df__law_copy (P := l.prog) (w := w) (base := base) A__law_copy B
  have d__law_same := df__law_same (P := l.prog) (w := w) (base := base) A__law_same B
  have d__law_grown := df__law_grown (P := l.prog) (w := w) (base := base) A__law_grown B
  have d__law_values := df__law_values (P := l.prog) (w := w) (base := base) A__law_values B d__law_copy d__law_take
  have d__law_is_table := df__law_is_table (P := l.prog) (w := w) (base := base) A__law_is_table B d__law_same
  have d__law_met := df__law_met (P := l.prog) (w := w) (base := base) A__law_met B d_cost_table d_is_cost_table c_InvalidCosts c_InvalidSlots et
  have d__law_table_right := df__law_table_right (P := l.prog) (w := w) (base := base) A__law_table_right B d__law_is_table d__law_met d__law_same d__law_table d__law_values d_least_cost
  have d__law_refused_right := df__law_refused_right (P := l.prog) (w := w) (base := base) A__law_refused_right B d__law_grown d__law_met d__law_same d__law_take
  have d_law := df_law (P := l.prog) (w := w) (base := base) A_law B d__law_box d__law_cell d__law_refused_right d__law_table_right d__law_take
  exact (dn_fn d_law (fun_mk (st := s_law) l26 c26 k26) (PySem.W.mg_of X G a26)).imp fun vs H Q E z => z mg
theorem walk {l : PySem.W.OpenLaw} {q : Program} {loose : List Str} {XP : (Str → Option Value) → Heap → Prop} {YP : World → Heap → Prop} {d : DefRec} {K : Params → PySem.W.Frag} (hn : l.most = some 63) (hdf : d.params.defaults = [])
    (hY : ∀ (w : World) (h : Heap), YP w h → (K w.params).In h)
    (F : ∀ (w : World) (mg : Str → Option Value) (fa : Addr) (h : Heap), (K w.params).In h → h.Ns mainGlobals mg → mg d.name = some (.ref fa) →
      ∃ fd : FuncData, (∀ (s : Shared) (u : Value), BindsTo s fd ⟨[u], []⟩ [("script", u)]) ∧ ∀ base : Heap, (K w.params).In base → base.Ns mainGlobals mg → FnOk l.prog w (K w.params) mg base (L2.CX l.prog w) 12 fa fd ["script"] (fun vs H Q E => ∀ mg, spM (K w.params) mg 1 F_law vs H Q E)) :
    PySem.W.WalkO q loose XP YP l.row.toRowW d [] (fun f vs => PySem.call f vs) :=
  L2.walk_of (n := 63) (k := 12) (x := "script") (CX := fun w => L2.CX l.prog w) (sp := fun w vs H Q E => ∀ mg, spM (K w.params) mg 1 F_law vs H Q E) hn (by decide) hdf ⟨rfl, by decide, by decide⟩ hY F (fun _ _ a ns hl hO hS _ => sp_law (fun xs => ev_law) hl hO hS) fun _ _ _ _ _ z => cx_no z
end N
open PySem PySem.W PyProof.Rows in
set_option maxRecDepth 100000 in
set_option maxHeartbeats 0 in
theorem PySem.Challenge.cw_diffcompiler_k29_cost_tables_holds : PySem.Challenge.rw_diffcompiler_k29_cost_tables.Holds := by
  w_on; o_law; k_head; (case hw => w_witness2)
  k_fill
  refine N.walk (l := PySem.Challenge.rw_diffcompiler_k29_cost_tables) rfl rfl (fun w h Y => PySem.W.kIn_of Y) ?F
  case F =>
    intro w mg fa h KX G hmg
    refine' N.all_mk KX G hmg ?aC0 ?eC0 ?tC0 ?iC0 ?xL0 ?rV0 ?sa0 ?ga0 ?gg0 ?kC0 ?hC0 ?aI0 ?tI0 ?lI0 ?cI0 ?kI0 ?nF00 ?aC1 ?eC1 ?tC1 ?iC1 ?xL1 ?rV1 ?sa1 ?ga1 ?gg1 ?kC1 ?hC1 ?aI1 ?tI1 ?lI1 ?cI1 ?kI1 ?nF10 ?s_InvalidCosts_InvalidCosts ?s_InvalidCosts_InvalidSlots ?s_InvalidSlots_InvalidCosts ?s_InvalidSlots_InvalidSlots ?a0 ?l0 ?c0 ?k0 ?a1 ?l1 ?c1 ?k1 ?a2 ?l2 ?c2 ?k2 ?a3 ?l3 ?c3 ?k3 ?a4 ?l4 ?c4 ?k4 ?a5 ?l5 ?c5 ?k5 ?a6 ?l6 ?c6 ?k6 ?a7 ?l7 ?c7 ?k7 ?a8 ?l8 ?c8 ?k8 ?a9 ?l9 ?c9 ?k9 ?a10 ?l10 ?c10 ?k10 ?a11 ?l11 ?c11 ?k11 ?a12 ?l12 ?c12 ?k12 ?a13 ?l13 ?c13 ?k13 ?a14 ?l14 ?c14 ?k14 ?a15 ?l15 ?c15 ?k15 ?a16 ?l16 ?c16 ?k16 ?a17 ?l17 ?c17 ?k17 ?a18 ?l18 ?c18 ?k18 ?a19 ?l19 ?c19 ?k19 ?a20 ?l20 ?c20 ?k20 ?a21 ?l21 ?c21 ?k21 ?a22 ?l22 ?c22 ?k22 ?a23 ?l23 ?c23 ?k23 ?a24 ?l24 ?c24 ?k24 ?a25 ?l25 ?c25 ?k25 ?a26 ?l26 ?c26 ?k26 ?gl0 ?gl1 ?gl2 ?z_isinstance ?z_bool ?z_int ?z_str ?z_dict ?z_list ?z_tuple ?z_len ?z_range ?z_sum ?z_min ?z_max ?z_all ?z_any ?z_abs ?z_enumerate ?z_zip
    (case aC0 => k_is)
    (case eC0 => k_is)
    (case tC0 => k_is)
    (case iC0 => k_is)
    (case xL0 => k_is)
    (case rV0 => first | rfl | decide +kernel | k_is)
    (case sa0 => k_is)
    (case ga0 => k_is)
    (case gg0 => k_is)
    (case kC0 => k_is)
    (case hC0 => k_is)
    (case aI0 => k_is)
    (case tI0 => k_is)
    (case lI0 => k_is)
    (case cI0 => k_is)
    (case kI0 => k_is)
    (case nF00 => k_is)
    (case aC1 => k_is)
    (case eC1 => k_is)
    (case tC1 => k_is)
    (case iC1 => k_is)
    (case xL1 => k_is)
    (case rV1 => first | rfl | decide +kernel | k_is)
    (case sa1 => k_is)
    (case ga1 => k_is)
    (case gg1 => k_is)
    (case kC1 => k_is)
    (case hC1 => k_is)
    (case aI1 => k_is)
    (case tI1 => k_is)
    (case lI1 => k_is)
    (case cI1 => k_is)
    (case kI1 => k_is)
    (case nF10 => k_is)
    (case s_InvalidCosts_InvalidCosts => k_is)
    (case s_InvalidCosts_InvalidSlots => k_is)
    (case s_InvalidSlots_InvalidCosts => k_is)
    (case s_InvalidSlots_InvalidSlots => k_is)
    (case a0 => k_is)
    (case l0 => k_is)
    (case c0 => k_is)
    (case k0 => k_is)
    (case a1 => k_is)
    (case l1 => k_is)
    (case c1 => k_is)
    (case k1 => k_is)
    (case a2 => k_is)
    (case l2 => k_is)
    (case c2 => k_is)
    (case k2 => k_is)
    (case a3 => k_is)
    (case l3 => k_is)
    (case c3 => k_is)
    (case k3 => k_is)
    (case a4 => k_is)
    (case l4 => k_is)
    (case c4 => k_is)
    (case k4 => k_is)
    (case a5 => k_is)
    (case l5 => k_is)
    (case c5 => k_is)
    (case k5 => k_is)
    (case a6 => k_is)
    (case l6 => k_is)
    (case c6 => k_is)
    (case k6 => k_is)
    (case a7 => k_is)
    (case l7 => k_is)
    (case c7 => k_is)
    (case k7 => k_is)
    (case a8 => k_is)
    (case l8 => k_is)
    (case c8 => k_is)
    (case k8 => k_is)
    (case a9 => k_is)
    (case l9 => k_is)
    (case c9 => k_is)
    (case k9 => k_is)
    (case a10 => k_is)
    (case l10 => k_is)
    (case c10 => k_is)
    (case k10 => k_is)
    (case a11 => k_is)
    (case l11 => k_is)
    (case c11 => k_is)
    (case k11 => k_is)
    (case a12 => k_is)
    (case l12 => k_is)
    (case c12 => k_is)
    (case k12 => k_is)
    (case a13 => k_is)
    (case l13 => k_is)
    (case c13 => k_is)
    (case k13 => k_is)
    (case a14 => k_is)
    (case l14 => k_is)
    (case c14 => k_is)
    (case k14 => k_is)
    (case a15 => k_is)
    (case l15 => k_is)
    (case c15 => k_is)
    (case k15 => k_is)
    (case a16 => k_is)
    (case l16 => k_is)
    (case c16 => k_is)
    (case k16 => k_is)
    (case a17 => k_is)
    (case l17 => k_is)
    (case c17 => k_is)
    (case k17 => k_is)
    (case a18 => k_is)
    (case l18 => k_is)
    (case c18 => k_is)
    (case k18 => k_is)
    (case a19 => k_is)
    (case l19 => k_is)
    (case c19 => k_is)
    (case k19 => k_is)
    (case a20 => k_is)
    (case l20 => k_is)
    (case c20 => k_is)
    (case k20 => k_is)
    (case a21 => k_is)
    (case l21 => k_is)
    (case c21 => k_is)
    (case k21 => k_is)
    (case a22 => k_is)
    (case l22 => k_is)
    (case c22 => k_is)
    (case k22 => k_is)
    (case a23 => k_is)
    (case l23 => k_is)
    (case c23 => k_is)
    (case k23 => k_is)
    (case a24 => k_is)
    (case l24 => k_is)
    (case c24 => k_is)
    (case k24 => k_is)
    (case a25 => k_is)
    (case l25 => k_is)
    (case c25 => k_is)
    (case k25 => k_is)
    (case a26 => k_is)
    (case l26 => k_is)
    (case c26 => k_is)
    (case k26 => k_is)
    (case gl0 => k_is)
    (case gl1 => k_is)
    (case gl2 => k_is)
    (case z_isinstance => k_is)
    (case z_bool => k_is)
    (case z_int => k_is)
    (case z_str => k_is)
    (case z_dict => k_is)
    (case z_list => k_is)
    (case z_tuple => k_is)
    (case z_len => k_is)
    (case z_range => k_is)
    (case z_sum => k_is)
    (case z_min => k_is)
    (case z_max => k_is)
    (case z_all => k_is)
    (case z_any => k_is)
    (case z_abs => k_is)
    (case z_enumerate => k_is)
    (case z_zip => k_is)

