import PyProof.Rows.All
import Wide.All
import OpenK.AllK
import Wide.FinOn
import HandS.ForMost
import HandS.Exc
import HandS.TryOnly
import HandS.ExcOwn
import HandS.ExcIs
import HandS.WordsExc
import HandS.IsInst
import HandS.Wide
import HandS.Defaults
import HandS.Lambda
import HandS.EndTab
import HandS.HeadWalk
import HandS.HeadHook4
import HandS.Head0
import HandS.Head1
import HandS.Head2
import HandS.HeadEnd
import HandS.Walk
import HandS.Zip
import HandS.Deep
import HandS.Conv
import HandS.Flow
import HandS.Small
import HandS.Style
import HandS.Evl
import PySem.Challenge.RW_seatshares_k04_right_or_not
set_option Elab.async false
set_option linter.all false
set_option maxRecDepth 100000
set_option maxHeartbeats 4000000
/-! own rules, law-independent -/
namespace SS
open PySem PySem.Spec PyProof.Rows L2

/-! ### a def by its name -/
/-- the def named x keeps the promise sp at level k -/
def OkF (P : Program) (w : World) (K : PySem.W.Frag) (mg : Str → Option Value) (base : Heap) (k : Nat) (x : Str) (ps : List Str) (sp : Sp) : Prop :=
  ∃ (f : Addr) (fd : FuncData), mg x = some (.ref f) ∧ PySem.W.keepIn K (.ref f) = true ∧ L2.Binds K fd ps [] ∧ FnOk P w K mg base (L2.CX P w) k f fd ps sp ∧
    ∃ (oc : Value) (od : Option Addr) (osl : Array (Option Value)), K.lookup f = some ⟨oc, od, .func fd, osl⟩
/-- the def's place and text -/
def DefAt (K : PySem.W.Frag) (mg : Str → Option Value) (x : Str) (st : Stmt) : Prop :=
  mg x = some (.ref (He.ga K x)) ∧ ∃ fd : FuncData, FunD K x x (defArgs st) (defBody st) (defScope st) [] [] (He.ga K x) fd
section
variable {P : Program} {w : World} {K : PySem.W.Frag} {mg : Str → Option Value} {base : Heap}
theorem OkF.mk' {x : Str} {st : Stmt} {N ps : List Str} {k : Nat} {sp : Sp} (D : DefAt K mg x st) (S : FnScope N ps (defScope st))
    (hb : ∀ (kV doc pm : Value) (an : Option Addr) (cdv ct : Value) (us : List Value), us.length = ps.length → bindArgs (PySem.W.fnOf x x (defArgs st) (defBody st) (defScope st) .none kV doc pm an cdv ct) ⟨us, []⟩ = pure (ps.zip us))
    (len : ∀ vs H Q E, sp vs H Q E → vs.length = ps.length)
    (body : ∀ (f : Addr) (cdv : Value) (A : Around) (outer : List Env) (s : Shared) (H : Hp) (vs : List V) (Q : VK) (E : XK), Room k (A.deeper (envOfC x (defScope st) s.heap.objs.size f cdv)) → sp vs H Q E →
      ∃ t, PSs (cxOf (L2.CX P w) P w K mg base N x (defScope st) f cdv A outer s H E) (defBody st) t ∧ t { nx := fun _ H' => Q .non H', rt := Q } (start N vs) H) :
    OkF P w K mg base (k + 1) x ps sp := by
  obtain ⟨hm, fd, F⟩ := D
  refine ⟨_, fd, hm, F.kp, F.bindsN hb, F.ok S len (body _), ?_⟩
  obtain ⟨oc, od, dV, kV, doc, pm, an, cdv, ct, osl, rfl, lk, _⟩ := F.ex
  exact ⟨_, _, _, lk⟩
/-- the same where the def makes lambdas: its code object's address is told -/
theorem OkF.mkL {x : Str} {st : Stmt} {N ps : List Str} {k : Nat} {sp : Sp} (D : DefAt K mg x st) (S : FnScope N ps (defScope st))
    (hb : ∀ (kV doc pm : Value) (an : Option Addr) (cdv ct : Value) (us : List Value), us.length = ps.length → bindArgs (PySem.W.fnOf x x (defArgs st) (defBody st) (defScope st) .none kV doc pm an cdv ct) ⟨us, []⟩ = pure (ps.zip us))
    (len : ∀ vs H Q E, sp vs H Q E → vs.length = ps.length)
    (body : ∀ (f : Addr) (cdv : Value) (A : Around) (outer : List Env) (s : Shared) (H : Hp) (vs : List V) (Q : VK) (E : XK), cdv = .ref (He.codeOf K (x, none)) → Room k (A.deeper (envOfC x (defScope st) s.heap.objs.size f cdv)) → sp vs H Q E →
      ∃ t, PSs (cxOf (L2.CX P w) P w K mg base N x (defScope st) f cdv A outer s H E) (defBody st) t ∧ t { nx := fun _ H' => Q .non H', rt := Q } (start N vs) H) :
    OkF P w K mg base (k + 1) x ps sp := by
  obtain ⟨hm, fd, F⟩ := D
  refine ⟨_, fd, hm, F.kp, F.bindsN hb, ?_, ?_⟩
  rotate_left
  · obtain ⟨oc, od, dV, kV, doc, pm, an, cdv, ct, osl, rfl, lk, _⟩ := F.ex
    exact ⟨_, _, _, lk⟩
  obtain ⟨oc, od, dV, kV, doc, pm, an, cdv, ct, osl, rfl, lk, hcd, _, _⟩ := F.ex
  obtain ⟨c, rfl⟩ := He.codeIn_ref hcd
  have ec : He.codeOf K (x, none) = c := He.codeOf_eq (p := (x, none)) lk rfl
  exact fn_of lk hcd S len fun A outer s H vs Q E hr hsp => body _ _ A outer s H vs Q E (by rw [ec]) hr hsp
theorem OkF.up {x : Str} {ps : List Str} {j k : Nat} {sp : Sp} (O : OkF P w K mg base j x ps sp) (h : j ≤ k) : OkF P w K mg base k x ps sp := by
  obtain ⟨f, fd, a, b, c, d, e⟩ := O
  exact ⟨f, fd, a, b, c, d.mono h, e⟩
/-- the law's own def: its function object is the same over every base -/
theorem OkF.law {x : Str} {ps : List Str} {k : Nat} {sp : Sp} {fa : Addr} {fd : FuncData} {oc : Value} {od : Option Addr} {osl : Array (Option Value)} (O : OkF P w K mg base k x ps sp) (hf : mg x = some (.ref fa)) (lk : K.lookup fa = some ⟨oc, od, .func fd, osl⟩) :
    FnOk P w K mg base (L2.CX P w) k fa fd ps sp := by
  obtain ⟨f1, fd1, a, b, c, d, oc1, od1, osl1, e⟩ := O
  have e1 : fa = f1 := Value.ref.inj (Option.some.inj (hf.symm.trans a))
  subst e1
  have e2 : fd = fd1 := by
    have z := lk.symm.trans e
    cases z
    rfl
  subst e2
  exact d
end
section
variable {X : Cx} {x : Str} {ps : List Str} {k : Nat} {sp : Sp} {E : XK} {p pos : Pos} {e : Expr} {es : List Expr} {t : TA}
theorem pc (O : OkF X.prog X.w X.K X.mg X.base k x ps sp) (hr : Room k X.A) (hx : Passes (L2.CX X.prog X.w) X E) (ha : PA X (e :: es) t) (hg : Gl X x := by rfl)
    (hdb : (x == ("__debug__" : Str)) = false := by decide) (he : starEach (e :: es) X.env = (false, eval e X.env) :: starEach es X.env := by rfl) (hpl : (backTo pos (starEach es X.env)).any (·.1) = false := by rfl) :
    PE X (.Call (.Name x p) (e :: es) [] pos) (tCall sp [] E t) := by
  obtain ⟨f, fd, hm, hk, hb, F, _⟩ := O
  exact pe_call F hr hg hm hk hb .nil hx ha hdb he hpl
end

/-! ### built-in names that the module leaves alone -/
structure BZ (mg : Str → Option Value) : Prop where
  len : mg "len" = none
  sum : mg "sum" = none
  min : mg "min" = none
  max : mg "max" = none
  zip : mg "zip" = none
  enumerate : mg "enumerate" = none
  range : mg "range" = none
  isinstance : mg "isinstance" = none
  sorted : mg "sorted" = none
  list : mg "list" = none
  tuple : mg "tuple" = none
  int : mg "int" = none
  bool : mg "bool" = none
  str : mg "str" = none
  all : mg "all" = none
  any : mg "any" = none
  valueError : mg "ValueError" = none
def bzNames : List Str := ["len", "sum", "min", "max", "zip", "enumerate", "range", "isinstance", "sorted", "list", "tuple", "int", "bool", "str", "all", "any", "ValueError"]
theorem bz_of {mg : Str → Option Value} (h : ∀ x ∈ bzNames, mg x = none) : BZ mg :=
  ⟨h _ (by decide), h _ (by decide), h _ (by decide), h _ (by decide), h _ (by decide), h _ (by decide), h _ (by decide), h _ (by decide), h _ (by decide), h _ (by decide), h _ (by decide), h _ (by decide), h _ (by decide), h _ (by decide), h _ (by decide), h _ (by decide), h _ (by decide)⟩

/-! ### xs[i] op= e of a list -/
def rGetN (K : PySem.W.Frag) : V → V → Hp → VK → Prop := fun x y H Q => ∃ (p : Addr) (xs : List V) (i : Nat) (v : V), x = .ref p ∧ y = .int (i : Int) ∧ SqL K H p xs ∧ xs[i]? = some v ∧ Q v H
theorem get_list {X : Cx} : PGet X (rGetN X.K) := by
  intro pins s σ H o i ov iv Q I r1 r2 h
  obtain ⟨p, xs, j, v, rfl, rfl, hq, he, q⟩ := h
  cases r1
  obtain ⟨t, rfl⟩ := r2
  obtain ⟨its, r, pl, hz⟩ := I.list hq
  obtain ⟨u, eu, ru⟩ := r.get he
  have hl := r.length
  have hn := line63
  have hj : j < xs.length := (List.getElem?_eq_some_iff.mp he).1
  exact PySem.wpAny_getItem_list pl.isList (by omega) (by omega) (by simpa using eu) ⟨v, H, I, ru, q⟩

/-! ### an exception that is kept as a value -/
/-- the caught exception at a, of the class at C -/
def ExV (C a : Addr) : HO := .ext fun h => ∃ (oe : Obj) (vs : Array Value), h.get? a = some oe ∧ oe.cls = .ref C ∧ oe.dict = none ∧ oe.data = .fields vs
section
variable {X : Cx} {pins : List (Addr × Obj)} {σ : L2.St} {H : Hp} {s : Shared}
theorem track {a C : Addr} {oe : Obj} {vs : Array Value} (I : Inv X ((a, oe) :: pins) σ H s) (n0 : X.s_0.heap.get? a = none) (hp : ∀ p ∈ X.pn ++ pins, p.1 ≠ a)
    (h1 : oe.cls = .ref C) (h2 : oe.dict = none) (h3 : oe.data = .fields vs) : Inv X pins σ (upd H a (ExV C a)) s := by
  have mem : (a, oe) ∈ X.pn ++ (a, oe) :: pins := List.mem_append_right _ List.mem_cons_self
  obtain ⟨ha, na, nL, nF, nd⟩ := I.pin _ mem
  have old : ∀ b o, X.s_0.heap.get? b = some o → b ≠ a := fun b o e z => by
    rw [z, n0] at e
    cases e
  have tr : ∀ b o, H b = some o → upd H a (ExV C a) b = some o := fun b o e => by
    rw [upd_ne (ne_of_none e na)]
    exact e
  have un : Un X.fs X.ex X.H_0 (upd H a (ExV C a)) X.s_0.heap s.heap := by
    refine ⟨I.base.keep, I.base.slot, fun b o e n hx => ?_, I.base.there, fun b xs e => tr _ _ (I.base.tups b xs e), fun b o u e => tr _ _ (I.base.frzs b o u e), fun b ps e => ?_⟩
    · rw [upd_ne (old b o e)]
      exact I.base.free b o e n hx
    · obtain ⟨m, z⟩ := I.base.tbls b ps e
      exact ⟨m, tr _ _ z⟩
  refine ⟨I.ok, I.os, I.bare, un, I.loc, I.cell, ?_, fun y c e => ?_, fun p q => ?_, fun b u e => ?_, I.len⟩
  · rw [upd_ne (Ne.symm nL)]
    exact I.free
  · have nc : c ≠ a := fun z => by
      obtain ⟨v, o, ho, hd⟩ := I.cell y c e
      rw [z] at ho
      have e2 : oe = o := Option.some.inj (ha.symm.trans ho)
      exact nd v (by rw [← hd, ← e2])
    rw [upd_ne nc]
    exact I.freeC y c e
  · have q' : p ∈ X.pn ++ (a, oe) :: pins := by
      rcases List.mem_append.mp q with z | z
      · exact List.mem_append_left _ z
      · exact List.mem_append_right _ (List.mem_cons_of_mem _ z)
    obtain ⟨e, n, r⟩ := I.pin p q'
    exact ⟨e, by rw [upd_ne (hp p q)]; exact n, r⟩
  · by_cases hb : b = a
    · rw [hb, upd_same] at e
      cases e
      rw [hb]
      exact ⟨⟨oe, vs, ha, h1, h2, h3⟩, ⟨oe, ha⟩, fun g1 g2 ⟨o, v, z1, z2⟩ k => ⟨o, v, k o z1, z2⟩⟩
    · rw [upd_ne hb] at e
      exact (I.hok b u e).stay (fun c v _ q => q) (fun c q => tr _ _ q) fun c xs q => tr _ _ q
end
/-- what the clause «except x as n: y = n» wishes: slot j of y alone is known behind it -/
def wTrk (K : PySem.W.Frag) (c : Value) (j m : Nat) (Wout : WX) (D : Ends) : WX := fun cls d σ H =>
  ∃ b, PySem.W.exmOne K cls c = some b ∧ (b = true → d = none ∧ ∃ C, cls = .ref C ∧ ∀ a, H a = none → ∀ σ2 : L2.St, σ2.length = m → σ2[j]? = some (some (.ref a)) → D.nx σ2 (upd H a (ExV C a))) ∧
    (b = false → Wout cls d σ H)
section
variable {X : Cx} {x n y : Str} {c : Value} {i j : Nat} {body : List Stmt} {np pos pos' p1 p2 p3 : Pos} {tb : WX → TS} {Wout : WX}
theorem ps_try_trk (hs : X.stack = X.env :: X.outer) (hf : X.env.frame = some X.env.locals) (hN : X.N.Nodup) (hi : X.N[i]? = some n) (hln : X.env.kindOf n = some .local)
    (hj : X.N[j]? = some y) (hlj : X.env.scope.names.lookup y = some .local) (hij : i ≠ j) (hc : Names X x c) (tk : Takes X Wout) (hex : X.ex = [])
    (hd1 : (n == ("__debug__" : Str)) = false) (hd2 : (n == ("__classdict__" : Str)) = false)
    (hsw : ∀ a pn, swapsWith (.Name n p2) (some (.Name y p1)) p3.line (X.suite a pn).env = pure false)
    (hb : ∀ (W : WX) (pn : List (Addr × Obj)) (xe : Value → Shared → Prop), Takes (X.tr pn xe) W → PassesOwn (model X.prog X.w) X.A X.env xe → PSs (X.tr pn xe) body (tb W)) :
    PS X (.Try body [.ExceptHandler (some (.Name x np)) (some n) [.Assign [.Name y p1] (.Name n p2) p3] pos'] [] [] pos) (fun D σ H => tb (wTrk X.K c j X.N.length Wout D) D σ H) := by
  refine ⟨fun pins s σ H D I h => ?_⟩
  have ok := I.ok
  have hfr : X.A.frames = some (X.env :: X.outer) := by rw [ok.frames, hs]
  refine wpAny_Try_except ?_
  have hbody := hb (wTrk X.K c j X.N.length Wout D) (X.pn ++ pins)
    (fun e s1 => wpAny (model X.prog X.w) X.A (noteFrame e X.env) (fun _ s2 => wpAny (model X.prog X.w) X.A (setFlight e none) (fun _ s3 =>
      wpAny (model X.prog X.w) X.A (handleBy e X.env [.ExceptHandler (some (.Name x np)) (some n) [.Assign [.Name y p1] (.Name n p2) p3] pos']) (SP X pins D) X.xe s3) X.xe s2) X.xe s1)
    (fun u s' xx => ?_) PassesOwn.looking
  · refine wpAny_mono (hbody.run [] s σ H D (I.toTry _) h) (fun f s1 hsp => ?_) (fun e s1 he => he)
    cases f with
    | next =>
      obtain ⟨σ1, H1, J1, q1⟩ := hsp
      exact wpAny_execs_nil ⟨σ1, H1, J1.ofTry ok, q1⟩
    | brk =>
      obtain ⟨σ1, H1, J1, q1⟩ := hsp
      exact ⟨σ1, H1, J1.ofTry ok, q1⟩
    | cont =>
      obtain ⟨σ1, H1, J1, q1⟩ := hsp
      exact ⟨σ1, H1, J1.ofTry ok, q1⟩
    | ret u =>
      obtain ⟨v1, σ1, H1, J1, r1, q1⟩ := hsp
      exact ⟨v1, σ1, H1, J1.ofTry ok, r1, q1⟩
  · obtain ⟨a, B, sI, pins1, σ1, H1, cls, d, rfl, J0, nb, up, sky, na, os, ag, b, hb1, hyes, hno⟩ := xx
    have J : Inv X pins σ1 H1 sI := J0.ofTry ok
    have skyE : Sky B (X.env :: X.outer) a (Zc cls d) X.env.locals s'.heap := by rw [← hs]; exact sky
    have nB : B.get? a = none := by
      rcases skyE with ⟨_, z, _⟩ | ⟨_, z, _⟩ | ⟨_, z, _⟩ <;> exact z
    show wpAny (model X.prog X.w) X.A (noteFrame (.ref a) X.env) _ _ _
    refine Sky.land Zc.steady hfr hf skyE fun h3 fl3 up3 => ?_
    have J3 : Inv X pins σ1 H1 { s' with heap := h3 } := J.landed nb fl3.1 (up.trans up3) os ag
    obtain ⟨o3, v3, e3, z3, d3⟩ := fl3.there
    have nfr : a ∉ frs (X.env :: X.outer) := fun hm => by
      obtain ⟨_, o2, e2, hnf⟩ := fl3.2.2.1.mem hm
      have e4 : o3 = o2 := Option.some.inj (e3.symm.trans e2)
      exact hnf v3 (by rw [← e4]; exact d3)
    have nL : a ≠ X.env.locals := fun z => nfr (List.mem_filterMap.mpr ⟨X.env, List.mem_cons_self, by rw [hf, z]⟩)
    have nF : a ∉ X.fs := fun hm => by
      obtain ⟨ev, h1, h2⟩ := List.mem_filterMap.mp hm
      exact nfr (List.mem_filterMap.mpr ⟨ev, List.mem_cons_of_mem _ h1, h2⟩)
    have nI : sI.heap.get? a = none := by
      cases q : sI.heap.get? a with
      | none => rfl
      | some o =>
        have z := nb a o q (by rw [show frs X.stack = frs (X.env :: X.outer) by rw [hs]]; exact nfr)
        rw [nB] at z
        cases z
    have n0 : X.s_0.heap.get? a = none := by
      cases q : X.s_0.heap.get? a with
      | none => rfl
      | some o =>
        obtain ⟨o', z⟩ := J.base.there a o q (by rw [hex]; exact fun z => nomatch z)
        rw [nI] at z
        cases z
    have npA : ∀ p ∈ X.pn ++ pins, p.1 ≠ a := fun p hp z => by
      have e := (J.pin p hp).1
      rw [z, nI] at e
      cases e
    have S3 := J3.suite e3 d3 na nL nF
    refine wpAny_handleBy_cons (codeAny_handlers_test ?_) (by intro q; cases q)
    have LT : PySem.W.Looks (model X.prog X.w) h3 (typeOf (.ref a)) cls := fun A Q E s k q => wpAny_typeOf_ref (k _ _ e3) (by rw [z3.1]; exact q)
    have LM := PySem.W.exm_one (M := model X.prog X.w) (J3.kIn) LT hb1
    have test : ∀ {Q : Value → Shared → Prop} {E : Value → Shared → Prop}, Q c { s' with heap := h3 } → wpAny (model X.prog X.w) (X.A.mark (some (.ref a))) (eval (.Name x np) X.env) Q E { s' with heap := h3 } := fun {Q E} q => by
      obtain ⟨hg, hdbg, hm | ⟨hm, hv, hnn⟩⟩ := hc
      · exact ld_glob (X := X.suite a ((a, o3) :: (X.pn ++ pins))) S3 hg hm q hdbg
      · exact ld_blt (X := X.suite a ((a, o3) :: (X.pn ++ pins))) S3 hg hm hv q hnn hdbg
    refine test (LM.here ?_)
    cases b with
    | true =>
      obtain ⟨dN, C, ecls, hyes⟩ := hyes rfl
      refine codeAny_handlers_suite_as ?_
      refine HandSPX.lands_againZ fl3 fun h4 fl4 up4 => ?_
      have J4 : Inv X pins σ1 H1 { s' with heap := h4 } := J.landed nb fl4.1 ((up.trans up3).trans up4) os ag
      obtain ⟨o4, v4, e4, z4, d4⟩ := fl4.there
      have S4 := J4.suite e4 d4 na nL nF
      refine store_ok (X := X.suite a ((a, o4) :: (X.pn ++ pins))) (v := .ref a) S4 hN hi (.inl hln) rfl (fun s5 S5 => ?_) (.inr hln)
      have hl : i < σ1.length := by
        rw [J.len]
        exact (List.getElem?_eq_some_iff.mp hi).1
      have suite : PSs (X.suite a ((a, o4) :: (X.pn ++ pins))) [.Assign [.Name y p1] (.Name n p2) p3] (tAsg (tVar i) (gName j)) :=
        pss_one (ps_set (i := j) hN hj (.inl hlj) (pe_var hi (.inl hln) hd1 hd2) (hsw _ _) (.inr hlj))
      refine wpAny_mono (suite.run [] s5 (σ1.set i (some (.ref a))) H1 { nx := fun σ6 H6 => σ6 = (σ1.set i (some (.ref a))).set j (some (.ref a)) ∧ H6 = H1, rt := fun _ _ => False } S5 ⟨.ref a, by rw [List.getElem?_set_self hl], rfl, rfl⟩) (fun f s6 hsp => ?_) (fun _ _ z => False.elim z)
      cases f with
      | next =>
        obtain ⟨σ6, H6, S6, rfl, rfl⟩ := hsp
        have K6 : Inv X ((a, o4) :: pins) ((σ1.set i (some (.ref a))).set j (some (.ref a))) H6 s6 :=
          ⟨ok, S6.os, S6.bare, S6.base, S6.loc, S6.cell, S6.free, S6.freeC, fun p hp => S6.pin p (by
            show p ∈ ((a, o4) :: (X.pn ++ pins)) ++ []
            rw [List.append_nil]
            rcases List.mem_append.mp hp with z | z
            · exact List.mem_cons_of_mem _ (List.mem_append_left _ z)
            · rcases List.mem_cons.mp z with z | z
              · rw [z]; exact List.mem_cons_self
              · exact List.mem_cons_of_mem _ (List.mem_append_right _ z)), S6.hok, S6.len⟩
        refine gone_ok K6 hN hi hln fun s7 K7 => ?_
        have hlj : j < σ1.length := by
          rw [J.len]
          exact (List.getElem?_eq_some_iff.mp hj).1
        refine ⟨_, _, track K7 n0 npA (by rw [z4.1]; exact ecls) (by rw [z4.2]; exact dN) d4, hyes a na _ ?_ ?_⟩
        · rw [List.length_set, List.length_set, List.length_set]
          exact J.len
        · rw [List.getElem?_set_ne hij, List.getElem?_set_self (by rw [List.length_set]; exact hlj)]
      | brk =>
        obtain ⟨_, _, _, z⟩ := hsp
        exact False.elim z
      | cont =>
        obtain ⟨_, _, _, z⟩ := hsp
        exact False.elim z
      | ret u =>
        obtain ⟨_, _, _, _, _, z⟩ := hsp
        exact False.elim z
    | false =>
      show wpAny _ X.A (handleBy (.ref a) X.env []) _ _ _
      refine wpAny_handleBy_nil ?_
      obtain ⟨k1, k2, k3, oe, vs, T, oT, ts, he, hz, hd, h1, hr⟩ := id fl3
      unfold PySem.passOn
      refine wpAny_bind (wpAny_field he hd h1 ?_)
      rw [if_neg (show ¬ ((Value.ref T == Value.none) = true) from by simp)]
      have fin : wpAny (model X.prog X.w) X.A (setFlight (.ref a) X.env.frame) (fun _ s4 => wpAny (model X.prog X.w) X.A (throw (.ref a) : Sem Flow) (SP X pins D) X.xe s4) X.xe { s' with heap := h3 } := by
        rw [hf]
        refine HandSPX.setFlight_upZ fl3 fun h4 hh4 up4 => wpAny_throw (tk _ _ ?_)
        exact ⟨a, B, sI, pins, σ1, H1, cls, d, rfl, J, nb, (up.trans up3).trans up4, .inr (.inr (by rw [hs]; exact hh4)), na, os, ag, hno rfl⟩
      first
        | exact wpAny_bind (wpAny_pure (wpAny_bind fin))
        | exact wpAny_bind fin
end
/-- isinstance of a kept exception -/
def rIsX (K : PySem.W.Frag) : List V → Hp → VK → Prop := fun xs H Q => ∃ (a D : Addr) (c : V) (u : Value) (b : Bool), xs = [.ref a, c] ∧ H a = some (ExV D a) ∧ ExcC K D ∧ ClsV c u ∧ PySem.W.kitOne K (.ref D) u = some b ∧ Q (.bl b) H
theorem call_isX {X : Cx} : CallR X (.builtin "isinstance") (rIsX X.K) := by
  intro pins s σ H xs us Q I r h
  obtain ⟨a, D, c, u, b, rfl, ea, C, k, e, q⟩ := h
  obtain ⟨u1, u2, rfl, r1, r2⟩ := vals2 r
  have e2 := k.eq r2
  subst e2
  cases (show u1 = Value.ref a from r1)
  obtain ⟨⟨oe, vs, hget, h1, h2, h3⟩, _, _⟩ := I.hok a _ ea
  have J : PySem.W.InstAt s.heap a oe D none := by
    obtain ⟨oc, od, oda, osl⟩ := oe
    dsimp only at h1 h2 h3
    subst h1 h2 h3
    exact ⟨hget, rfl, rfl, trivial⟩
  exact PySem.W.kia_one (PySem.W.handS_kitx_exc C.hg C.hk C.hs C.hd C.ha C.hn C.ht C.hm) I.kIn J e (fun z => nomatch z) fun tk => ⟨.bl b, H, I.kept (t' := tk) fun _ _ z => z, rfl, q⟩
def rIsA (K : PySem.W.Frag) : List V → Hp → VK → Prop := fun xs H Q => rIsi K xs H Q ∨ rIsX K xs H Q
theorem call_isA {X : Cx} : CallR X (.builtin "isinstance") (rIsA X.K) := call_isi.or call_isX
end SS

/-! own lemmas, law-independent: heaps, data, kinds, exception classes -/
namespace SS
open PySem PySem.Spec PyProof.Rows L2 LamX

/-! ### built-in names -/
theorem bt_len : bootBuiltins "len" = some (.builtin "len") := by decide +kernel
theorem bt_sum : bootBuiltins "sum" = some (.builtin "sum") := by decide +kernel
theorem bt_min : bootBuiltins "min" = some (.builtin "min") := by decide +kernel
theorem bt_max : bootBuiltins "max" = some (.builtin "max") := by decide +kernel
theorem bt_isinstance : bootBuiltins "isinstance" = some (.builtin "isinstance") := by decide +kernel
theorem bt_sorted : bootBuiltins "sorted" = some (.builtin "sorted") := by decide +kernel
theorem bt_all : bootBuiltins "all" = some (.builtin "all") := by decide +kernel
theorem bt_any : bootBuiltins "any" = some (.builtin "any") := by decide +kernel
theorem bt_list : bootBuiltins "list" = some (.type "list") := by decide +kernel
theorem bt_tuple : bootBuiltins "tuple" = some (.type "tuple") := by decide +kernel
theorem bt_int : bootBuiltins "int" = some (.type "int") := by decide +kernel
theorem bt_bool : bootBuiltins "bool" = some (.type "bool") := by decide +kernel
theorem bt_str : bootBuiltins "str" = some (.type "str") := by decide +kernel
theorem bt_ValueError : bootBuiltins "ValueError" = some (.type "ValueError") := by decide +kernel

/-! ### heaps -/
theorem same_new {H : Hp} {p : Addr} {o : HO} (h : H p = none) : Same H (upd H p o) := fun b u e => by
  rw [upd_ne (ne_of_none e h)]
  exact e
theorem same_mut {H0 H : Hp} {p : Addr} {o : HO} (s : Same H0 H) (h : H0 p = none) : Same H0 (upd H p o) := fun b u e => by
  rw [upd_ne (ne_of_none e h)]
  exact s b u e
theorem same_free {H H' : Hp} {p : Addr} (s : Same H H') (h : H' p = none) : H p = none := s.free h
theorem ext_of {H H' : Hp} (s : Same H H') : ExtN H H' := ExtN.of s
theorem ext_seq {K : PySem.W.Frag} {H H' : Hp} {a : Addr} {xs : List V} (e : ExtN H H') (h : SqL K H a xs) : SqL K H' a xs := by
  rcases h with (h | ⟨o, h⟩) | h
  · exact .inl (.inl (e _ _ h (fun ps z => by cases z)))
  · exact .inl (.inr ⟨o, e _ _ h (fun ps z => by cases z)⟩)
  · exact .inr h
theorem ext_tup {K : PySem.W.Frag} {H H' : Hp} {a : Addr} {xs : List V} (e : ExtN H H') (h : SqT K H a xs) : SqT K H' a xs := by
  rcases h with (h | ⟨o, h⟩) | h
  · exact .inl (.inl (e _ _ h (fun ps z => by cases z)))
  · exact .inl (.inr ⟨o, e _ _ h (fun ps z => by cases z)⟩)
  · exact .inr h
theorem same_seq {K : PySem.W.Frag} {H H' : Hp} {a : Addr} {xs : List V} (e : Same H H') (h : SqL K H a xs) : SqL K H' a xs := e.seq h
theorem same_tup {K : PySem.W.Frag} {H H' : Hp} {a : Addr} {xs : List V} (e : Same H H') (h : SqT K H a xs) : SqT K H' a xs := ext_tup (ext_of e) h
theorem sqL {K : PySem.W.Frag} {H : Hp} {a : Addr} {xs : List V} (h : H a = some (.lst xs)) : SqL K H a xs := .inl (.inl h)
theorem sqT {K : PySem.W.Frag} {H : Hp} {a : Addr} {xs : List V} (h : H a = some (.tup xs)) : SqT K H a xs := .inl (.inl h)
theorem sz {n : Nat} (h : n ≤ 100000) : n ≤ sizeLine := Nat.le_trans h (by decide)
theorem szl {n : Nat} (h : n < 100000) : n < sizeLine := Nat.lt_of_lt_of_le h (by decide)

/-! ### data on the heap -/
mutual
theorem dp_ext {K : PySem.W.Frag} {H H' : Hp} (e : ExtN H H') : ∀ {v : V} {d : PyData}, Dp K H v d → Dp K H' v d
  | _, _, .non => .non
  | _, _, .bl b => .bl b
  | _, _, .int i => .int i
  | _, _, .str x => .str x
  | _, _, .lst h r => .lst (ext_seq e h) (dpa_ext e r)
  | _, _, .tup h r => .tup (ext_tup e h) (dpa_ext e r)
theorem dpa_ext {K : PySem.W.Frag} {H H' : Hp} (e : ExtN H H') : ∀ {vs : List V} {ds : List PyData}, DpAll K H vs ds → DpAll K H' vs ds
  | _, _, .nil => .nil
  | _, _, .cons h r => .cons (dp_ext e h) (dpa_ext e r)
end
theorem dp_same {K : PySem.W.Frag} {H H' : Hp} {v : V} {d : PyData} (e : Same H H') (h : Dp K H v d) : Dp K H' v d := dp_ext (ext_of e) h
theorem dpa_len {K : PySem.W.Frag} {H : Hp} : ∀ {vs : List V} {ds : List PyData}, DpAll K H vs ds → vs.length = ds.length
  | _, _, .nil => rfl
  | _, _, .cons _ r => by rw [List.length_cons, List.length_cons, dpa_len r]
theorem dpa_get {K : PySem.W.Frag} {H : Hp} : ∀ {vs : List V} {ds : List PyData} {i : Nat} {d : PyData}, DpAll K H vs ds → ds[i]? = some d → ∃ v, vs[i]? = some v ∧ Dp K H v d
  | _, _, _, _, .nil, e => by simp at e
  | _, _, 0, _, .cons h _, e => by
    simp at e
    subst e
    exact ⟨_, rfl, h⟩
  | _, _, i + 1, _, .cons _ r, e => by
    obtain ⟨v, h1, h2⟩ := dpa_get (i := i) r (by simpa using e)
    exact ⟨v, by simpa using h1, h2⟩
theorem dpa_getV {K : PySem.W.Frag} {H : Hp} : ∀ {vs : List V} {ds : List PyData} {i : Nat} {v : V}, DpAll K H vs ds → vs[i]? = some v → ∃ d, ds[i]? = some d ∧ Dp K H v d
  | _, _, _, _, .nil, e => by simp at e
  | _, _, 0, _, .cons h _, e => by
    simp at e
    subst e
    exact ⟨_, rfl, h⟩
  | _, _, i + 1, _, .cons _ r, e => by
    obtain ⟨v, h1, h2⟩ := dpa_getV (i := i) r (by simpa using e)
    exact ⟨v, by simpa using h1, h2⟩
theorem dpa_app {K : PySem.W.Frag} {H : Hp} : ∀ {vs ws : List V} {ds es : List PyData}, DpAll K H vs ds → DpAll K H ws es → DpAll K H (vs ++ ws) (ds ++ es)
  | _, _, _, _, .nil, s => s
  | _, _, _, _, .cons h r, s => .cons h (dpa_app r s)
theorem dpa_ints {K : PySem.W.Frag} {H : Hp} : ∀ (ns : List Int), DpAll K H (ns.map V.int) (ns.map PyData.int)
  | [] => .nil
  | n :: r => .cons (.int n) (dpa_ints r)
theorem dpa_strs {K : PySem.W.Frag} {H : Hp} : ∀ (ns : List Str), DpAll K H (ns.map V.str) (ns.map PyData.str)
  | [] => .nil
  | n :: r => .cons (.str n) (dpa_strs r)
theorem dpa_take {K : PySem.W.Frag} {H : Hp} : ∀ {vs : List V} {ds : List PyData} (n : Nat), DpAll K H vs ds → DpAll K H (vs.take n) (ds.take n)
  | _, _, 0, _ => .nil
  | _, _, _ + 1, .nil => .nil
  | _, _, n + 1, .cons h r => .cons h (dpa_take n r)
theorem dpa_drop {K : PySem.W.Frag} {H : Hp} : ∀ {vs : List V} {ds : List PyData} (n : Nat), DpAll K H vs ds → DpAll K H (vs.drop n) (ds.drop n)
  | _, _, 0, r => r
  | _, _, _ + 1, .nil => .nil
  | _, _, n + 1, .cons _ r => dpa_drop n r
/-- data, or an empty dict -/
def Dz (K : PySem.W.Frag) (H : Hp) (v : V) (d : PyData) : Prop := Dp K H v d ∨ (d = .dict [] ∧ ∃ a, v = .ref a ∧ H a = some (.dK []))
theorem dz_ext {K : PySem.W.Frag} {H H' : Hp} {v : V} {d : PyData} (e : ExtN H H') (h : Dz K H v d) : Dz K H' v d := by
  rcases h with h | ⟨h, a, h1, h2⟩
  · exact .inl (dp_ext e h)
  · exact .inr ⟨h, a, h1, e _ _ h2 (fun ps z => by cases z)⟩
theorem dz_same {K : PySem.W.Frag} {H H' : Hp} {v : V} {d : PyData} (e : Same H H') (h : Dz K H v d) : Dz K H' v d := dz_ext (ext_of e) h

/-! ### kinds -/
def tyD : PyData → String
  | .none => "NoneType"
  | .bool _ => "bool"
  | .int _ => "int"
  | .str _ => "str"
  | .list _ => "list"
  | .tuple _ => "tuple"
  | .dict _ => "dict"
theorem ty_lst {K : PySem.W.Frag} {H : Hp} {a : Addr} {xs : List V} (h : SqL K H a xs) : TyX K H (.ref a) (.type "list") := by
  rcases h with (h | ⟨o, h⟩) | ⟨o, its, n, h, hc, _⟩
  · exact .base (.lst h)
  · exact .base (.frz h)
  · exact .kList h hc
theorem ty_tup {K : PySem.W.Frag} {H : Hp} {a : Addr} {xs : List V} (h : SqT K H a xs) : TyX K H (.ref a) (.type "tuple") := by
  rcases h with (h | ⟨o, h⟩) | ⟨o, its, n, h, hc, _⟩
  · exact .base (.tup h)
  · exact .fTuple h
  · exact .kTuple h hc
theorem dz_ty {K : PySem.W.Frag} {H : Hp} {v : V} {d : PyData} (h : Dz K H v d) : TyX K H v (.type (tyD d)) := by
  rcases h with h | ⟨rfl, a, rfl, h⟩
  · cases h with
    | non => exact .base .non
    | bl b => exact .base (.bl b)
    | int i => exact .base (.int i)
    | str x => exact .base (.str x)
    | lst h _ => exact ty_lst h
    | tup h _ => exact ty_tup h
  · exact .base (.dK h)
def isIntD : PyData → Bool
  | .int _ => true
  | .bool _ => true
  | _ => false
def isBoolD : PyData → Bool
  | .bool _ => true
  | _ => false
def isStrD : PyData → Bool
  | .str _ => true
  | _ => false
def isLstD : PyData → Bool
  | .list _ => true
  | _ => false
def isTupD : PyData → Bool
  | .tuple _ => true
  | _ => false
theorem kit_int : ∀ d : PyData, kitB (tyD d) "int" = some (isIntD d)
  | .none => (by decide +kernel : kitB "NoneType" "int" = some false)
  | .bool _ => (by decide +kernel : kitB "bool" "int" = some true)
  | .int _ => (by decide +kernel : kitB "int" "int" = some true)
  | .str _ => (by decide +kernel : kitB "str" "int" = some false)
  | .list _ => (by decide +kernel : kitB "list" "int" = some false)
  | .tuple _ => (by decide +kernel : kitB "tuple" "int" = some false)
  | .dict _ => (by decide +kernel : kitB "dict" "int" = some false)
theorem kit_bool : ∀ d : PyData, kitB (tyD d) "bool" = some (isBoolD d)
  | .none => (by decide +kernel : kitB "NoneType" "bool" = some false)
  | .bool _ => (by decide +kernel : kitB "bool" "bool" = some true)
  | .int _ => (by decide +kernel : kitB "int" "bool" = some false)
  | .str _ => (by decide +kernel : kitB "str" "bool" = some false)
  | .list _ => (by decide +kernel : kitB "list" "bool" = some false)
  | .tuple _ => (by decide +kernel : kitB "tuple" "bool" = some false)
  | .dict _ => (by decide +kernel : kitB "dict" "bool" = some false)
theorem kit_str : ∀ d : PyData, kitB (tyD d) "str" = some (isStrD d)
  | .none => (by decide +kernel : kitB "NoneType" "str" = some false)
  | .bool _ => (by decide +kernel : kitB "bool" "str" = some false)
  | .int _ => (by decide +kernel : kitB "int" "str" = some false)
  | .str _ => (by decide +kernel : kitB "str" "str" = some true)
  | .list _ => (by decide +kernel : kitB "list" "str" = some false)
  | .tuple _ => (by decide +kernel : kitB "tuple" "str" = some false)
  | .dict _ => (by decide +kernel : kitB "dict" "str" = some false)
theorem kit_lst : ∀ d : PyData, kitB (tyD d) "list" = some (isLstD d)
  | .none => (by decide +kernel : kitB "NoneType" "list" = some false)
  | .bool _ => (by decide +kernel : kitB "bool" "list" = some false)
  | .int _ => (by decide +kernel : kitB "int" "list" = some false)
  | .str _ => (by decide +kernel : kitB "str" "list" = some false)
  | .list _ => (by decide +kernel : kitB "list" "list" = some true)
  | .tuple _ => (by decide +kernel : kitB "tuple" "list" = some false)
  | .dict _ => (by decide +kernel : kitB "dict" "list" = some false)
theorem kit_tup : ∀ d : PyData, kitB (tyD d) "tuple" = some (isTupD d)
  | .none => (by decide +kernel : kitB "NoneType" "tuple" = some false)
  | .bool _ => (by decide +kernel : kitB "bool" "tuple" = some false)
  | .int _ => (by decide +kernel : kitB "int" "tuple" = some false)
  | .str _ => (by decide +kernel : kitB "str" "tuple" = some false)
  | .list _ => (by decide +kernel : kitB "list" "tuple" = some false)
  | .tuple _ => (by decide +kernel : kitB "tuple" "tuple" = some true)
  | .dict _ => (by decide +kernel : kitB "dict" "tuple" = some false)
section
variable {K : PySem.W.Frag} {H : Hp} {v : V} {d : PyData} {Q : VK}
theorem isi_of {T : String} {b : Bool} (h : Dz K H v d) (e : kitB (tyD d) T = some b) (q : Q (.bl b) H) : rIsA K [v, .ty T] H Q :=
  .inl ⟨v, .ty T, _, _, b, rfl, .ty T, dz_ty h, kit_ty e, q⟩
theorem isi_int (h : Dz K H v d) (q : Q (.bl (isIntD d)) H) : rIsA K [v, .ty "int"] H Q := isi_of h (kit_int d) q
theorem isi_bool (h : Dz K H v d) (q : Q (.bl (isBoolD d)) H) : rIsA K [v, .ty "bool"] H Q := isi_of h (kit_bool d) q
theorem isi_str (h : Dz K H v d) (q : Q (.bl (isStrD d)) H) : rIsA K [v, .ty "str"] H Q := isi_of h (kit_str d) q
theorem isi_lst (h : Dz K H v d) (q : Q (.bl (isLstD d)) H) : rIsA K [v, .ty "list"] H Q := isi_of h (kit_lst d) q
theorem isi_tup (h : Dz K H v d) (q : Q (.bl (isTupD d)) H) : rIsA K [v, .ty "tuple"] H Q := isi_of h (kit_tup d) q
end

/-! ### exception classes of the module -/
def exNames : List Str := ["BadWay", "BadCount", "BadLists", "BadSeats", "BadPrice", "BadPlace", "BadGroups", "Tied", "BadText"]
/-- what raising x asks -/
structure ExF (K : PySem.W.Frag) (mg : Str → Option Value) (x : Str) : Prop where
  g : mg x = some (.ref (He.ga K x))
  e : PySem.W.excIn K (He.ga K x) He.veBase "ValueError.__new__" = true
  k : PySem.W.keepIn K (.ref (He.ga K x)) = true
  b : PySem.W.subIn K (.ref (He.ga K x)) (.type "BaseException") = some true
  t : PySem.W.typeIn K (.ref (He.ga K x)) = some (.type "type")
def exFB (K : PySem.W.Frag) (x : Str) : Bool := He.eqO (PySem.W.nsIn K mainGlobals x) (some (some (.ref (He.ga K x)))) && (He.Fa.exc x).ok K
theorem exF_of {K : PySem.W.Frag} {h : Heap} {mg : Str → Option Value} {x : Str} (X : K.In h) (G : h.Ns mainGlobals mg) (e : exFB K x = true) : ExF K mg x := by
  obtain ⟨e1, e2⟩ := He.ba e
  obtain ⟨a, b, c, d⟩ := He.exc_ok e2
  exact ⟨PySem.W.mg_of X G (He.eqO_ok e1), a, b, c, d⟩
def excCB (K : PySem.W.Frag) (D : Addr) : Bool :=
  decide (PySem.W.findIn K (.ref D) "__getattribute__" = some (some (.builtin "BaseException.__getattribute__"))) && (decide (PySem.W.findIn K (.ref D) "__getattr__" = some none) &&
  (decide (PySem.W.subIn K (.ref D) (.type "BaseException") = some true) && (PySem.W.hasDictIn K D && (decide (PySem.W.findIn K (.ref D) "__class__" = some (some (.builtin "object.__class__"))) &&
  (decide (PySem.W.specialIn K (.builtin "object.__class__") "__get__" = some (some (.builtin "getset_descriptor.__get__"))) && (decide (PySem.W.takesIn K (.builtin "object.__class__") = some true) && decide (PySem.W.mroIn K D (.type "object") = some true)))))))
theorem excC_of {K : PySem.W.Frag} {D : Addr} (e : excCB K D = true) : ExcC K D := by
  obtain ⟨a, e⟩ := He.ba e
  obtain ⟨b, e⟩ := He.ba e
  obtain ⟨c, e⟩ := He.ba e
  obtain ⟨d, e⟩ := He.ba e
  obtain ⟨f, e⟩ := He.ba e
  obtain ⟨g, e⟩ := He.ba e
  obtain ⟨h, i⟩ := He.ba e
  exact ⟨of_decide_eq_true a, of_decide_eq_true b, of_decide_eq_true c, d, of_decide_eq_true f, of_decide_eq_true g, of_decide_eq_true h, of_decide_eq_true i⟩
/-- all that the law asks of caught ones -/
structure ExAll (K : PySem.W.Frag) : Prop where
  c : ∀ x ∈ exNames, ExcC K (He.ga K x)
  m : ∀ x ∈ exNames, PySem.W.exmOne K (.ref (He.ga K x)) (.ref (He.ga K "ShareError")) = some true
  one : ∀ x ∈ exNames, ∀ y ∈ exNames, PySem.W.kitOne K (.ref (He.ga K x)) (.ref (He.ga K y)) = some (decide (x = y))
  ve : ∀ x ∈ exNames, PySem.W.kitOne K (.ref (He.ga K x)) (.type "ValueError") = some true
  no : ∀ y ∈ exNames, PySem.W.kitOne K (.type "NoneType") (.ref (He.ga K y)) = some false
def exAllB (K : PySem.W.Frag) : Bool := exNames.all fun x => excCB K (He.ga K x) && (decide (PySem.W.exmOne K (.ref (He.ga K x)) (.ref (He.ga K "ShareError")) = some true) &&
  ((exNames.all fun y => decide (PySem.W.kitOne K (.ref (He.ga K x)) (.ref (He.ga K y)) = some (decide (x = y)))) && (decide (PySem.W.kitOne K (.ref (He.ga K x)) (.type "ValueError") = some true) &&
  decide (PySem.W.kitOne K (.type "NoneType") (.ref (He.ga K x)) = some false))))
theorem exAll_of {K : PySem.W.Frag} (e : exAllB K = true) : ExAll K := by
  have h := List.all_eq_true.mp e
  have h1 : ∀ x ∈ exNames, _ := fun x hx => He.ba (h x hx)
  have h2 : ∀ x ∈ exNames, _ := fun x hx => He.ba (h1 x hx).2
  have h3 : ∀ x ∈ exNames, _ := fun x hx => He.ba (h2 x hx).2
  have h4 : ∀ x ∈ exNames, _ := fun x hx => He.ba (h3 x hx).2
  exact ⟨fun x hx => excC_of (h1 x hx).1, fun x hx => of_decide_eq_true (h2 x hx).1, fun x hx y hy => of_decide_eq_true (List.all_eq_true.mp (h3 x hx).1 y hy),
    fun x hx => of_decide_eq_true (h4 x hx).1, fun x hx => of_decide_eq_true (h4 x hx).2⟩

/-! ### small whole numbers' bounds -/
theorem iteB {b : Bool} {A B : Prop} (h1 : b = true → A) (h2 : b = false → B) : if b = true then A else B := by
  cases b with
  | true => exact iteT (h1 rfl)
  | false => exact iteF (h2 rfl)
/-- an and, an or of tests, by their answers -/
theorem if_and {b : Bool} {A : Prop} (h1 : b = true → A) {B : Prop} (h2 : b = false → B) : if b = true then A else B := iteB h1 h2
end SS

namespace SS
open PySem PySem.Spec PyProof.Rows L2 LamX

/-! ### a displayed dict, asked at once -/
def strPairs (kvs : List (Str × V)) : List (TE × TE) := kvs.map fun q => (tC (.str q.1), tC q.2)
theorem pairs_str {σ : L2.St} : ∀ {kvs : List (Str × V)} {H : Hp} {Q : List (V × V) → Hp → Prop}, Q (kvs.map fun q => (V.str q.1, q.2)) H → tPairs (strPairs kvs) σ H Q
  | [], _, _, q => q
  | kv :: r, H, Q, q => pairs_str (kvs := r) (Q := fun ps H' => Q ((V.str kv.1, kv.2) :: ps) H') q
theorem dispGet {σ : L2.St} {H : Hp} {Q : VK} {ty : TE} {x : Str} {v : V} (kvs : List (Str × V)) (hl : kvs.length ≤ 15) (hy : ∀ (H1 : Hp) (R : VK), R (.str x) H1 → ty σ H1 R)
    (hv : valV (mergeK [] (kvs.map fun q => ((Sum.inr q.1 : Key), q.2))) (Sum.inr x) = some v) (q : ∀ H', Same H H' → Q v H') : tDGet (tDisp (strPairs kvs)) ty σ H Q := by
  intro p hp
  refine pairs_str ⟨upd_same, kvs.map (fun q => ((Sum.inr q.1 : Key), q.2)), ?_, ?_, ?_⟩
  · rw [List.map_map]
    rfl
  · rw [List.length_map]
    exact hl
  · refine hy _ _ ⟨p, v, rfl, ?_, q _ ?_⟩
    · rw [← hv]
      exact DGet.k (k := Sum.inr x) upd_same
    · rw [upd_upd]
      exact same_new hp

/-! ### the law's word for a refusal -/
def exWords : List (Str × Str) := [("way", "BadWay"), ("count", "BadCount"), ("lists", "BadLists"), ("seats", "BadSeats"), ("price", "BadPrice"), ("place", "BadPlace"), ("groups", "BadGroups"), ("tied", "Tied"), ("text", "BadText")]
/-- what was caught: nothing, or an exception of the class named o -/
def Caught (K : PySem.W.Frag) (H : Hp) (v : V) (o : Option Str) : Prop := (v = .non ∧ o = none) ∨ ∃ a x, v = .ref a ∧ o = some x ∧ x ∈ exNames ∧ H a = some (ExV (He.ga K x) a)
theorem caught_same {K : PySem.W.Frag} {H H' : Hp} {v : V} {o : Option Str} (s : Same H H') (h : Caught K H v o) : Caught K H' v o := by
  rcases h with h | ⟨a, x, h1, h2, h3, h4⟩
  · exact .inl h
  · exact .inr ⟨a, x, h1, h2, h3, s _ _ h4⟩
section
variable {K : PySem.W.Frag} {H : Hp} {v : V} {o : Option Str} {y nm : Str} {Q : VK} {σ : L2.St} {i : Nat}
theorem isA_word (EA : ExAll K) (hc : Caught K H v o) (hy : y ∈ exNames) (q : Q (.bl (decide (o = some y))) H) : rIsA K [v, .ref (He.ga K y)] H Q := by
  rcases hc with ⟨rfl, rfl⟩ | ⟨a, x, rfl, rfl, hx, ha⟩
  · exact .inl ⟨.non, _, _, _, false, rfl, .own _, .base .non, EA.no y hy, by
      rw [decide_eq_false (by intro z; cases z)] at q
      exact q⟩
  · refine .inr ⟨a, _, _, _, decide (x = y), rfl, ha, EA.c x hx, .own _, EA.one x hx y hy, ?_⟩
    by_cases e : x = y
    · subst e
      rw [decide_eq_true rfl] at q ⊢
      exact q
    · rw [decide_eq_false (fun z => e (Option.some.inj z))] at q
      rw [decide_eq_false e]
      exact q
theorem isA_ve (EA : ExAll K) (hc : Caught K H v o) (hn : v ≠ .non) (q : Q (.bl true) H) : rIsA K [v, .ty "ValueError"] H Q := by
  rcases hc with ⟨rfl, rfl⟩ | ⟨a, x, rfl, rfl, hx, ha⟩
  · exact absurd rfl hn
  · exact .inr ⟨a, _, _, _, true, rfl, ha, EA.c x hx, .ty _, EA.ve x hx, q⟩
/-- ("way", isinstance(caught, BadWay)) -/
theorem pair_step (EA : ExAll K) (hσ : σ[i]? = some (some v)) (hc : Caught K H v o) (hy : y ∈ exNames)
    (k : ∀ H' t, Same H H' → H' t = some (.tup [.str nm, .bl (decide (o = some y))]) → Q (.ref t) H') :
    tTup (tCons (tC (.str nm)) (tCons (tCB (rIsA K) (tCons (tVar i) (tCons (tC (.ref (He.ga K y))) tNil))) tNil)) σ H Q :=
  ⟨v, hσ, isA_word EA hc hy ⟨by show 2 ≤ sizeLine; decide, fun t n => k _ t (same_new n) upd_same⟩⟩
end
def wordOf (x : Str) : Str := ((exWords.find? fun q => q.2 == x).map (·.1)).getD ""
def wordsOf (o : Option Str) : List Str := (exWords.filter fun q => decide (o = some q.2)).map (·.1)
theorem words_none : wordsOf none = [] := by decide +kernel
theorem words_some {x : Str} (h : x ∈ exNames) : wordsOf (some x) = [wordOf x] := by
  have e : ∀ x ∈ exNames, wordsOf (some x) = [wordOf x] := by decide +kernel
  exact e x h
/-- the pairs behind one another, by their list -/
def pairV (o : Option Str) (H : Hp) (t : V) (q : Str × Str) : Prop := ∃ a, t = .ref a ∧ H a = some (.tup [.str q.1, .bl (decide (o = some q.2))])
theorem pairV_same {o : Option Str} {H H' : Hp} {t : V} {q : Str × Str} (s : Same H H') (h : pairV o H t q) : pairV o H' t q := by
  obtain ⟨a, h1, h2⟩ := h
  exact ⟨a, h1, s _ _ h2⟩

/-- what _law_word makes of a deed (tl: the deed's reading) -/
def TTword (K : PySem.W.Frag) : (XK → Hp → VK → Prop) → Hp → VK → Prop := fun tl H Q =>
  ∀ (E1 : XK) (Q1 : VK), (∀ x ∈ exNames, ∀ H', (∀ H2 p, Same H' H2 → H' p = none → H2 p = some (.lst [.str (wordOf x)]) → Q (.ref p) H2) → E1 (.ref (He.ga K x)) none H') →
    (∀ v H', (∀ H2 p, Same H' H2 → H' p = none → H2 p = some (.lst []) → Q (.ref p) H2) → Q1 v H') → tl E1 H Q1
/-- a class of the module by its name -/
structure ExG (K : PySem.W.Frag) (mg : Str → Option Value) (x : Str) : Prop where
  g : mg x = some (.ref (He.ga K x))
/-- _law_word as it stands, for the caller X, whose table is at P -/
structure WordOk (P : Program) (w : World) (K : PySem.W.Frag) (mg : Str → Option Value) (base : Heap) : Prop where
  ok : ∀ {X : Cx}, X.prog = P → X.w = w → X.K = K → X.mg = mg → X.base = base →
    ∃ (g : Addr) (pg : Arguments) (bg : List Stmt) (sg : Scope) (dV kV doc pm cdv ct oc : Value) (an od : Option Addr) (osl : Array (Option Value)) (Ng : List Str),
      X.mg "_law_word" = some (.ref g) ∧ PySem.W.keepIn X.K (.ref g) = true ∧ X.K.lookup g = some ⟨oc, od, .func (PySem.W.fnOf "_law_word" "_law_word" pg bg sg dV kV doc pm an cdv ct), osl⟩ ∧ PySem.W.codeIn X.K cdv "_law_word" = true ∧
      L2.Binds X.K (PySem.W.fnOf "_law_word" "_law_word" pg bg sg dV kV doc pm an cdv ct) ["_law_deed"] [] ∧ FnScope Ng ["_law_deed"] sg ∧ Ng[0]? = some ("_law_deed" : Str) ∧ Vis sg "_law_deed" ∧
      GivesTo X Ng "_law_word" sg g cdv bg "_law_deed" (X.env.qual ++ "<lambda>") (TTword X.K)
section
variable {X : Cx}
/-- _law_word(lambda: body) -/
theorem pl_word {T : List (Addr × Str)} {c P : Addr} {k : Nat} {params : Arguments} {body : Expr} {scope : Scope} {t : XK → TE} {p lpos pos : Pos} (W : WordOk X.prog X.w X.K X.mg X.base)
    (hm : (P, X.env.qual ++ "<lambda>") ∈ T ∧ (∀ p ∈ T, p.1 = P → p.2 = X.env.qual ++ "<lambda>")) (TB : TabB X.base X.mg c P) (hcode : X.env.code = .ref c) (hr : Room (k + 2) X.A)
    (hbody : ∀ (A : Around) (outer : List Env) (s : Shared) (H : Hp) (E : XK) (f c' : Addr), Room k (A.deeper (lamEnv X scope s.heap.objs.size f c')) → PE (lamCx X A outer s H E scope f c') body (t E))
    (hg : Gl X "_law_word") (L : LamS X.env.scope scope) (hdef : defaultsOf params X.env = ([], []))
    (hbind : ∀ (q : Str) (cl : List (Str × Addr)) (pm cv ctv : Value), bindArgs (PySem.W.kla_fn "<lambda>" q params body scope cl pm cv ctv) ⟨[], []⟩ = pure []) :
    PE X (.Call (.Name "_law_word" p) [.Lambda params body scope lpos] [] pos) (tLam T (TTword X.K) t) := by
  obtain ⟨g, pg, bg, sg, dV, kV, doc, pm, cdv, ct, oc, an, od, osl, Ng, h1, h2, h3, h4, h5, h6, h7, h8, h9⟩ := W.ok (X := X) rfl rfl rfl rfl rfl
  exact pe_lamcall hg h1 h2 h3 h4 h5 h6 h7 h8 h9 TB hcode hm.1 hm.2 hr L hdef hbind hbody
end
/-- the def's table of code objects; the name that its lambdas bear -/
def tbl (K : PySem.W.Frag) (x : Str) : Addr := He.tabOf K (He.codeOf K (x, none))
def lamQ (x : Str) (st : Stmt) : Str := (envOfC x (defScope st) 0 0 .none).qual ++ "<lambda>"
theorem lenOf {H : Hp} {a : Addr} {K : PySem.W.Frag} {ns : List Int} (h : SqL K H a (ns.map V.int)) : True := trivial
theorem cut_mem {xs : List V} {lo hi : Option Int} {i : Nat} {x : V} (h : (cutV xs lo hi)[i]? = some x) : x ∈ xs := by
  have h1 := List.mem_of_getElem? h
  unfold cutV at h1
  exact List.mem_of_mem_drop (List.mem_of_mem_take h1)
/-- the reading of a deed that is refused, or not, as a function of the heap -/
theorem lam_word {K : PySem.W.Frag} {T : List (Addr × Str)} {t : XK → TE} {σ : L2.St} {H : Hp} {Q : VK} (hT : Tabs T H)
    (h : ∀ H1, ExtN H H1 → Tabs T H1 → TTword K (fun E H' Q' => t E σ H' Q') H1 Q) : tLam T (TTword K) t σ H Q := ⟨hT, h⟩
end SS

/-! rows as data; the deal as a plain function -/
namespace SS
open PySem PySem.Spec PyProof.Rows L2 LamX

abbrev Row := Int × Int × Int
def rowD (r : Row) : PyData := .tuple [.int r.1, .int r.2.1, .int r.2.2]
def rowsD (rs : List Row) : PyData := .list (rs.map rowD)
def GoodRow (r : Row) : Prop := 1 ≤ r.1 ∧ r.1 ≤ 10 ^ 30 ∧ 0 ≤ r.2.1 ∧ r.2.1 ≤ r.2.2 ∧ r.2.2 ≤ 200
def Good (rs : List Row) : Prop := 1 ≤ rs.length ∧ rs.length ≤ 12 ∧ ∀ r ∈ rs, GoodRow r
/-- a row's tuple on the heap -/
def Rw (K : PySem.W.Frag) (H : Hp) (x : V) (r : Row) : Prop := ∃ a, x = .ref a ∧ SqT K H a [.int r.1, .int r.2.1, .int r.2.2]
/-- the rows at p -/
structure Rws (K : PySem.W.Frag) (H : Hp) (p : Addr) (xs : List V) (rs : List Row) : Prop where
  l : SqL K H p xs
  n : xs.length = rs.length
  at_ : ∀ (i : Nat) (x : V) (r : Row), xs[i]? = some x → rs[i]? = some r → Rw K H x r
theorem rw_ext {K : PySem.W.Frag} {H H' : Hp} {x : V} {r : Row} (e : ExtN H H') (h : Rw K H x r) : Rw K H' x r := by
  obtain ⟨a, h1, h2⟩ := h
  exact ⟨a, h1, ext_tup e h2⟩
theorem rw_same {K : PySem.W.Frag} {H H' : Hp} {x : V} {r : Row} (e : Same H H') (h : Rw K H x r) : Rw K H' x r := rw_ext (ext_of e) h
theorem Rws.ext {K : PySem.W.Frag} {H H' : Hp} {p : Addr} {xs : List V} {rs : List Row} (h : Rws K H p xs rs) (e : ExtN H H') : Rws K H' p xs rs :=
  ⟨ext_seq e h.l, h.n, fun i x r h1 h2 => rw_ext e (h.at_ i x r h1 h2)⟩
theorem Rws.same {K : PySem.W.Frag} {H H' : Hp} {p : Addr} {xs : List V} {rs : List Row} (h : Rws K H p xs rs) (e : Same H H') : Rws K H' p xs rs := h.ext (ext_of e)
theorem Rws.get {K : PySem.W.Frag} {H : Hp} {p : Addr} {xs : List V} {rs : List Row} (h : Rws K H p xs rs) {i : Nat} {r : Row} (e : rs[i]? = some r) : ∃ a, xs[i]? = some (.ref a) ∧ SqT K H a [.int r.1, .int r.2.1, .int r.2.2] := by
  have hi : i < xs.length := by
    rw [h.n]
    exact (List.getElem?_eq_some_iff.mp e).1
  have ex : xs[i]? = some xs[i] := List.getElem?_eq_getElem hi
  obtain ⟨a, h1, h2⟩ := h.at_ i _ r ex e
  exact ⟨a, by rw [ex, h1], h2⟩
theorem Rws.getV {K : PySem.W.Frag} {H : Hp} {p : Addr} {xs : List V} {rs : List Row} (h : Rws K H p xs rs) {i : Nat} {x : V} (e : xs[i]? = some x) : ∃ r a, rs[i]? = some r ∧ x = .ref a ∧ SqT K H a [.int r.1, .int r.2.1, .int r.2.2] := by
  have hi : i < rs.length := by
    rw [← h.n]
    exact (List.getElem?_eq_some_iff.mp e).1
  have er : rs[i]? = some rs[i] := List.getElem?_eq_getElem hi
  obtain ⟨a, h1, h2⟩ := h.at_ i x _ e er
  exact ⟨_, a, er, h1, h2⟩
theorem dp_row {K : PySem.W.Frag} {H : Hp} {a : Addr} {r : Row} (h : SqT K H a [.int r.1, .int r.2.1, .int r.2.2]) : Dp K H (.ref a) (rowD r) := .tup h (.cons (.int _) (.cons (.int _) (.cons (.int _) .nil)))
theorem rw_of_dp {K : PySem.W.Frag} {H : Hp} {x : V} {r : Row} (h : Dp K H x (rowD r)) : Rw K H x r := by
  cases h with
  | tup h1 h2 =>
    cases h2 with
    | cons a h2 =>
      cases h2 with
      | cons b h2 =>
        cases h2 with
        | cons c h2 =>
          cases h2
          cases a
          cases b
          cases c
          exact ⟨_, rfl, h1⟩
theorem dp_rw {K : PySem.W.Frag} {H : Hp} {x : V} {r : Row} (h : Rw K H x r) : Dp K H x (rowD r) := by
  obtain ⟨a, rfl, h⟩ := h
  exact dp_row h
theorem dpa_rows {K : PySem.W.Frag} {H : Hp} : ∀ {xs : List V} {rs : List Row}, xs.length = rs.length → (∀ (i : Nat) (x : V) (r : Row), xs[i]? = some x → rs[i]? = some r → Rw K H x r) → DpAll K H xs (rs.map rowD)
  | [], [], _, _ => .nil
  | [], _ :: _, h, _ => by cases h
  | _ :: _, [], h, _ => by cases h
  | x :: xs, r :: rs, h, k => .cons (dp_rw (k 0 x r rfl rfl)) (dpa_rows (Nat.succ.inj h) fun i y s h1 h2 => k (i + 1) y s (by simpa using h1) (by simpa using h2))
theorem Rws.dp {K : PySem.W.Frag} {H : Hp} {p : Addr} {xs : List V} {rs : List Row} (h : Rws K H p xs rs) : Dp K H (.ref p) (rowsD rs) := .lst h.l (dpa_rows h.n h.at_)
theorem rws_of_dpa {K : PySem.W.Frag} {H : Hp} {p : Addr} {xs : List V} {rs : List Row} (h : SqL K H p xs) (hd : DpAll K H xs (rs.map rowD)) : Rws K H p xs rs := by
  refine ⟨h, by rw [dpa_len hd, List.length_map], fun i x r h1 h2 => ?_⟩
  obtain ⟨d, e1, e2⟩ := dpa_getV hd h1
  rw [List.getElem?_map, h2] at e1
  cases e1
  exact rw_of_dp e2
theorem rws_of_dp {K : PySem.W.Frag} {H : Hp} {p : Addr} {rs : List Row} (h : Dp K H (.ref p) (rowsD rs)) : ∃ xs, Rws K H p xs rs := by
  cases h with
  | lst h1 h2 => exact ⟨_, rws_of_dpa h1 h2⟩
theorem dp_rows_ref {K : PySem.W.Frag} {H : Hp} {v : V} {rs : List Row} (h : Dp K H v (rowsD rs)) : ∃ p xs, v = .ref p ∧ Rws K H p xs rs := by
  cases h with
  | lst h1 h2 => exact ⟨_, _, rfl, rws_of_dpa h1 h2⟩

/-! ### what is a list's tuple, what are lists, by their data -/
def isWh0 (d : PyData) (lo hi : Int) : Bool := match d with
  | .int i => decide (lo ≤ i) && decide (i ≤ hi)
  | _ => false
def isListD : PyData → Bool
  | .tuple [a, b, .int m] => isWh0 a 1 (10 ^ 30) && (isWh0 (.int m) 0 200 && isWh0 b 0 m)
  | _ => false
def areListsD : PyData → Bool
  | .list ds => decide (1 ≤ ds.length) && (decide (ds.length ≤ 12) && ds.all isListD)
  | _ => false
theorem wh_int {d : PyData} {lo hi : Int} (h : isWh0 d lo hi = true) : ∃ i, d = .int i ∧ lo ≤ i ∧ i ≤ hi := by
  cases d with
  | int i =>
    have h2 : (decide (lo ≤ i) && decide (i ≤ hi)) = true := h
    obtain ⟨h3, h4⟩ := He.ba h2
    exact ⟨i, rfl, of_decide_eq_true h3, of_decide_eq_true h4⟩
  | _ => cases h
theorem wh_of {i lo hi : Int} (h1 : lo ≤ i) (h2 : i ≤ hi) : isWh0 (.int i) lo hi = true := by
  show (decide (lo ≤ i) && decide (i ≤ hi)) = true
  rw [decide_eq_true h1, decide_eq_true h2]
  rfl
theorem wh_int_iff {i lo hi : Int} : isWh0 (.int i) lo hi = true ↔ lo ≤ i ∧ i ≤ hi := by
  show (decide (lo ≤ i) && decide (i ≤ hi)) = true ↔ _
  rw [Bool.and_eq_true, decide_eq_true_eq, decide_eq_true_eq]
theorem isListD_row {r : Row} : isListD (rowD r) = true ↔ GoodRow r := by
  show (isWh0 (.int r.1) 1 (10 ^ 30) && (isWh0 (.int r.2.2) 0 200 && isWh0 (.int r.2.1) 0 r.2.2)) = true ↔ _
  rw [Bool.and_eq_true, Bool.and_eq_true, wh_int_iff, wh_int_iff, wh_int_iff]
  unfold GoodRow
  constructor
  · rintro ⟨⟨a, b⟩, ⟨c, d⟩, e, f⟩
    exact ⟨a, b, e, f, d⟩
  · rintro ⟨a, b, e, f, d⟩
    exact ⟨⟨a, b⟩, ⟨by omega, d⟩, e, f⟩
theorem isListD_is {d : PyData} (h : isListD d = true) : ∃ r : Row, d = rowD r ∧ GoodRow r := by
  match d, h with
  | .tuple [a, b, .int m], h =>
    have h2 : (isWh0 a 1 (10 ^ 30) && (isWh0 (.int m) 0 200 && isWh0 b 0 m)) = true := h
    obtain ⟨h3, h4⟩ := He.ba h2
    obtain ⟨h4, h5⟩ := He.ba h4
    obtain ⟨x, rfl, _⟩ := wh_int h3
    obtain ⟨y, rfl, _⟩ := wh_int h5
    exact ⟨(x, y, m), rfl, isListD_row.mp h⟩
theorem all_rows : ∀ {ds : List PyData}, ds.all isListD = true → ∃ rs : List Row, ds = rs.map rowD ∧ ∀ r ∈ rs, GoodRow r
  | [], _ => ⟨[], rfl, fun r h => by cases h⟩
  | d :: ds, h => by
    rw [List.all_cons] at h
    obtain ⟨h1, h2⟩ := He.ba h
    obtain ⟨r, rfl, g⟩ := isListD_is h1
    obtain ⟨rs, rfl, gs⟩ := all_rows h2
    exact ⟨r :: rs, rfl, fun x hx => by
      rcases List.mem_cons.mp hx with rfl | hx
      · exact g
      · exact gs x hx⟩
theorem areListsD_is {d : PyData} (h : areListsD d = true) : ∃ rs : List Row, d = rowsD rs ∧ Good rs := by
  cases d with
  | list ds =>
    have h2 : (decide (1 ≤ ds.length) && (decide (ds.length ≤ 12) && ds.all isListD)) = true := h
    obtain ⟨h3, h4⟩ := He.ba h2
    obtain ⟨h4, h5⟩ := He.ba h4
    obtain ⟨rs, rfl, g⟩ := all_rows h5
    rw [List.length_map] at h3 h4
    exact ⟨rs, rfl, of_decide_eq_true h3, of_decide_eq_true h4, g⟩
  | _ => cases h
theorem areListsD_rows {rs : List Row} (g : Good rs) : areListsD (rowsD rs) = true := by
  show (decide (1 ≤ (rs.map rowD).length) && (decide ((rs.map rowD).length ≤ 12) && (rs.map rowD).all isListD)) = true
  rw [List.length_map, decide_eq_true g.1, decide_eq_true g.2.1, Bool.true_and, Bool.true_and, List.all_map, List.all_eq_true]
  intro r hr
  exact isListD_row.mpr (g.2.2 r hr)

/-! ### sums of a column -/
def lows (rs : List Row) : List Int := rs.map fun r => r.2.1
def caps (rs : List Row) : List Int := rs.map fun r => r.2.2
def votes (rs : List Row) : List Int := rs.map fun r => r.1
/-- [row[k] for row in rows], k = 0, 1, 2 -/
def col (k : Nat) (r : Row) : Int := match k with
  | 0 => r.1
  | 1 => r.2.1
  | _ => r.2.2
theorem col_at {K : PySem.W.Frag} {H : Hp} {a : Addr} {r : Row} {k : Nat} (hk : k < 3) (h : SqT K H a [.int r.1, .int r.2.1, .int r.2.2]) {Q : VK} (q : Q (.int (col k r)) H) : rIxT K (.ref a) (.int (k : Int)) H Q := by
  refine ⟨a, _, _, _, rfl, rfl, h, atI_nat (j := k) (v := .int (col k r)) ?_, q⟩
  match k, hk with
  | 0, _ => rfl
  | 1, _ => rfl
  | 2, _ => rfl

/-! ### the deal -/
/-- is_above of two claims -/
def above (a b : Int × Int) : Bool := decide (b.1 * a.2 < a.1 * b.2)
/-- the divisor of a seat -/
def dv (w : Str) (c : Int) : Int := if w = "whole" then c else if w = "odd" then 2 * c - 1 else if w = "third" then 3 * c - 2 else if w = "early" then c - 1 else if c = 1 then 7 else 10 * c - 5
def ways : List Str := ["whole", "odd", "third", "early", "bent"]
abbrev rw0 : Row := (0, 0, 0)
def rowAt (rs : List Row) (i : Nat) : Row := rs.getD i rw0
def cl (w : Str) (r : Row) (k : Int) : Int × Int := (r.1, dv w k)
def nxt (w : Str) (rs : List Row) (f : List Int) (i : Nat) : Int × Int := cl w (rowAt rs i) (f.getD i 0 + 1)
def opens (rs : List Row) (f : List Int) : List Nat := (List.range rs.length).filter fun i => decide (f.getD i 0 < (rowAt rs i).2.2)
def gStep (w : Str) (rs : List Row) (f : List Int) (best : List Nat) (i : Nat) : List Nat := match best with
  | [] => [i]
  | b :: r => if above (nxt w rs f b) (nxt w rs f i) then b :: r else if above (nxt w rs f i) (nxt w rs f b) then [i] else (b :: r) ++ [i]
def greatest (w : Str) (rs : List Row) (f : List Int) : List Nat := (opens rs f).foldl (gStep w rs f) []
def bump1 (f : List Int) (i : Nat) : List Int := f.set i (f.getD i 0 + 1)
def bump (f : List Int) (ps : List Nat) : List Int := ps.foldl bump1 f
structure Dealt where
  sure : List Int
  tied : List Nat
  left : Int
  last : List Nat
def dealtM (w : Str) (rs : List Row) : Nat → List Int → Int → List Nat → Dealt
  | 0, f, _, last => ⟨f, [], 0, last⟩
  | n + 1, f, left, last => if 0 < left then (if left < (greatest w rs f).length then ⟨f, greatest w rs f, left, greatest w rs f⟩ else dealtM w rs n (bump f (greatest w rs f)) (left - (greatest w rs f).length) (greatest w rs f)) else ⟨f, [], 0, last⟩
def dealM (w : Str) (rs : List Row) (seats : Int) : Dealt := dealtM w rs ((seats - (lows rs).sum).toNat + 1) (lows rs) (seats - (lows rs).sum) []
def natsV (l : List Nat) : List V := l.map fun (i : Nat) => V.int (i : Int)

theorem ways_cases {s : Str} (h : s ∈ ways) : s = "whole" ∨ s = "odd" ∨ s = "third" ∨ s = "early" ∨ s = "bent" := by
  simpa [ways] using h
theorem dv_whole (c : Int) : dv "whole" c = c := if_pos rfl
theorem dv_odd (c : Int) : dv "odd" c = 2 * c - 1 := by
  unfold dv
  rw [if_neg (by decide), if_pos rfl]
theorem dv_third (c : Int) : dv "third" c = 3 * c - 2 := by
  unfold dv
  rw [if_neg (by decide), if_neg (by decide), if_pos rfl]
theorem dv_early (c : Int) : dv "early" c = c - 1 := by
  unfold dv
  rw [if_neg (by decide), if_neg (by decide), if_neg (by decide), if_pos rfl]
theorem dv_bent (c : Int) : dv "bent" c = if c = 1 then 7 else 10 * c - 5 := by
  unfold dv
  rw [if_neg (by decide), if_neg (by decide), if_neg (by decide), if_neg (by decide)]
/-- divisors of good counts are small, not negative, and rise -/
theorem dv_bound {w : Str} (h : w ∈ ways) {c : Int} (h1 : 1 ≤ c) : 0 ≤ dv w c ∧ dv w c ≤ 10 * c ∧ dv w c < dv w (c + 1) := by
  rcases ways_cases h with rfl | rfl | rfl | rfl | rfl
  · rw [dv_whole, dv_whole]
    omega
  · rw [dv_odd, dv_odd]
    omega
  · rw [dv_third, dv_third]
    omega
  · rw [dv_early, dv_early]
    omega
  · rw [dv_bent, dv_bent]
    by_cases e : c = 1
    · subst e
      decide
    · rw [if_neg e, if_neg (by omega)]
      omega

/-! ### rules with the written part told (for comprehensions' blocks) -/
section
variable {X : Cx} {K : PySem.W.Frag}
theorem ix_listK (h : X.K = K) : IxR X (rIxL K) := h ▸ ix_list
theorem ix_tupK (h : X.K = K) : IxR X (rIxT K) := h ▸ ix_tup
theorem call_isAK (h : X.K = K) : CallR X (.builtin "isinstance") (rIsA K) := h ▸ call_isA
theorem cr_sumK (h : X.K = K) (hc : X.calm = true) : CallR X (.builtin "sum") (rSum K) := h ▸ cr_sum hc
theorem cr_anyK (h : X.K = K) (hc : X.calm = true) : CallR X (.builtin "any") (rAny K) := h ▸ cr_any hc
theorem cr_allK (h : X.K = K) (hc : X.calm = true) : CallR X (.builtin "all") (rAll K) := h ▸ cr_all hc
theorem cr_sortedK (h : X.K = K) : CallR X (.builtin "sorted") (rSorted K) := h ▸ cr_sorted
theorem call_len_seqK (h : X.K = K) : CallR X (.builtin "len") (fun xs H Q => ∃ p ys, xs = [.ref p] ∧ (SqL K H p ys ∨ SqT K H p ys) ∧ Q (.int ys.length) H) := h ▸ call_len_seq
theorem call_list_ofK (h : X.K = K) : CallR X (.type "list") (fun xs H Q => ∃ p ys, xs = [.ref p] ∧ (SqL K H p ys ∨ SqT K H p ys) ∧ ∀ l, H l = none → Q (.ref l) (upd H l (.lst ys))) := h ▸ call_list_of
theorem call_tuple_ofK (h : X.K = K) : CallR X (.type "tuple") (fun xs H Q => ∃ p ys, xs = [.ref p] ∧ ((SqL K H p ys ∧ ∀ l, H l = none → Q (.ref l) (upd H l (.tup ys))) ∨ (SqT K H p ys ∧ Q (.ref p) H))) := h ▸ call_tuple_of
theorem sl_listK (h : X.K = K) : SlR X (rSlL K) := h ▸ sl_list
theorem sl_tupK (h : X.K = K) : SlR X (rSlT K) := h ▸ sl_tup
theorem op_in_seqK (h : X.K = K) : OpR X (compareOp .In) (rIn K false) := h ▸ op_in_seq
theorem op_notIn_seqK (h : X.K = K) : OpR X (compareOp .NotIn) (rIn K true) := h ▸ op_notIn_seq
theorem op_eqDK (h : X.K = K) (hu : X.A.units + 64 < cLine) : OpR X (compareOp .Eq) (rEqD K) := h ▸ op_eqD hu
theorem op_neDK (h : X.K = K) (hu : X.A.units + 64 < cLine) : OpR X (compareOp .NotEq) (rNeD K) := h ▸ op_neD hu
end

/-! ### short rules of readings -/
theorem iteNB {b : Bool} {A B : Prop} (h1 : b = false → A) (h2 : b = true → B) : if (!b) = true then A else B := by
  cases b with
  | true => exact iteF (h2 rfl)
  | false => exact iteT (h1 rfl)
theorem int_ix {fs : List Int} {i : Nat} (hi : i < fs.length) : atI (fs.map V.int) (i : Int) = some (.int (fs.getD i 0)) := by
  refine atI_nat (j := i) ?_
  rw [List.getElem?_map, List.getElem?_eq_getElem hi, List.getD_eq_getElem?_getD, List.getElem?_eq_getElem hi]
  rfl
theorem decS {x y : Str} : (decide (V.str x = V.str y) = true) = (x = y) := by
  apply propext
  constructor
  · intro h
    exact V.str.inj (of_decide_eq_true h)
  · intro h
    rw [h]
    exact decide_eq_true rfl
theorem decI {x y : Int} : (decide (V.int x = V.int y) = true) = (x = y) := by
  apply propext
  constructor
  · intro h
    exact V.int.inj (of_decide_eq_true h)
  · intro h
    rw [h]
    exact decide_eq_true rfl
/-- a test of two texts, of two numbers -/
theorem ifS {x y : Str} {A B : Prop} (h1 : x = y → A) (h2 : ¬ x = y → B) : if decide (V.str x = V.str y) = true then A else B := by
  by_cases e : x = y
  · rw [if_pos (by rw [decS]; exact e)]
    exact h1 e
  · rw [if_neg (by rw [decS]; exact e)]
    exact h2 e
theorem ifI {x y : Int} {A B : Prop} (h1 : x = y → A) (h2 : ¬ x = y → B) : if decide (V.int x = V.int y) = true then A else B := by
  by_cases e : x = y
  · rw [if_pos (by rw [decI]; exact e)]
    exact h1 e
  · rw [if_neg (by rw [decI]; exact e)]
    exact h2 e
theorem ifNI {x y : Int} {A B : Prop} (h1 : ¬ x = y → A) (h2 : x = y → B) : if (!decide (V.int x = V.int y)) = true then A else B := by
  by_cases e : x = y
  · rw [show decide (V.int x = V.int y) = true by rw [decI]; exact e]
    exact iteF (h2 e)
  · rw [show decide (V.int x = V.int y) = false by
      rw [← Bool.not_eq_true, decI]
      exact e]
    exact iteT (h1 e)
theorem ifD {c : Prop} [Decidable c] {A B : Prop} (h1 : c → A) (h2 : ¬ c → B) : if decide c = true then A else B := by
  by_cases e : c
  · rw [decide_eq_true e]
    exact iteT (h1 e)
  · rw [decide_eq_false e]
    exact iteF (h2 e)
theorem ifND {c : Prop} [Decidable c] {A B : Prop} (h1 : ¬ c → A) (h2 : c → B) : if (!decide c) = true then A else B := by
  by_cases e : c
  · rw [decide_eq_true e]
    exact iteF (h2 e)
  · rw [decide_eq_false e]
    exact iteT (h1 e)
theorem small_l {i j : Int} (h : -(2 ^ 64) < i ∧ i < 2 ^ 64) : CMul i j := .inl h
theorem small_r {i j : Int} (h : -(2 ^ 64) < j ∧ j < 2 ^ 64) : CMul i j := .inr h
/-- what a comprehension's loop asks: J walked, D the new list -/
abbrev LcGoal (J : It) (g : TG) (tt : TT) (te : TE) (vs : List Nat) (σ : L2.St) (H1 : Hp) (D : Addr) (Qd : Hp → Prop) : Prop :=
  ∃ W : Nat → Nat → Hp → Prop, (∃ m, W 0 m (upd H1 D (.lst []))) ∧ ∀ i m H, W i m H →
    (J.stop i H ∧ Qd H) ∨ (J.go i H ∧ ∃ Nx : Hp → Prop, (∀ H', Nx H' → ∃ m', m' < m ∧ W (i + 1) m' H') ∧ ∀ x H', J.yld i H x H' → g x (wipe σ vs) H' fun σ2 H2 => wipe σ2 vs = wipe σ vs ∧ tt σ2 H2 fun b H3 =>
      if b = true then te σ2 H3 fun y H4 => ∃ acc, H4 D = some (.lst acc) ∧ acc.length < sizeLine ∧ Nx (upd H4 D (.lst (acc ++ [y]))) else Nx H3)
/-- a column: [row[k] for row in rows], the rows at p -/
theorem lc_col {K : PySem.W.Frag} {σ : L2.St} {H : Hp} {Qd : Hp → Prop} {i k : Nat} {p D : Addr} {xs : List V} {rs : List Row} (h : Rws K H p xs rs) (hk : k < 3) (hi : i < σ.length) (hl : rs.length ≤ 1000) (nD : H D = none)
    (q : ∀ H', Same H H' → H' D = some (.lst ((rs.map (col k)).map V.int)) → Qd H') : LcGoal (Itl K p) (gName i) tYes (tOp (rIxT K) (tVar i) (tC (.int (k : Int)))) [i] σ H D Qd := by
  refine lc_list (K := K) (a := p) (xs := xs) (fun j H' => Same H H' ∧ H' D = some (.lst (((rs.take j).map (col k)).map V.int))) ⟨same_new nD, upd_same⟩ (fun j H' _ ⟨s, _⟩ => same_seq s h.l) (fun j x H' hx ⟨s, e⟩ => ?_) (fun H' ⟨s, e⟩ => ?_)
  · obtain ⟨r, a, hr, rfl, ha⟩ := (h.same s).getV hx
    refine ⟨?_, .ref a, ?_, ?_⟩
    rotate_left 2
    · refine col_at (Q := fun y H4 => ∃ acc, H4 D = some (.lst acc) ∧ acc.length < sizeLine ∧ Same H (upd H4 D (.lst (acc ++ [y]))) ∧ upd H4 D (.lst (acc ++ [y])) D = some (.lst (((rs.take (j + 1)).map (col k)).map V.int))) hk ha ⟨_, e, szl ?_, same_mut s nD, ?_⟩
      · rw [List.length_map, List.length_map, List.length_take]
        omega
      · rw [upd_same, List.take_add_one, hr, List.map_append, List.map_append]
        rfl
    · show ((σ.set i none).set i (some (V.ref a))).set i none = σ.set i none
      rw [List.set_set, List.set_set]
    · show ((σ.set i none).set i (some (V.ref a)))[i]? = _
      rw [List.getElem?_set_self (by rw [List.length_set]; exact hi)]
  · have e2 : rs.take xs.length = rs := List.take_of_length_le (by rw [h.n]; exact Nat.le_refl _)
    rw [e2] at e
    exact q H' s e
end SS

/-! data of whole numbers: shaped, like itself; the greatest places -/
namespace SS
open PySem PySem.Spec PyProof.Rows L2 LamX

/-- numbers, texts of good signs, lists and tuples of such, so deep -/
def Lv : Nat → PyData → Prop
  | 0, d => (∃ i, d = .int i) ∨ (∃ b, d = .bool b)
  | n + 1, d => Lv n d ∨ ∃ ds, (d = .list ds ∨ d = .tuple ds) ∧ ∀ x ∈ ds, Lv n x
theorem lv_up {d : PyData} {n : Nat} (h : Lv n d) : Lv (n + 1) d := .inl h
theorem lv_int (n : Nat) (i : Int) : Lv n (.int i) := by
  induction n with
  | zero => exact .inl ⟨i, rfl⟩
  | succ n ih => exact .inl ih
theorem lv_list {n : Nat} {ds : List PyData} (h : ∀ x ∈ ds, Lv n x) : Lv (n + 1) (.list ds) := .inr ⟨ds, .inl rfl, h⟩
theorem lv_tup {n : Nat} {ds : List PyData} (h : ∀ x ∈ ds, Lv n x) : Lv (n + 1) (.tuple ds) := .inr ⟨ds, .inr rfl, h⟩
theorem lv_can : ∀ (n : Nat) (d : PyData), Lv n d → d.canLay0 = true ∧ d.depth ≤ n ∧ PyData.eqv d d = true
  | 0, _, .inl ⟨i, rfl⟩ => by simp [PyData.canLay0, PyData.depth, PyData.eqv]
  | 0, _, .inr ⟨i, rfl⟩ => by simp [PyData.canLay0, PyData.depth, PyData.eqv]
  | n + 1, d, .inl h => by
    obtain ⟨a, b, c⟩ := lv_can n d h
    exact ⟨a, by omega, c⟩
  | n + 1, d, .inr ⟨ds, hd, h⟩ => by
    have key : ∀ ds : List PyData, (∀ x ∈ ds, Lv n x) → PyData.canLayAll0 ds = true ∧ PyData.depthAll ds ≤ n ∧ PyData.eqvAll ds ds = true := by
      intro ds
      induction ds with
      | nil => intro _; simp [PyData.canLayAll0, PyData.depthAll, PyData.eqvAll]
      | cons x r ih =>
        intro h
        obtain ⟨a, b, c⟩ := lv_can n x (h x (List.mem_cons_self ..))
        obtain ⟨a2, b2, c2⟩ := ih fun y hy => h y (List.mem_cons_of_mem _ hy)
        refine ⟨by simp [PyData.canLayAll0, a, a2], ?_, by simp [PyData.eqvAll, c, c2]⟩
        simp only [PyData.depthAll]
        omega
    obtain ⟨a, b, c⟩ := key ds h
    rcases hd with rfl | rfl
    · exact ⟨by simp [PyData.canLay0, a], by simp only [PyData.depth]; omega, by simp [PyData.eqv, c]⟩
    · exact ⟨by simp [PyData.canLay0, a], by simp only [PyData.depth]; omega, by simp [PyData.eqv, c]⟩
theorem lv_shaped {n : Nat} {d : PyData} (h : Lv n d) (hn : n ≤ 64) : SeqAt.shaped d = true := by
  obtain ⟨a, b, _⟩ := lv_can n d h
  show (d.canLay0 && decide (d.depth ≤ 64)) = true
  rw [a, Bool.true_and]
  exact decide_eq_true (by omega)
theorem lv_refl {n : Nat} {d : PyData} (h : Lv n d) : PyData.eqv d d = true := (lv_can n d h).2.2
theorem lv_ints (ns : List Int) : Lv 1 (.list (ns.map PyData.int)) := lv_list (n := 0) fun x hx => by
  obtain ⟨i, _, rfl⟩ := List.mem_map.mp hx
  exact lv_int 0 i
theorem lv_row (r : Row) : Lv 1 (rowD r) := lv_tup (n := 0) fun x hx => by
  simp only [List.mem_cons, List.not_mem_nil, or_false] at hx
  rcases hx with rfl | rfl | rfl
  · exact lv_int 0 _
  · exact lv_int 0 _
  · exact lv_int 0 _
theorem lv_rows (rs : List Row) : Lv 2 (rowsD rs) := lv_list (n := 1) fun x hx => by
  obtain ⟨i, _, rfl⟩ := List.mem_map.mp hx
  exact lv_row i
theorem eqv_ints : ∀ ns ms : List Int, PyData.eqv (.list (ns.map PyData.int)) (.list (ms.map PyData.int)) = decide (ns = ms) := by
  have key : ∀ ns ms : List Int, PyData.eqvAll (ns.map PyData.int) (ms.map PyData.int) = decide (ns = ms) := by
    intro ns
    induction ns with
    | nil =>
      intro ms
      cases ms <;> simp [PyData.eqvAll]
    | cons n ns ih =>
      intro ms
      cases ms with
      | nil => simp [PyData.eqvAll]
      | cons m ms =>
        simp only [List.map_cons, PyData.eqvAll, PyData.eqv, ih ms]
        by_cases h : n = m <;> by_cases h' : ns = ms <;> simp [h, h']
  intro ns ms
  simp only [PyData.eqv]
  exact key ns ms
def natsI (l : List Nat) : List Int := l.map fun (i : Nat) => (i : Int)
theorem natsV_ints (l : List Nat) : natsV l = (natsI l).map V.int := by
  unfold natsV natsI
  rw [List.map_map]
  rfl
theorem natsI_nil {l : List Nat} : (natsI l = []) = (l = []) := by
  unfold natsI
  exact propext List.map_eq_nil_iff
theorem natsV_app (l m : List Nat) : natsV (l ++ m) = natsV l ++ natsV m := List.map_append
theorem natsV_len (l : List Nat) : (natsV l).length = l.length := List.length_map ..
theorem natsV_at {l : List Nat} {i : Nat} {x : V} (h : (natsV l)[i]? = some x) : ∃ j, l[i]? = some j ∧ x = .int (j : Int) := by
  unfold natsV at h
  rw [List.getElem?_map] at h
  cases e : l[i]? with
  | none => rw [e] at h; cases h
  | some j =>
    rw [e] at h
    cases h
    exact ⟨j, rfl, rfl⟩
/-- nats != [] -/
theorem ne_nil {K : PySem.W.Frag} {H : Hp} {a b : Addr} {l : List Nat} {Q : VK} (h1 : SqL K H a (natsV l)) (h2 : SqL K H b []) (q : Q (.bl (!decide (l = []))) H) : rNeD K (.ref a) (.ref b) H Q := by
  rw [natsV_ints] at h1
  refine ⟨_, _, .lst h1 (dpa_ints _), .lst h2 .nil, lv_shaped (lv_ints _) (by decide), by decide, ?_⟩
  have e := eqv_ints (natsI l) []
  rw [List.map_nil] at e
  rw [e, show decide (natsI l = []) = decide (l = []) from decide_eq_decide.mpr (by rw [natsI_nil])]
  exact q

/-! ### which are the greatest -/
variable {w : Str} {rs : List Row} {f : List Int}
theorem gStep_sub (b : List Nat) (i : Nat) : (gStep w rs f b i).Sublist (b ++ [i]) := by
  unfold gStep
  cases b with
  | nil => exact List.Sublist.refl _
  | cons x r =>
    dsimp only
    by_cases h1 : above (nxt w rs f x) (nxt w rs f i) = true
    · rw [if_pos h1]
      exact List.sublist_append_left _ _
    · rw [if_neg h1]
      by_cases h2 : above (nxt w rs f i) (nxt w rs f x) = true
      · rw [if_pos h2]
        exact List.sublist_append_right _ _
      · rw [if_neg h2]
        exact List.Sublist.refl _
theorem gFold_sub : ∀ (l b : List Nat), (l.foldl (gStep w rs f) b).Sublist (b ++ l)
  | [], b => by
    rw [List.append_nil]
    exact List.Sublist.refl _
  | i :: l, b => by
    rw [List.foldl_cons]
    refine (gFold_sub l _).trans ?_
    have h := (gStep_sub (w := w) (rs := rs) (f := f) b i).append_right l
    rw [List.append_assoc] at h
    exact h
theorem greatest_sub : (greatest w rs f).Sublist (opens rs f) := gFold_sub (opens rs f) []
theorem gStep_ne (b : List Nat) (i : Nat) : gStep w rs f b i ≠ [] := by
  unfold gStep
  cases b with
  | nil => simp
  | cons x r =>
    dsimp only
    by_cases h1 : above (nxt w rs f x) (nxt w rs f i) = true
    · rw [if_pos h1]; simp
    · rw [if_neg h1]
      by_cases h2 : above (nxt w rs f i) (nxt w rs f x) = true
      · rw [if_pos h2]; simp
      · rw [if_neg h2]; simp
theorem gFold_ne : ∀ (l b : List Nat), b ≠ [] → l.foldl (gStep w rs f) b ≠ []
  | [], b, h => h
  | i :: l, b, h => by
    rw [List.foldl_cons]
    exact gFold_ne l _ (gStep_ne b i)
theorem greatest_ne (h : opens rs f ≠ []) : greatest w rs f ≠ [] := by
  unfold greatest
  cases e : opens rs f with
  | nil => exact absurd e h
  | cons i l =>
    rw [List.foldl_cons]
    exact gFold_ne l _ (gStep_ne [] i)
theorem opens_mem {i : Nat} : i ∈ opens rs f ↔ i < rs.length ∧ f.getD i 0 < (rowAt rs i).2.2 := by
  unfold opens
  rw [List.mem_filter, List.mem_range, decide_eq_true_eq]
theorem opens_lt {i : Nat} (h : i ∈ opens rs f) : i < rs.length := (opens_mem.mp h).1
theorem opens_nodup : (opens rs f).Nodup := List.nodup_range.filter _
theorem opens_sorted : (opens rs f).Pairwise (· < ·) := List.pairwise_lt_range.filter _
theorem opens_len : (opens rs f).length ≤ rs.length := by
  have h := List.length_filter_le (fun i => decide (f.getD i 0 < (rowAt rs i).2.2)) (List.range rs.length)
  rw [List.length_range] at h
  exact h
theorem greatest_mem {i : Nat} (h : i ∈ greatest w rs f) : i ∈ opens rs f := greatest_sub.mem h
theorem greatest_len : (greatest w rs f).length ≤ rs.length := Nat.le_trans greatest_sub.length_le opens_len
theorem row_get {i : Nat} (h : i < rs.length) : rs[i]? = some (rowAt rs i) := by
  unfold rowAt
  rw [List.getD_eq_getElem?_getD, List.getElem?_eq_getElem h]
  rfl
theorem row_good (g : ∀ r ∈ rs, GoodRow r) {i : Nat} (h : i < rs.length) : GoodRow (rowAt rs i) := g _ (List.mem_of_getElem? (row_get h))
end SS

/-! the deal's turn: bounds and sums -/
namespace SS
open PySem PySem.Spec PyProof.Rows L2 LamX
variable {w : Str} {rs : List Row} {f : List Int}

theorem getD_set (l : List Int) (i j : Nat) (a : Int) (hi : i < l.length) : (l.set i a).getD j 0 = if i = j then a else l.getD j 0 := by
  rw [List.getD_eq_getElem?_getD, List.getElem?_set]
  by_cases e : i = j
  · rw [if_pos e, if_pos e, if_pos hi]
    rfl
  · rw [if_neg e, if_neg e, List.getD_eq_getElem?_getD]
theorem sum_set : ∀ (l : List Int) (i : Nat) (a : Int), i < l.length → (l.set i a).sum = l.sum - l.getD i 0 + a
  | [], i, a, h => by cases h
  | x :: l, 0, a, h => by
    show a + l.sum = x + l.sum - x + a
    omega
  | x :: l, i + 1, a, h => by
    show x + (l.set i a).sum = x + l.sum - l.getD i 0 + a
    rw [sum_set l i a (Nat.lt_of_succ_lt_succ h)]
    omega
theorem bump1_len (f : List Int) (i : Nat) : (bump1 f i).length = f.length := List.length_set ..
theorem bump_len : ∀ (ps : List Nat) (f : List Int), (bump f ps).length = f.length
  | [], f => rfl
  | i :: ps, f => by
    show (bump (bump1 f i) ps).length = _
    rw [bump_len ps, bump1_len]
theorem bump_app (f : List Int) (a b : List Nat) : bump f (a ++ b) = bump (bump f a) b := List.foldl_append
theorem bump_get : ∀ (ps : List Nat) (f : List Int), ps.Nodup → (∀ i ∈ ps, i < f.length) → ∀ j, (bump f ps).getD j 0 = f.getD j 0 + if j ∈ ps then 1 else 0
  | [], f, _, _, j => by
    show f.getD j 0 = _
    simp
  | i :: ps, f, hn, hl, j => by
    have hi := hl i (List.mem_cons_self ..)
    rw [List.nodup_cons] at hn
    show (bump (bump1 f i) ps).getD j 0 = _
    rw [bump_get ps (bump1 f i) hn.2 (fun k hk => by rw [bump1_len]; exact hl k (List.mem_cons_of_mem _ hk)) j]
    unfold bump1
    rw [getD_set _ _ _ _ hi]
    by_cases e : i = j
    · subst e
      rw [if_pos rfl, if_neg hn.1, if_pos (List.mem_cons_self ..)]
      omega
    · rw [if_neg e]
      by_cases m : j ∈ ps
      · rw [if_pos m, if_pos (List.mem_cons_of_mem _ m)]
      · rw [if_neg m, if_neg]
        intro h
        rcases List.mem_cons.mp h with h | h
        · exact e h.symm
        · exact m h
theorem bump_sum : ∀ (ps : List Nat) (f : List Int), (∀ i ∈ ps, i < f.length) → (bump f ps).sum = f.sum + ps.length
  | [], f, _ => by
    show f.sum = f.sum + ((0 : Nat) : Int)
    omega
  | i :: ps, f, hl => by
    have hi := hl i (List.mem_cons_self ..)
    show (bump (bump1 f i) ps).sum = _
    rw [bump_sum ps (bump1 f i) fun k hk => by rw [bump1_len]; exact hl k (List.mem_cons_of_mem _ hk)]
    unfold bump1
    rw [sum_set _ _ _ hi, List.length_cons]
    omega
theorem ixN_n {n j : Nat} (hj : j < n) : ixN n (j : Int) = some j := by
  unfold ixN
  rw [if_pos (Int.natCast_nonneg j), if_pos (Int.ofNat_lt.mpr hj)]
  rfl
theorem map_get {l : List Int} {i : Nat} (h : i < l.length) : (l.map V.int)[i]? = some (.int (l.getD i 0)) := by
  rw [List.getElem?_map, List.getD_eq_getElem?_getD, List.getElem?_eq_getElem h]
  rfl
theorem map_set_int (l : List Int) (i : Nat) (a : Int) : (l.map V.int).set i (.int a) = (l.set i a).map V.int := by
  rw [List.map_set]
theorem low_get (i : Nat) : (lows rs).getD i 0 = (rowAt rs i).2.1 := by
  unfold lows rowAt
  rw [List.getD_eq_getElem?_getD, List.getElem?_map, List.getD_eq_getElem?_getD]
  cases rs[i]? <;> rfl
theorem cap_get (i : Nat) : (caps rs).getD i 0 = (rowAt rs i).2.2 := by
  unfold caps rowAt
  rw [List.getD_eq_getElem?_getD, List.getElem?_map, List.getD_eq_getElem?_getD]
  cases rs[i]? <;> rfl
theorem lows_len : (lows rs).length = rs.length := List.length_map ..
theorem caps_len : (caps rs).length = rs.length := List.length_map ..
theorem list_ext {f g : List Int} (h : f.length = g.length) (k : ∀ i < f.length, f.getD i 0 = g.getD i 0) : f = g := by
  refine List.ext_getElem h fun i h1 h2 => ?_
  have := k i h1
  rw [List.getD_eq_getElem?_getD, List.getD_eq_getElem?_getD, List.getElem?_eq_getElem h1, List.getElem?_eq_getElem h2] at this
  exact this
theorem sum_le : ∀ (f g : List Int), f.length = g.length → (∀ i < f.length, f.getD i 0 ≤ g.getD i 0) → f.sum ≤ g.sum
  | [], [], _, _ => Int.le_refl _
  | [], _ :: _, h, _ => by cases h
  | _ :: _, [], h, _ => by cases h
  | a :: f, b :: g, h, k => by
    have h0 : a ≤ b := k 0 (Nat.zero_lt_succ _)
    have h1 := sum_le f g (Nat.succ.inj h) fun i hi => k (i + 1) (Nat.succ_lt_succ hi)
    show a + f.sum ≤ b + g.sum
    omega
theorem int_ixI {fs : List Int} {k : Int} (h0 : 0 ≤ k) (h1 : k < fs.length) : atI (fs.map V.int) k = some (.int (fs.getD k.toNat 0)) := by
  have e : ((k.toNat : Nat) : Int) = k := Int.toNat_of_nonneg h0
  rw [← e]
  have h := int_ix (fs := fs) (i := k.toNat) (by omega)
  rw [e] at h ⊢
  exact h
theorem getD_mem {fs : List Int} {j : Nat} (h : j < fs.length) : fs.getD j 0 ∈ fs := by
  rw [List.getD_eq_getElem?_getD, List.getElem?_eq_getElem h]
  exact List.getElem_mem h
theorem int_at {fs : List Int} {i : Nat} {v : V} (h : (fs.map V.int)[i]? = some v) : ∃ c, v = .int c ∧ fs[i]? = some c := by
  rw [List.getElem?_map] at h
  cases e : fs[i]? with
  | none => rw [e] at h; cases h
  | some c =>
    rw [e] at h
    cases h
    exact ⟨c, rfl, rfl⟩
/-- a list's change leaves tuples -/
theorem tup_mut {K : PySem.W.Frag} {H : Hp} {b a : Addr} {xs zs : List V} {ys : List V} (hb : H b = some (.lst xs)) (h : SqT K H a ys) : SqT K (upd H b (.lst zs)) a ys := by
  rcases h with (h | h) | h
  · refine .inl (.inl ?_)
    rw [upd_ne (fun e => by rw [e, hb] at h; cases h)]
    exact h
  · obtain ⟨o, h⟩ := h
    refine .inl (.inr ⟨o, ?_⟩)
    rw [upd_ne (fun e => by rw [e, hb] at h; cases h)]
    exact h
  · exact .inr h
/-- one of some numbers, by a number taken over their count -/
theorem pick {fs : List Int} {P : Int → Prop} {n : Int} (hn : 0 < fs.length) (h : ∀ x ∈ fs, P x) : ∃ z, P z ∧ atI (fs.map V.int) (n % fs.length) = some (.int z) := by
  have a0 := Int.emod_nonneg n (show (fs.length : Int) ≠ 0 by omega)
  have a1 := Int.emod_lt_of_pos n (show (0 : Int) < fs.length by omega)
  exact ⟨_, h _ (getD_mem (j := (n % fs.length).toNat) (by omega)), int_ixI a0 a1⟩
/-- the turn's state: so many seats each, so many left -/
structure DI (rs : List Row) (seats : Int) (f : List Int) (left : Int) : Prop where
  n : f.length = rs.length
  b : ∀ i < rs.length, (rowAt rs i).2.1 ≤ f.getD i 0 ∧ f.getD i 0 ≤ (rowAt rs i).2.2
  s : f.sum + left = seats
  p : 0 ≤ left
theorem di_start {seats : Int} (g : ∀ r ∈ rs, GoodRow r) (h : (lows rs).sum ≤ seats) : DI rs seats (lows rs) (seats - (lows rs).sum) := by
  refine ⟨lows_len, fun i hi => ?_, by omega, by omega⟩
  rw [low_get]
  obtain ⟨_, _, _, h1, _⟩ := row_good g hi
  exact ⟨Int.le_refl _, h1⟩
theorem di_open {seats left : Int} (D : DI rs seats f left) (hc : seats ≤ (caps rs).sum) (hl : 0 < left) : opens rs f ≠ [] := by
  intro e
  have all : ∀ i < f.length, (caps rs).getD i 0 ≤ f.getD i 0 := fun i hi => by
    rw [cap_get]
    have hi2 : i < rs.length := by rw [← D.n]; exact hi
    refine Int.not_lt.mp fun c => ?_
    have m : i ∈ opens rs f := opens_mem.mpr ⟨hi2, c⟩
    rw [e] at m
    cases m
  have h := sum_le (caps rs) f (by rw [caps_len, D.n]) fun i hi => all i (by rw [D.n, ← caps_len]; exact hi)
  have := D.s
  omega
theorem greatest_lt {D : f.length = rs.length} : ∀ i ∈ greatest w rs f, i < f.length := fun i hi => by
  rw [D]
  exact opens_lt (greatest_mem hi)
theorem greatest_nodup : (greatest w rs f).Nodup := greatest_sub.nodup opens_nodup
theorem di_step {seats left : Int} (D : DI rs seats f left) (hl : ((greatest w rs f).length : Int) ≤ left) : DI rs seats (bump f (greatest w rs f)) (left - (greatest w rs f).length) := by
  refine ⟨by rw [bump_len]; exact D.n, fun i hi => ?_, ?_, by omega⟩
  · rw [bump_get _ _ greatest_nodup (greatest_lt (D := D.n))]
    have b := D.b i hi
    by_cases m : i ∈ greatest w rs f
    · rw [if_pos m]
      have o := (opens_mem.mp (greatest_mem m)).2
      omega
    · rw [if_neg m]
      omega
  · rw [bump_sum _ _ (greatest_lt (D := D.n))]
    have := D.s
    omega
theorem di_200 {seats left : Int} (D : DI rs seats f left) (g : ∀ r ∈ rs, GoodRow r) : ∀ i < rs.length, 0 ≤ f.getD i 0 ∧ f.getD i 0 ≤ 200 := fun i hi => by
  have b := D.b i hi
  obtain ⟨_, _, h0, h1, h2⟩ := row_good g hi
  omega
end SS

/-! dicts by places; sorted lists -/
namespace SS
open PySem PySem.Spec PyProof.Rows L2 LamX

/-- a dict of places -/
def natD (l : List Nat) (ad : Nat → Addr) : List (Key × V) := l.map fun (k : Nat) => ((Sum.inl (k : Int) : Key), V.ref (ad k))
theorem natD_get (ad : Nat → Addr) : ∀ (l : List Nat) (j : Nat), valV (natD l ad) (Sum.inl (j : Int)) = if j ∈ l then some (.ref (ad j)) else none
  | [], j => by simp [natD, valV]
  | k :: l, j => by
    have ih := natD_get ad l j
    by_cases e : k = j
    · subst e
      rw [if_pos (List.mem_cons_self ..)]
      exact valV_pos rfl
    · have ne : ¬ ((Sum.inl (k : Int) : Key) = Sum.inl (j : Int)) := fun z => e (by injection z with z; omega)
      show valV ((Sum.inl (k : Int), V.ref (ad k)) :: natD l ad) _ = _
      rw [valV_neg ne, ih]
      by_cases m : j ∈ l
      · rw [if_pos m, if_pos (List.mem_cons_of_mem _ m)]
      · rw [if_neg m, if_neg]
        intro h
        rcases List.mem_cons.mp h with h | h
        · exact e h.symm
        · exact m h
theorem natD_put {ad : Nat → Addr} {l : List Nat} {j : Nat} {t : Addr} (h : j ∉ l) : putK (natD l ad) (Sum.inl (j : Int)) (.ref t) = natD (l ++ [j]) (fun k => if k = j then t else ad k) := by
  have e1 : (natD l ad).any (fun kv => decide (kv.1 = (Sum.inl (j : Int) : Key))) = false := by
    rw [valV_any, natD_get, if_neg h]
    rfl
  have e2 : natD l ad = natD l (fun k => if k = j then t else ad k) := by
    unfold natD
    refine List.map_congr_left fun k hk => ?_
    dsimp only
    rw [if_neg (fun (e : k = j) => h (by rw [← e]; exact hk))]
  unfold putK
  rw [e1, if_neg (by decide)]
  unfold natD at e2 ⊢
  rw [List.map_append, ← e2]
  simp
theorem natD_len (l : List Nat) (ad : Nat → Addr) : (natD l ad).length = l.length := List.length_map ..
theorem natD_at {l : List Nat} {ad : Nat → Addr} {i : Nat} {k : Key} {v : V} (h : (natD l ad)[i]? = some (k, v)) : ∃ j, l[i]? = some j ∧ k = Sum.inl (j : Int) ∧ v = .ref (ad j) := by
  unfold natD at h
  rw [List.getElem?_map] at h
  cases e : l[i]? with
  | none => rw [e] at h; cases h
  | some j =>
    rw [e] at h
    cases h
    exact ⟨j, rfl, rfl, rfl⟩
/-- sorted lists of the same numbers are alike -/
theorem sorted_eq : ∀ {a b : List Int}, a.Perm b → a.Pairwise (· ≤ ·) → b.Pairwise (· ≤ ·) → a = b
  | [], b, p, _, _ => (List.Perm.nil_eq p)
  | x :: a, [], p, _, _ => by have := p.length_eq; cases this
  | x :: a, y :: b, p, ha, hb => by
    rw [List.pairwise_cons] at ha hb
    have e : x = y := by
      have h1 : x ∈ y :: b := p.mem_iff.mp (List.mem_cons_self ..)
      have h2 : y ∈ x :: a := p.mem_iff.mpr (List.mem_cons_self ..)
      rcases List.mem_cons.mp h1 with h1 | h1
      · exact h1
      · rcases List.mem_cons.mp h2 with h2 | h2
        · exact h2.symm
        · exact Int.le_antisymm (ha.1 _ h2) (hb.1 _ h1)
    subst e
    rw [sorted_eq (List.Perm.cons_inv p) ha.2 hb.2]
theorem natsI_sorted {l : List Nat} (h : l.Pairwise (· < ·)) : (natsI l).Pairwise (· ≤ ·) := by
  unfold natsI
  rw [List.pairwise_map]
  exact h.imp fun {a b} h => by omega
theorem natsI_len (l : List Nat) : (natsI l).length = l.length := List.length_map ..
theorem inV_nat (l : List Nat) (j : Nat) : inV (.int (j : Int)) (natsV l) = decide (j ∈ l) := by
  induction l with
  | nil => rfl
  | cons k l ih =>
    show (eqV (.int (k : Int)) (.int (j : Int)) || inV (.int (j : Int)) (natsV l)) = _
    rw [ih]
    have e : eqV (.int (k : Int)) (.int (j : Int)) = decide (k = j) := by
      simp only [eqV]
      by_cases h : k = j
      · subst h; simp
      · have : ¬ (k : Int) = (j : Int) := by omega
        simp [h, this]
    rw [e]
    by_cases h : k = j
    · subst h; simp
    · have h2 : ¬ j = k := fun z => h z.symm
      simp [h, h2]
theorem flat_nats (l : List Nat) : (natsV l).all flatV = true := by
  unfold natsV
  rw [List.all_map, List.all_eq_true]
  intro x _
  rfl
/-- a claim told by its votes and its seat's number, against another -/
def rank (w : Str) (a b : Int × Int) : Int := (if decide (b.1 * dv w a.2 < a.1 * dv w b.2) = true then 1 else 0) - (if decide (a.1 * dv w b.2 < b.1 * dv w a.2) = true then 1 else 0)
/-- what is told of a good count: by claims alone -/
structure ToldOk (w : Str) (rs : List Row) (n : Int) (d : Dealt) : Prop where
  len : d.sure.length = rs.length
  sum : d.sure.sum + d.left = n
  tlen : d.tied.length ≤ rs.length
  srt : d.tied.Pairwise (· < ·)
  some_ : d.left ≠ 0 → 1 ≤ d.left ∧ d.left < d.tied.length
  none_ : d.left = 0 → d.tied = []
  bnd : ∀ i < rs.length, (rowAt rs i).2.1 ≤ d.sure.getD i 0 ∧ d.sure.getD i 0 ≤ (rowAt rs i).2.2
  opn : ∀ i ∈ d.tied, i ∈ opens rs d.sure
  alike : ∀ t r, d.tied = t :: r → ∀ k ∈ opens rs d.sure, rank w ((rowAt rs k).1, d.sure.getD k 0 + 1) ((rowAt rs t).1, d.sure.getD t 0 + 1) = (if k ∈ d.tied then 1 else 0) - 1
  over : ∀ k ∈ opens rs d.sure, ∀ i < rs.length, (rowAt rs i).2.1 < d.sure.getD i 0 → rank w ((rowAt rs i).1, d.sure.getD i 0) ((rowAt rs k).1, d.sure.getD k 0 + 1) = 1
theorem ways_at (n : Int) : ∃ wy, wy ∈ ways ∧ atI (ways.map V.str) (n % 5) = some (.str wy) := by
  have a0 := Int.emod_nonneg n (show (5 : Int) ≠ 0 by decide)
  have a1 := Int.emod_lt_of_pos n (show (0 : Int) < 5 by decide)
  have hj : (n % 5).toNat < ways.length := by
    show (n % 5).toNat < 5
    omega
  refine ⟨ways[(n % 5).toNat], List.getElem_mem hj, at_of (j := (n % 5).toNat) (by omega) ?_⟩
  rw [List.getElem?_map, List.getElem?_eq_getElem hj]
  rfl
theorem rowD_inj {a b : Row} (h : rowD a = rowD b) : a = b := by
  unfold rowD at h
  injection h with h
  injection h with h1 h
  injection h with h2 h
  injection h with h3 h
  injection h1 with h1
  injection h2 with h2
  injection h3 with h3
  exact Prod.ext h1 (Prod.ext h2 h3)
theorem rowsD_inj {a b : List Row} (h : rowsD a = rowsD b) : a = b := by
  unfold rowsD at h
  injection h with h
  exact (List.map_inj_right fun x y e => rowD_inj e).mp h
theorem areListsD_of {rs : List Row} (g : Good rs) : areListsD (rowsD rs) = true := areListsD_rows g
theorem int_ix0 {fs : List Int} {j : Nat} (h : j < fs.length) : atI (fs.map V.int) (0 + (j : Int)) = some (.int (fs.getD j 0)) := by
  rw [Int.zero_add]
  exact int_ix h
theorem inV_nat0 (l : List Nat) (j : Nat) : inV (.int (0 + (j : Int))) (natsV l) = decide (j ∈ l) := by
  rw [Int.zero_add]
  exact inV_nat l j
def has (k : Nat) (l : List Nat) : Int := if k ∈ l then 1 else 0
theorem has_01 (k : Nat) (l : List Nat) : 0 ≤ has k l ∧ has k l ≤ 1 := by
  unfold has
  split <;> omega
/-- int(k in l) -/
theorem int_in (l : List Nat) (k : Nat) : (if (if false = true then !inV (V.int (k : Int)) (natsV l) else inV (V.int (k : Int)) (natsV l)) = true then (1 : Int) else 0) = has k l := by
  rw [if_neg (show ¬ (false = true) by decide), inV_nat]
  unfold has
  by_cases h : k ∈ l
  · rw [if_pos h, if_pos (decide_eq_true h)]
  · rw [if_neg h, if_neg (by rw [decide_eq_false h]; decide)]
theorem int_in0 (l : List Nat) (k : Nat) : (if (if false = true then !inV (V.int (0 + (k : Int))) (natsV l) else inV (V.int (0 + (k : Int))) (natsV l)) = true then (1 : Int) else 0) = has k l := by
  rw [Int.zero_add]
  exact int_in l k
/-- what is told, as data -/
def toldD (s : List Int) (t : List Nat) (l : Int) : PyData := .tuple [.list (s.map PyData.int), .list ((natsI t).map PyData.int), .int l]
theorem lv_toldD (s : List Int) (t : List Nat) (l : Int) : Lv 2 (toldD s t l) := lv_tup (n := 1) fun x hx => by
  simp only [List.mem_cons, List.not_mem_nil, or_false] at hx
  rcases hx with rfl | rfl | rfl
  · exact lv_ints _
  · exact lv_ints _
  · exact lv_int 1 _
theorem dp_toldD {K : PySem.W.Frag} {H : Hp} {u s e : Addr} {a : List Int} {t : List Nat} {l : Int} (h1 : SqT K H u [.ref s, .ref e, .int l]) (h2 : SqL K H s (a.map V.int)) (h3 : SqL K H e (natsV t)) : Dp K H (.ref u) (toldD a t l) := by
  rw [natsV_ints] at h3
  exact .tup h1 (.cons (.lst h2 (dpa_ints _)) (.cons (.lst h3 (dpa_ints _)) (.cons (.int _) .nil)))
theorem dv_small {w : Str} (hw : w ∈ ways) {c : Int} (h1 : 1 ≤ c) (h2 : c ≤ 1000) (x : Int) : CMul x (dv w c) := by
  obtain ⟨d1, d2, _⟩ := dv_bound hw h1
  exact small_r (by omega)
theorem dz_str {K : PySem.W.Frag} {H : Hp} {v : V} {s : Str} (h : Dz K H v (.str s)) : v = .str s := by
  rcases h with h | ⟨h, _⟩
  · cases h
    rfl
  · cases h
theorem dz_int {K : PySem.W.Frag} {H : Hp} {v : V} {s : Int} (h : Dz K H v (.int s)) : v = .int s := by
  rcases h with h | ⟨h, _⟩
  · cases h
    rfl
  · cases h
theorem dz_rows {K : PySem.W.Frag} {H : Hp} {v : V} {rs : List Row} (h : Dz K H v (rowsD rs)) : ∃ p xs, v = .ref p ∧ Rws K H p xs rs := by
  rcases h with h | ⟨h, _⟩
  · exact dp_rows_ref h
  · cases h
theorem rowAt_of {rs : List Row} {i : Nat} {r : Row} (h : rs[i]? = some r) : rowAt rs i = r := by
  unfold rowAt
  rw [List.getD_eq_getElem?_getD, h]
  rfl
end SS

/-! the deal by claims -/
namespace SS
open PySem PySem.Spec PyProof.Rows L2 LamX

/-! ### claims in order -/
/-- a claim: votes, a divisor -/
def Cl (a : Int × Int) : Prop := 1 ≤ a.1 ∧ 0 ≤ a.2
/-- not above -/
def Le (a b : Int × Int) : Prop := a.1 * b.2 ≤ b.1 * a.2
def Lt (a b : Int × Int) : Prop := a.1 * b.2 < b.1 * a.2
theorem above_iff {a b : Int × Int} : above a b = true ↔ Lt b a := by
  unfold above Lt
  rw [decide_eq_true_eq]
theorem above_false {a b : Int × Int} : above a b = false ↔ Le a b := by
  unfold above Le
  rw [decide_eq_false_iff_not, Int.not_lt]
theorem not_lt {a b : Int × Int} : ¬ Lt a b ↔ Le b a := Int.not_lt
theorem not_le {a b : Int × Int} : ¬ Le a b ↔ Lt b a := Int.not_le
theorem Le.refl (a : Int × Int) : Le a a := Int.le_refl _
theorem Lt.le {a b : Int × Int} (h : Lt a b) : Le a b := Int.le_of_lt h
theorem Lt.irrefl {a : Int × Int} (h : Lt a a) : False := Int.lt_irrefl _ h
theorem le_total (a b : Int × Int) : Le a b ∨ Le b a := Int.le_total _ _
theorem mul3 (a b c : Int) : a * (b * c) = b * (a * c) := by rw [← Int.mul_assoc, Int.mul_comm a b, Int.mul_assoc]
theorem Le.trans {a b c : Int × Int} (ha : Cl a) (hb : Cl b) (hc : Cl c) (h1 : Le a b) (h2 : Le b c) : Le a c := by
  obtain ⟨a1, a2⟩ := a
  obtain ⟨b1, b2⟩ := b
  obtain ⟨c1, c2⟩ := c
  simp only [Le, Cl] at *
  have e1 : b1 * (a1 * c2) ≤ a1 * (c1 * b2) := by
    rw [mul3]
    exact Int.mul_le_mul_of_nonneg_left h2 (by omega)
  have e2 : a1 * (c1 * b2) ≤ b1 * (c1 * a2) := by
    rw [mul3 a1 c1 b2, mul3 b1 c1 a2]
    exact Int.mul_le_mul_of_nonneg_left h1 (by omega)
  exact Int.le_of_mul_le_mul_left (Int.le_trans e1 e2) (by omega)
theorem Lt.trans_le {a b c : Int × Int} (ha : Cl a) (hb : Cl b) (hc : Cl c) (h1 : Lt a b) (h2 : Le b c) : Lt a c := by
  rw [← not_le]
  intro h
  exact (not_le.mpr h1) (Le.trans hb hc ha h2 h)
theorem Le.trans_lt {a b c : Int × Int} (ha : Cl a) (hb : Cl b) (hc : Cl c) (h1 : Le a b) (h2 : Lt b c) : Lt a c := by
  rw [← not_le]
  intro h
  exact (not_le.mpr h2) (Le.trans hc ha hb h h1)
theorem Lt.trans {a b c : Int × Int} (ha : Cl a) (hb : Cl b) (hc : Cl c) (h1 : Lt a b) (h2 : Lt b c) : Lt a c := Lt.trans_le ha hb hc h1 h2.le
theorem dv_mono {w : Str} (hw : w ∈ ways) {j : Int} (h1 : 1 ≤ j) : ∀ n : Nat, dv w j < dv w (j + (n + 1 : Nat))
  | 0 => (dv_bound hw h1).2.2
  | n + 1 => by
    have a := dv_mono hw h1 n
    have b := (dv_bound hw (c := j + ((n + 1 : Nat) : Int)) (by omega)).2.2
    have e : j + ((n + 1 + 1 : Nat) : Int) = j + ((n + 1 : Nat) : Int) + 1 := by omega
    rw [e]
    omega
theorem dv_lt {w : Str} (hw : w ∈ ways) {j k : Int} (h1 : 1 ≤ j) (h2 : j < k) : dv w j < dv w k := by
  have h := dv_mono hw h1 (k - j - 1).toNat
  have e : j + (((k - j - 1).toNat + 1 : Nat) : Int) = k := by omega
  rw [e] at h
  exact h
theorem dv_le {w : Str} (hw : w ∈ ways) {j k : Int} (h1 : 1 ≤ j) (h2 : j ≤ k) : dv w j ≤ dv w k := by
  by_cases e : j = k
  · rw [e]
    exact Int.le_refl _
  · exact Int.le_of_lt (dv_lt hw h1 (by omega))
theorem dv_inj {w : Str} (hw : w ∈ ways) {j k : Int} (h1 : 1 ≤ j) (h2 : 1 ≤ k) (h : dv w j ≤ dv w k) : j ≤ k := by
  refine Int.not_lt.mp fun c => ?_
  have := dv_lt hw h2 c
  omega
theorem cl_cl {w : Str} (hw : w ∈ ways) {r : Row} (hr : 1 ≤ r.1) {k : Int} (h : 1 ≤ k) : Cl (cl w r k) := ⟨hr, (dv_bound hw h).1⟩
/-- a list's later seat has a lower claim -/
theorem cl_lt {w : Str} (hw : w ∈ ways) {r : Row} (hr : 1 ≤ r.1) {j k : Int} (h1 : 1 ≤ j) (h2 : j < k) : Lt (cl w r k) (cl w r j) := Int.mul_lt_mul_of_pos_left (dv_lt hw h1 h2) (by show 0 < r.1; omega)
theorem cl_le {w : Str} (hw : w ∈ ways) {r : Row} (hr : 1 ≤ r.1) {j k : Int} (h1 : 1 ≤ j) (h2 : j ≤ k) : Le (cl w r k) (cl w r j) := Int.mul_le_mul_of_nonneg_left (dv_le hw h1 h2) (by show 0 ≤ r.1; omega)

/-! ### the greatest of some -/
/-- r of s: alike ones, all others below -/
structure Grt (c : Nat → Int × Int) (s r : List Nat) : Prop where
  sub : ∀ x ∈ r, x ∈ s
  top : ∀ x ∈ r, ∀ y ∈ s, Le (c y) (c x)
  low : ∀ x ∈ r, ∀ y ∈ s, y ∉ r → Lt (c y) (c x)
variable {w : Str} {rs : List Row} {f : List Int}
theorem gStep_grt {s r : List Nat} {i : Nat} (hc : ∀ x ∈ s, Cl (nxt w rs f x)) (hi : Cl (nxt w rs f i)) (h : Grt (nxt w rs f) s r) (hr : r = [] → s = []) : Grt (nxt w rs f) (s ++ [i]) (gStep w rs f r i) := by
  have mm : ∀ {y : Nat}, y ∈ s ++ [i] → y ∈ s ∨ y = i := fun {y} hy => by
    rcases List.mem_append.mp hy with hy | hy
    · exact .inl hy
    · exact .inr (List.mem_singleton.mp hy)
  cases r with
  | nil =>
    rw [hr rfl]
    refine ⟨fun x hx => hx, fun x hx y hy => ?_, fun x hx y hy hn => absurd hy hn⟩
    rw [List.mem_singleton.mp hx]
    have hy2 : y ∈ [i] := hy
    rw [List.mem_singleton.mp hy2]
    exact Le.refl _
  | cons b r =>
    have hb : b ∈ b :: r := List.mem_cons_self ..
    have hbs := h.sub b hb
    have cb := hc b hbs
    show Grt _ _ (if above (nxt w rs f b) (nxt w rs f i) then b :: r else if above (nxt w rs f i) (nxt w rs f b) then [i] else (b :: r) ++ [i])
    by_cases h1 : above (nxt w rs f b) (nxt w rs f i) = true
    · rw [if_pos h1]
      have l1 := above_iff.mp h1
      have key : ∀ x ∈ b :: r, Lt (nxt w rs f i) (nxt w rs f x) := fun x hx => Lt.trans_le hi cb (hc x (h.sub x hx)) l1 (h.top x hx b hbs)
      refine ⟨fun x hx => List.mem_append_left _ (h.sub x hx), fun x hx y hy => ?_, fun x hx y hy hn => ?_⟩
      · rcases mm hy with hy | rfl
        · exact h.top x hx y hy
        · exact (key x hx).le
      · rcases mm hy with hy | rfl
        · exact h.low x hx y hy hn
        · exact key x hx
    · rw [if_neg h1]
      have l1 := above_false.mp (Bool.not_eq_true _ ▸ h1)
      by_cases h2 : above (nxt w rs f i) (nxt w rs f b) = true
      · rw [if_pos h2]
        have l2 := above_iff.mp h2
        refine ⟨fun x hx => by rw [List.mem_singleton.mp hx]; exact List.mem_append_right _ (List.mem_singleton.mpr rfl), fun x hx y hy => ?_, fun x hx y hy hn => ?_⟩
        · rw [List.mem_singleton.mp hx]
          rcases mm hy with hy | rfl
          · exact (Le.trans_lt (hc y hy) cb hi (h.top b hb y hy) l2).le
          · exact Le.refl _
        · rw [List.mem_singleton.mp hx]
          rcases mm hy with hy | rfl
          · exact Le.trans_lt (hc y hy) cb hi (h.top b hb y hy) l2
          · exact absurd (List.mem_singleton.mpr rfl) hn
      · rw [if_neg h2]
        have l2 := above_false.mp (Bool.not_eq_true _ ▸ h2)
        have mr : ∀ {x : Nat}, x ∈ (b :: r) ++ [i] → x ∈ b :: r ∨ x = i := fun {x} hx => by
          rcases List.mem_append.mp hx with hx | hx
          · exact .inl hx
          · exact .inr (List.mem_singleton.mp hx)
        refine ⟨fun x hx => ?_, fun x hx y hy => ?_, fun x hx y hy hn => ?_⟩
        · rcases mr hx with h1x | e1
          · exact List.mem_append_left _ (h.sub x h1x)
          · exact List.mem_append_right _ (List.mem_singleton.mpr e1)
        · rcases mr hx with h1x | e1
          · rcases mm hy with h1y | e2
            · exact h.top x h1x y h1y
            · rw [e2]
              exact Le.trans hi cb (hc x (h.sub x h1x)) l2 (h.top x h1x b hbs)
          · rw [e1]
            rcases mm hy with h1y | e2
            · exact Le.trans (hc y h1y) cb hi (h.top b hb y h1y) l1
            · rw [e2]
              exact Le.refl _
        · have hn2 : y ∉ b :: r := fun z => hn (List.mem_append_left _ z)
          rcases mm hy with h1y | e2
          · rcases mr hx with h1x | e1
            · exact h.low x h1x y h1y hn2
            · rw [e1]
              exact Lt.trans_le (hc y h1y) cb hi (h.low b hb y h1y hn2) l1
          · exact absurd (List.mem_append_right _ (List.mem_singleton.mpr e2)) hn
theorem gFold_grt : ∀ (l s r : List Nat), (∀ x ∈ s ++ l, Cl (nxt w rs f x)) → Grt (nxt w rs f) s r → (r = [] → s = []) → Grt (nxt w rs f) (s ++ l) (l.foldl (gStep w rs f) r)
  | [], s, r, _, h, _ => by
    rw [List.append_nil]
    exact h
  | i :: l, s, r, hc, h, hr => by
    have e : s ++ i :: l = (s ++ [i]) ++ l := by rw [List.append_assoc]; rfl
    rw [e] at hc ⊢
    rw [List.foldl_cons]
    exact gFold_grt l (s ++ [i]) _ hc (gStep_grt (fun x hx => hc x (List.mem_append_left _ (List.mem_append_left _ hx))) (hc i (List.mem_append_left _ (List.mem_append_right _ (List.mem_singleton.mpr rfl)))) h hr) (fun e => absurd e (gStep_ne r i))
/-- numbers that can be seats' -/
def Nn (rs : List Row) (f : List Int) : Prop := ∀ i < rs.length, 0 ≤ f.getD i 0
def Vt (rs : List Row) : Prop := ∀ i < rs.length, 1 ≤ (rowAt rs i).1
theorem vt_good (g : ∀ r ∈ rs, GoodRow r) : Vt rs := fun i hi => (row_good g hi).1
theorem nxt_cl (hw : w ∈ ways) (hv : Vt rs) (hf : Nn rs f) {i : Nat} (hi : i < rs.length) : Cl (nxt w rs f i) := cl_cl hw (hv i hi) (by have := hf i hi; omega)
theorem greatest_grt (hw : w ∈ ways) (hv : Vt rs) (hf : Nn rs f) : Grt (nxt w rs f) (opens rs f) (greatest w rs f) := by
  have h := gFold_grt (w := w) (rs := rs) (f := f) (opens rs f) [] [] (fun x hx => nxt_cl hw hv hf (opens_lt hx)) ⟨fun x hx => (by cases hx), fun x hx => (by cases hx), fun x hx => (by cases hx)⟩ (fun _ => rfl)
  exact h

/-! ### the dealing -/
/-- the claim of a list's last seat -/
def lst (w : Str) (rs : List Row) (f : List Int) (i : Nat) : Int × Int := cl w (rowAt rs i) (f.getD i 0)
/-- every seat beyond a floor has a claim above every next one -/
def Top (w : Str) (rs : List Row) (f : List Int) : Prop := ∀ i < rs.length, (rowAt rs i).2.1 < f.getD i 0 → ∀ k ∈ opens rs f, Lt (nxt w rs f k) (lst w rs f i)
/-- the places of the last seats: none at the start; else those of the least claims -/
structure LastOk (w : Str) (rs : List Row) (f : List Int) (last : List Nat) : Prop where
  none_ : last = [] → f = lows rs
  lt : ∀ i ∈ last, i < rs.length
  up : ∀ i ∈ last, (rowAt rs i).2.1 < f.getD i 0
  least : ∀ i ∈ last, ∀ j < rs.length, (rowAt rs j).2.1 < f.getD j 0 → Le (lst w rs f i) (lst w rs f j)
def Lo (rs : List Row) : Prop := ∀ i < rs.length, 0 ≤ (rowAt rs i).2.1
theorem lo_good (g : ∀ r ∈ rs, GoodRow r) : Lo rs := fun i hi => (row_good g hi).2.2.1
theorem top_start : Top w rs (lows rs) := fun i hi h => by
  rw [low_get] at h
  exact absurd h (Int.lt_irrefl _)
theorem last_start : LastOk w rs (lows rs) [] := ⟨fun _ => rfl, fun i h => (by cases h), fun i h => (by cases h), fun i h => (by cases h)⟩
theorem bump_greatest (hl : f.length = rs.length) (j : Nat) : (bump f (greatest w rs f)).getD j 0 = f.getD j 0 + if j ∈ greatest w rs f then 1 else 0 :=
  bump_get _ _ greatest_nodup (greatest_lt (D := hl)) j
theorem lst_bump (hl : f.length = rs.length) {i : Nat} (h : i ∈ greatest w rs f) : lst w rs (bump f (greatest w rs f)) i = nxt w rs f i := by
  unfold lst nxt
  rw [bump_greatest hl, if_pos h]
theorem lst_same (hl : f.length = rs.length) {i : Nat} (h : i ∉ greatest w rs f) : lst w rs (bump f (greatest w rs f)) i = lst w rs f i := by
  unfold lst
  rw [bump_greatest hl, if_neg h, Int.add_zero]
theorem nxt_same (hl : f.length = rs.length) {i : Nat} (h : i ∉ greatest w rs f) : nxt w rs (bump f (greatest w rs f)) i = nxt w rs f i := by
  unfold nxt
  rw [bump_greatest hl, if_neg h, Int.add_zero]
theorem nxt_bump (hl : f.length = rs.length) {i : Nat} (h : i ∈ greatest w rs f) : nxt w rs (bump f (greatest w rs f)) i = cl w (rowAt rs i) (f.getD i 0 + 2) := by
  unfold nxt
  rw [bump_greatest hl, if_pos h]
  congr 1
  omega
theorem open_bump (hl : f.length = rs.length) {i : Nat} (h : i ∈ opens rs (bump f (greatest w rs f))) : i ∈ opens rs f := by
  obtain ⟨h1, h2⟩ := opens_mem.mp h
  rw [bump_greatest hl] at h2
  refine opens_mem.mpr ⟨h1, ?_⟩
  by_cases m : i ∈ greatest w rs f
  · rw [if_pos m] at h2
    omega
  · rw [if_neg m] at h2
    omega
/-- every next claim behind the turn is below the greatest -/
theorem next_below (hw : w ∈ ways) (hv : Vt rs) (hf : Nn rs f) (hl : f.length = rs.length) {i k : Nat} (hi : i ∈ greatest w rs f) (hk : k ∈ opens rs (bump f (greatest w rs f))) : Lt (nxt w rs (bump f (greatest w rs f)) k) (nxt w rs f i) := by
  have G := greatest_grt (f := f) hw hv hf
  have ko := open_bump hl hk
  have kl := opens_lt ko
  have il := opens_lt (greatest_mem hi)
  by_cases m : k ∈ greatest w rs f
  · rw [nxt_bump hl m]
    have h0 := hf k kl
    exact Lt.trans_le (cl_cl hw (hv k kl) (by omega)) (nxt_cl hw hv hf kl) (nxt_cl hw hv hf il) (cl_lt hw (hv k kl) (j := f.getD k 0 + 1) (by omega) (by omega)) (G.top i hi k ko)
  · rw [nxt_same hl m]
    exact G.low i hi k ko m
theorem top_step (hw : w ∈ ways) (hv : Vt rs) (hf : Nn rs f) (hlo : Lo rs) (hl : f.length = rs.length) (T : Top w rs f) : Top w rs (bump f (greatest w rs f)) := by
  intro i hi h k hk
  have ko := open_bump hl hk
  have kl := opens_lt ko
  by_cases mi : i ∈ greatest w rs f
  · rw [lst_bump hl mi]
    exact next_below hw hv hf hl mi hk
  · rw [lst_same hl mi]
    rw [bump_greatest hl, if_neg mi, Int.add_zero] at h
    have t := T i hi h k ko
    by_cases mk : k ∈ greatest w rs f
    · have h0 := hf k kl
      have h1 := hlo i hi
      rw [nxt_bump hl mk]
      exact Lt.trans (cl_cl hw (hv k kl) (by omega)) (nxt_cl hw hv hf kl) (cl_cl hw (hv i hi) (by omega)) (cl_lt hw (hv k kl) (j := f.getD k 0 + 1) (by omega) (by omega)) t
    · rw [nxt_same hl mk]
      exact t
theorem last_step (hw : w ∈ ways) (hv : Vt rs) (hf : Nn rs f) (hlo : Lo rs) (hfl : ∀ i < rs.length, (rowAt rs i).2.1 ≤ f.getD i 0) (hl : f.length = rs.length) (T : Top w rs f) (hn : greatest w rs f ≠ []) : LastOk w rs (bump f (greatest w rs f)) (greatest w rs f) := by
  have G := greatest_grt (f := f) hw hv hf
  refine ⟨fun e => absurd e hn, fun i hi => opens_lt (greatest_mem hi), fun i hi => ?_, fun i hi j hj h => ?_⟩
  · rw [bump_greatest hl, if_pos hi]
    have := hfl i (opens_lt (greatest_mem hi))
    omega
  · rw [lst_bump hl hi]
    by_cases mj : j ∈ greatest w rs f
    · rw [lst_bump hl mj]
      exact G.top j mj i (greatest_mem hi)
    · rw [lst_same hl mj]
      rw [bump_greatest hl, if_neg mj, Int.add_zero] at h
      exact (T j hj h i (greatest_mem hi)).le
/-- what the dealing comes to -/
structure DealOk (w : Str) (rs : List Row) (n : Int) (d : Dealt) : Prop where
  di : DI rs n d.sure d.left
  top : Top w rs d.sure
  fin : (d.left = 0 ∧ d.tied = [] ∧ LastOk w rs d.sure d.last) ∨ (0 < d.left ∧ d.left < d.tied.length ∧ d.tied = greatest w rs d.sure ∧ d.last = d.tied)
theorem dealtM_ok (hw : w ∈ ways) (g : ∀ r ∈ rs, GoodRow r) {n : Int} (hc : n ≤ (caps rs).sum) : ∀ (m : Nat) (f : List Int) (left : Int) (last : List Nat), left.toNat < m → DI rs n f left → Top w rs f → LastOk w rs f last → DealOk w rs n (dealtM w rs m f left last)
  | 0, f, left, last, h, _, _, _ => by cases h
  | m + 1, f, left, last, h, D, T, L => by
    show DealOk w rs n (if 0 < left then _ else _)
    by_cases hp : 0 < left
    · rw [if_pos hp]
      by_cases h2 : left < (greatest w rs f).length
      · rw [if_pos h2]
        exact ⟨D, T, .inr ⟨hp, h2, rfl, rfl⟩⟩
      · rw [if_neg h2]
        have hne := greatest_ne (w := w) (di_open D hc hp)
        have hpos := List.length_pos_iff.mpr hne
        have hf : Nn rs f := fun i hi => (di_200 D g i hi).1
        exact dealtM_ok hw g hc m _ _ _ (by omega) (di_step D (Int.not_lt.mp h2)) (top_step hw (vt_good g) hf (lo_good g) D.n T) (last_step hw (vt_good g) hf (lo_good g) (fun i hi => (D.b i hi).1) D.n T hne)
    · rw [if_neg hp]
      have h0 : left = 0 := by have := D.p; omega
      subst h0
      exact ⟨D, T, .inl ⟨rfl, rfl, L⟩⟩
theorem deal_ok {n : Int} (hw : w ∈ ways) (g : ∀ r ∈ rs, GoodRow r) (h1 : (lows rs).sum ≤ n) (h2 : n ≤ (caps rs).sum) : DealOk w rs n (dealM w rs n) :=
  dealtM_ok hw g h2 _ _ _ _ (Nat.lt_succ_self _) (di_start g h1) top_start last_start
theorem rank_eq (a b : Int × Int) : rank w a b = (if above (a.1, dv w a.2) (b.1, dv w b.2) = true then 1 else 0) - (if above (b.1, dv w b.2) (a.1, dv w a.2) = true then 1 else 0) := rfl
theorem rank_lt {a b : Int × Int} (h : Lt (a.1, dv w a.2) (b.1, dv w b.2)) : rank w a b = -1 := by
  rw [rank_eq, if_pos (above_iff.mpr h), if_neg (by rw [above_false.mpr h.le]; decide)]
  rfl
theorem rank_gt {a b : Int × Int} (h : Lt (b.1, dv w b.2) (a.1, dv w a.2)) : rank w a b = 1 := by
  rw [rank_eq, if_pos (above_iff.mpr h), if_neg (by rw [above_false.mpr h.le]; decide)]
  rfl
theorem rank_same {a b : Int × Int} (h1 : Le (a.1, dv w a.2) (b.1, dv w b.2)) (h2 : Le (b.1, dv w b.2) (a.1, dv w a.2)) : rank w a b = 0 := by
  rw [rank_eq, if_neg (by rw [above_false.mpr h1]; decide), if_neg (by rw [above_false.mpr h2]; decide)]
  rfl
theorem deal_told {n : Int} (hw : w ∈ ways) (g : Good rs) (h1 : (lows rs).sum ≤ n) (h2 : n ≤ (caps rs).sum) : ToldOk w rs n (dealM w rs n) := by
  have O := deal_ok hw g.2.2 h1 h2
  generalize dealM w rs n = d at O
  obtain ⟨D, T, F⟩ := O
  have hf : Nn rs d.sure := fun i hi => (di_200 D g.2.2 i hi).1
  have G := greatest_grt (f := d.sure) hw (vt_good g.2.2) hf
  refine ⟨D.n, D.s, ?_, ?_, ?_, ?_, D.b, ?_, ?_, fun k hk i hi h => rank_gt (T i hi h k hk)⟩
  · rcases F with ⟨_, e, _⟩ | ⟨_, _, e, _⟩
    · rw [e]
      exact Nat.zero_le _
    · rw [e]
      exact greatest_len
  · rcases F with ⟨_, e, _⟩ | ⟨_, _, e, _⟩
    · rw [e]
      exact .nil
    · rw [e]
      exact opens_sorted.sublist greatest_sub
  · intro hne
    rcases F with ⟨e, _, _⟩ | ⟨p, q, _, _⟩
    · exact absurd e hne
    · exact ⟨by omega, q⟩
  · intro h0
    rcases F with ⟨_, e, _⟩ | ⟨p, _, _, _⟩
    · exact e
    · omega
  · intro i hi
    rcases F with ⟨_, e, _⟩ | ⟨_, _, e, _⟩
    · rw [e] at hi
      cases hi
    · rw [e] at hi
      exact greatest_mem hi
  · intro t r ht k hk
    rcases F with ⟨_, e, _⟩ | ⟨_, _, e, _⟩
    · rw [e] at ht
      cases ht
    · have mt : t ∈ greatest w rs d.sure := by
        rw [← e, ht]
        exact List.mem_cons_self ..
      rw [e]
      by_cases m : k ∈ greatest w rs d.sure
      · rw [if_pos m]
        exact rank_same (G.top t mt k hk) (G.top k m t (greatest_mem mt))
      · rw [if_neg m]
        exact rank_lt (G.low t mt k hk m)
end SS

/-! one seat more -/
namespace SS
open PySem PySem.Spec PyProof.Rows L2 LamX
variable {w : Str} {rs : List Row} {f : List Int}
/-- what one seat more makes of a deal -/
structure SuccOk (w : Str) (rs : List Row) (d e : Dealt) : Prop where
  on : 0 < d.left → d.left + 1 < d.tied.length → e.sure = d.sure ∧ e.tied = d.tied ∧ e.left = d.left + 1
  full : 0 < d.left → d.left + 1 = d.tied.length → e.sure = bump d.sure d.tied ∧ e.tied = [] ∧ e.left = 0
  one : d.left = 0 → 1 < (greatest w rs d.sure).length → e.sure = d.sure ∧ e.tied = greatest w rs d.sure ∧ e.left = 1
  new : d.left = 0 → (greatest w rs d.sure).length = 1 → e.sure = bump d.sure (greatest w rs d.sure) ∧ e.tied = [] ∧ e.left = 0
theorem dealtM_zero (m : Nat) (f : List Int) (last : List Nat) : dealtM w rs m f 0 last = ⟨f, [], 0, last⟩ := by
  cases m with
  | zero => rfl
  | succ m =>
    show (if (0 : Int) < 0 then _ else _) = _
    rw [if_neg (by decide)]
theorem dealtM_succ {n : Int} (hc : n ≤ (caps rs).sum) : ∀ (m m' : Nat) (f : List Int) (left : Int) (last last' : List Nat), DI rs n f left → left.toNat < m → (left + 1).toNat < m' →
    SuccOk w rs (dealtM w rs m f left last) (dealtM w rs m' f (left + 1) last')
  | 0, m', f, left, last, last', D, h1, h2 => by cases h1
  | m + 1, 0, f, left, last, last', D, h1, h2 => by cases h2
  | m + 1, m' + 1, f, left, last, last', D, h1, h2 => by
    have h0 := D.p
    have hp : (0 : Int) < left + 1 := by omega
    show SuccOk w rs (if 0 < left then _ else _) (if 0 < left + 1 then _ else _)
    rw [if_pos hp]
    by_cases h : 0 < left
    · rw [if_pos h]
      have hG := List.length_pos_iff.mpr (greatest_ne (w := w) (di_open D hc h))
      by_cases h5 : left < (greatest w rs f).length
      · rw [if_pos h5]
        by_cases h6 : left + 1 < (greatest w rs f).length
        · rw [if_pos h6]
          exact ⟨fun _ _ => ⟨rfl, rfl, rfl⟩, fun _ z => absurd z (Int.ne_of_lt h6), fun z => absurd z (by show ¬ left = 0; omega), fun z => absurd z (by show ¬ left = 0; omega)⟩
        · rw [if_neg h6]
          have e : left + 1 - ((greatest w rs f).length : Int) = 0 := by omega
          rw [e, dealtM_zero]
          exact ⟨fun _ z => absurd z h6, fun _ _ => ⟨rfl, rfl, rfl⟩, fun z => absurd z (by show ¬ left = 0; omega), fun z => absurd z (by show ¬ left = 0; omega)⟩
      · rw [if_neg h5, if_neg (by omega)]
        have e : left + 1 - ((greatest w rs f).length : Int) = left - ((greatest w rs f).length : Int) + 1 := by omega
        rw [e]
        exact dealtM_succ hc m m' _ _ _ _ (di_step D (Int.not_lt.mp h5)) (by omega) (by omega)
    · rw [if_neg h]
      have e0 : left = 0 := by omega
      subst e0
      by_cases h6 : (0 : Int) + 1 < (greatest w rs f).length
      · rw [if_pos h6]
        exact ⟨fun z => absurd z (Int.lt_irrefl 0), fun z => absurd z (Int.lt_irrefl 0), fun _ _ => ⟨rfl, rfl, rfl⟩, fun _ z => absurd z (by show ¬ (greatest w rs f).length = 1; omega)⟩
      · rw [if_neg h6]
        refine ⟨fun z => absurd z (Int.lt_irrefl 0), fun z => absurd z (Int.lt_irrefl 0), fun _ z => absurd z (by show ¬ 1 < (greatest w rs f).length; omega), fun _ z => ?_⟩
        have z2 : (greatest w rs f).length = 1 := z
        have e : (0 : Int) + 1 - ((greatest w rs f).length : Int) = 0 := by omega
        rw [e, dealtM_zero]
        exact ⟨rfl, rfl, rfl⟩
/-- the deals of a count and of one more -/
theorem deal_succ {n : Int} (g : ∀ r ∈ rs, GoodRow r) (h1 : (lows rs).sum ≤ n) (h2 : n ≤ (caps rs).sum) : SuccOk w rs (dealM w rs n) (dealM w rs (n + 1)) := by
  unfold dealM
  have e : n + 1 - (lows rs).sum = (n - (lows rs).sum) + 1 := by omega
  rw [e]
  exact dealtM_succ h2 _ _ _ _ _ _ (di_start g h1) (Nat.lt_succ_self _) (by omega)
/-- nobody loses a seat -/
theorem succ_up {n : Int} (hw : w ∈ ways) (g : ∀ r ∈ rs, GoodRow r) (h1 : (lows rs).sum ≤ n) (h2 : n + 1 ≤ (caps rs).sum) (k : Nat) :
    (dealM w rs n).sure.getD k 0 ≤ (dealM w rs (n + 1)).sure.getD k 0 ∧ (dealM w rs n).sure.getD k 0 + has k (dealM w rs n).tied ≤ (dealM w rs (n + 1)).sure.getD k 0 + has k (dealM w rs (n + 1)).tied := by
  have S := deal_succ (w := w) g h1 (by omega : n ≤ (caps rs).sum)
  have O := deal_ok hw g h1 (by omega : n ≤ (caps rs).sum)
  generalize dealM w rs n = d at *
  generalize dealM w rs (n + 1) = e at *
  have bg := fun k => bump_greatest (w := w) (f := d.sure) (rs := rs) O.di.n k
  rcases O.fin with ⟨l0, t0, _⟩ | ⟨lp, lt, tg, _⟩
  · have hne : 0 < (greatest w rs d.sure).length := by
      refine List.length_pos_iff.mpr (greatest_ne ?_)
      refine di_open (seats := n + 1) (left := 1) ⟨O.di.n, O.di.b, ?_, by decide⟩ h2 (by decide)
      have := O.di.s
      omega
    have e0 : has k d.tied = 0 := by
      rw [t0]
      rfl
    rw [e0]
    by_cases h : 1 < (greatest w rs d.sure).length
    · obtain ⟨s1, s2, _⟩ := S.one l0 h
      have := has_01 k e.tied
      rw [s1]
      omega
    · obtain ⟨s1, s2, _⟩ := S.new l0 (by omega)
      have := has_01 k e.tied
      rw [s1, bg]
      split <;> omega
  · by_cases h : d.left + 1 < d.tied.length
    · obtain ⟨s1, s2, _⟩ := S.on lp h
      rw [s1, s2]
      exact ⟨Int.le_refl _, Int.le_refl _⟩
    · obtain ⟨s1, s2, _⟩ := S.full lp (by omega)
      rw [s1, s2, tg, bg]
      unfold has
      rw [if_neg (by simp : k ∉ ([] : List Nat))]
      split <;> omega
end SS

/-! pairs on the heap; parts of lists; lowest terms; prices -/
namespace SS
open PySem PySem.Spec PyProof.Rows L2 LamX

abbrev Pr := Int × Int
def prD (r : Pr) : PyData := .tuple [.int r.1, .int r.2]
/-- the pairs at p -/
structure Prs (K : PySem.W.Frag) (H : Hp) (p : Addr) (xs : List V) (cs : List Pr) : Prop where
  l : SqL K H p xs
  n : xs.length = cs.length
  at_ : ∀ (i : Nat) (x : V) (c : Pr), xs[i]? = some x → cs[i]? = some c → ∃ a, x = .ref a ∧ SqT K H a [.int c.1, .int c.2]
theorem Prs.ext {K : PySem.W.Frag} {H H' : Hp} {p : Addr} {xs : List V} {cs : List Pr} (h : Prs K H p xs cs) (e : ExtN H H') : Prs K H' p xs cs :=
  ⟨ext_seq e h.l, h.n, fun i x r h1 h2 => by
    obtain ⟨a, h3, h4⟩ := h.at_ i x r h1 h2
    exact ⟨a, h3, ext_tup e h4⟩⟩
theorem Prs.same {K : PySem.W.Frag} {H H' : Hp} {p : Addr} {xs : List V} {cs : List Pr} (h : Prs K H p xs cs) (e : Same H H') : Prs K H' p xs cs := h.ext (ext_of e)
theorem Prs.get {K : PySem.W.Frag} {H : Hp} {p : Addr} {xs : List V} {cs : List Pr} (h : Prs K H p xs cs) {i : Nat} {c : Pr} (e : cs[i]? = some c) : ∃ a, xs[i]? = some (.ref a) ∧ SqT K H a [.int c.1, .int c.2] := by
  have hi : i < xs.length := by
    rw [h.n]
    exact (List.getElem?_eq_some_iff.mp e).1
  have ex : xs[i]? = some xs[i] := List.getElem?_eq_getElem hi
  obtain ⟨a, h1, h2⟩ := h.at_ i _ c ex e
  exact ⟨a, by rw [ex, h1], h2⟩
theorem Prs.getV {K : PySem.W.Frag} {H : Hp} {p : Addr} {xs : List V} {cs : List Pr} (h : Prs K H p xs cs) {i : Nat} {x : V} (e : xs[i]? = some x) : ∃ c a, cs[i]? = some c ∧ x = .ref a ∧ SqT K H a [.int c.1, .int c.2] := by
  have hi : i < cs.length := by
    rw [← h.n]
    exact (List.getElem?_eq_some_iff.mp e).1
  have er : cs[i]? = some cs[i] := List.getElem?_eq_getElem hi
  obtain ⟨a, h1, h2⟩ := h.at_ i x _ e er
  exact ⟨_, a, er, h1, h2⟩
theorem prs_nil {K : PySem.W.Frag} {H : Hp} {p : Addr} (h : H p = some (.lst [])) : Prs K H p [] [] := ⟨sqL h, rfl, fun i x c h1 _ => by cases h1⟩
/-- one more pair, by a change of the list -/
theorem prs_snoc {K : PySem.W.Frag} {H : Hp} {p : Addr} {xs : List V} {cs : List Pr} {t : Addr} {c : Pr} (h : Prs K H p xs cs) (hp : H p = some (.lst xs)) (ht : SqT K H t [.int c.1, .int c.2]) : Prs K (upd H p (.lst (xs ++ [.ref t]))) p (xs ++ [.ref t]) (cs ++ [c]) := by
  refine ⟨sqL upd_same, by rw [List.length_append, List.length_append, h.n]; rfl, fun i x s h1 h2 => ?_⟩
  by_cases hi : i < xs.length
  · rw [List.getElem?_append_left hi] at h1
    rw [List.getElem?_append_left (by rw [← h.n]; exact hi)] at h2
    obtain ⟨a, h3, h4⟩ := h.at_ i x s h1 h2
    exact ⟨a, h3, tup_mut hp h4⟩
  · rw [List.getElem?_append_right (Nat.not_lt.mp hi)] at h1
    rw [List.getElem?_append_right (by rw [← h.n]; exact Nat.not_lt.mp hi), ← h.n] at h2
    cases hj : i - xs.length with
    | zero =>
      rw [hj] at h1 h2
      cases h1
      cases h2
      exact ⟨t, rfl, tup_mut hp ht⟩
    | succ j =>
      rw [hj] at h1
      cases h1
theorem dpa_prs {K : PySem.W.Frag} {H : Hp} : ∀ {xs : List V} {cs : List Pr}, xs.length = cs.length → (∀ (i : Nat) (x : V) (c : Pr), xs[i]? = some x → cs[i]? = some c → ∃ a, x = .ref a ∧ SqT K H a [.int c.1, .int c.2]) → DpAll K H xs (cs.map prD)
  | [], [], _, _ => .nil
  | [], _ :: _, h, _ => by cases h
  | _ :: _, [], h, _ => by cases h
  | x :: xs, c :: cs, h, k => by
    obtain ⟨a, rfl, h2⟩ := k 0 x c rfl rfl
    exact .cons (.tup h2 (.cons (.int _) (.cons (.int _) .nil))) (dpa_prs (Nat.succ.inj h) fun i y s h1 h2 => k (i + 1) y s (by simpa using h1) (by simpa using h2))
theorem Prs.dp {K : PySem.W.Frag} {H : Hp} {p : Addr} {xs : List V} {cs : List Pr} (h : Prs K H p xs cs) : Dp K H (.ref p) (.list (cs.map prD)) := .lst h.l (dpa_prs h.n h.at_)
theorem lv_pr (c : Pr) : Lv 1 (prD c) := lv_tup (n := 0) fun x hx => by
  simp only [List.mem_cons, List.not_mem_nil, or_false] at hx
  rcases hx with rfl | rfl
  · exact lv_int 0 _
  · exact lv_int 0 _
theorem lv_prs (cs : List Pr) : Lv 2 (.list (cs.map prD)) := lv_list (n := 1) fun x hx => by
  obtain ⟨i, _, rfl⟩ := List.mem_map.mp hx
  exact lv_pr i
/-- l[:k] -/
theorem cut_take {xs : List V} {k : Int} (h0 : 0 ≤ k) : cutV xs none (some k) = xs.take k.toNat := by
  have e : ((k.toNat : Nat) : Int) = k := Int.toNat_of_nonneg h0
  unfold cutV
  rw [← e, HT.sIx_nat, HT.sIx_none, Int.toNat_natCast]
  rw [List.drop_zero, Nat.sub_zero]
  by_cases h : k.toNat ≤ xs.length
  · rw [Nat.min_eq_left h]
  · rw [Nat.min_eq_right (by omega), List.take_length, List.take_of_length_le (by omega)]
theorem natsV_take (l : List Nat) (n : Nat) : (natsV l).take n = natsV (l.take n) := by
  unfold natsV
  rw [List.map_take]

/-! ### lowest terms -/
def lowestN (a b : Nat) : Pr := (((a / Nat.gcd a b : Nat) : Int), ((b / Nat.gcd a b : Nat) : Int))
def lowest (p : Pr) : Pr := lowestN p.1.toNat p.2.toNat
theorem gcd_turn (x y : Nat) : Nat.gcd y (x % y) = Nat.gcd x y := by
  rw [Nat.gcd_comm x y, Nat.gcd_rec y x, Nat.gcd_comm]
theorem lowest_gcd {a b : Nat} (h : 0 < a) : Nat.gcd (a / Nat.gcd a b) (b / Nat.gcd a b) = 1 := Nat.gcd_div_gcd_div_gcd_of_pos_left h
/-- alike in lowest terms -/
theorem lowest_mul {p : Pr} (h : Cl p) : ∃ g : Int, 1 ≤ g ∧ (lowest p).1 * g = p.1 ∧ (lowest p).2 * g = p.2 ∧ 1 ≤ (lowest p).1 ∧ 0 ≤ (lowest p).2 ∧ (lowest p).1 ≤ p.1 ∧ (lowest p).2 ≤ p.2 := by
  obtain ⟨a, b⟩ := p
  obtain ⟨h1, h2⟩ := h
  have ea : ((a.toNat : Nat) : Int) = a := Int.toNat_of_nonneg (by show 0 ≤ a; have : 1 ≤ a := h1; omega)
  have eb : ((b.toNat : Nat) : Int) = b := Int.toNat_of_nonneg h2
  have ha : 0 < a.toNat := by have : 1 ≤ a := h1; omega
  have g0 := Nat.gcd_pos_of_pos_left b.toNat ha
  have d1 := Nat.div_mul_cancel (Nat.gcd_dvd_left a.toNat b.toNat)
  have d2 := Nat.div_mul_cancel (Nat.gcd_dvd_right a.toNat b.toNat)
  have l1 := Nat.div_le_self a.toNat (Nat.gcd a.toNat b.toNat)
  have l2 := Nat.div_le_self b.toNat (Nat.gcd a.toNat b.toNat)
  have p1 : 0 < a.toNat / Nat.gcd a.toNat b.toNat := Nat.div_pos (Nat.le_of_dvd ha (Nat.gcd_dvd_left _ _)) g0
  refine ⟨((Nat.gcd a.toNat b.toNat : Nat) : Int), by omega, ?_, ?_, ?_, ?_, ?_, ?_⟩
  · show ((a.toNat / Nat.gcd a.toNat b.toNat : Nat) : Int) * _ = a
    rw [← Int.natCast_mul, d1, ea]
  · show ((b.toNat / Nat.gcd a.toNat b.toNat : Nat) : Int) * _ = b
    rw [← Int.natCast_mul, d2, eb]
  · show 1 ≤ ((a.toNat / Nat.gcd a.toNat b.toNat : Nat) : Int)
    omega
  · exact Int.natCast_nonneg _
  · show ((a.toNat / Nat.gcd a.toNat b.toNat : Nat) : Int) ≤ a
    omega
  · show ((b.toNat / Nat.gcd a.toNat b.toNat : Nat) : Int) ≤ b
    omega
/-- the price of a deal: by the claim of the last seat -/
def priceD (w : Str) (rs : List Row) (d : Dealt) : Option Pr := match d.last with
  | [] => none
  | i :: _ => some (lowest (cl w (rowAt rs i) (d.sure.getD i 0 + if 0 < d.left then 1 else 0)))
end SS

/-! prices: alike to the least claim dealt -/
namespace SS
open PySem PySem.Spec PyProof.Rows L2 LamX
variable {w : Str} {rs : List Row} {f : List Int}
theorem atI_nat0 {xs : List V} {j : Nat} {v : V} (h : xs[j]? = some v) : atI xs (0 + (j : Int)) = some v := by
  rw [Int.zero_add]
  exact atI_nat h
/-- a right deal: what is sure and one seat more for the first of the tied -/
def goodN (d : Dealt) (k : Nat) : Int := d.sure.getD k 0 + has k (d.tied.take d.left.toNat)
def goodL (d : Dealt) : List Int := (List.range d.sure.length).map (goodN d)
theorem goodL_len (d : Dealt) : (goodL d).length = d.sure.length := by
  unfold goodL
  rw [List.length_map, List.length_range]
theorem goodL_get {d : Dealt} {k : Nat} (h : k < d.sure.length) : (goodL d).getD k 0 = goodN d k := by
  unfold goodL
  rw [List.getD_eq_getElem?_getD, List.getElem?_map, List.getElem?_range h]
  rfl
theorem eqv_nil (ds : List PyData) : PyData.eqv (.list ds) (.list []) = decide (ds = []) := by
  cases ds <;> simp [PyData.eqv, PyData.eqvAll]
/-- where the last seats went there is a claim alike to the price, and no claim below -/
theorem price_least {n : Int} (hw : w ∈ ways) (g : ∀ r ∈ rs, GoodRow r) {d : Dealt} (O : DealOk w rs n d) {i : Nat} {r : List Nat} (hl : d.last = i :: r) :
    (i < rs.length ∧ (rowAt rs i).2.1 < goodN d i ∧ cl w (rowAt rs i) (goodN d i) = cl w (rowAt rs i) (d.sure.getD i 0 + if 0 < d.left then 1 else 0)) ∧
    ∀ k < rs.length, (rowAt rs k).2.1 < goodN d k → Le (cl w (rowAt rs i) (d.sure.getD i 0 + if 0 < d.left then 1 else 0)) (cl w (rowAt rs k) (goodN d k)) := by
  have mi : i ∈ d.last := by rw [hl]; exact List.mem_cons_self ..
  have hf : Nn rs d.sure := fun i hi => (di_200 O.di g i hi).1
  rcases O.fin with ⟨l0, t0, L⟩ | ⟨lp, lt, tg, tl⟩
  · have gd : ∀ k, goodN d k = d.sure.getD k 0 := fun k => by
      unfold goodN has
      rw [t0, List.take_nil, if_neg (by simp), Int.add_zero]
    have e0 : ¬ 0 < d.left := by omega
    rw [if_neg e0, Int.add_zero, gd]
    refine ⟨⟨L.lt i mi, L.up i mi, rfl⟩, fun k hk h => ?_⟩
    rw [gd] at h ⊢
    exact L.least i mi k hk h
  · rw [if_pos lp]
    have G := greatest_grt (f := d.sure) hw (vt_good g) hf
    have mg : i ∈ greatest w rs d.sure := by rw [← tg, ← tl]; exact mi
    have mo := greatest_mem mg
    have il := opens_lt mo
    have mt : i ∈ d.tied.take d.left.toNat := by
      rw [← tl, hl]
      obtain ⟨m, hm⟩ : ∃ m, d.left.toNat = m + 1 := ⟨d.left.toNat - 1, by omega⟩
      rw [hm, List.take_succ_cons]
      exact List.mem_cons_self ..
    have gi : goodN d i = d.sure.getD i 0 + 1 := by
      unfold goodN has
      rw [if_pos mt]
    have bi := O.di.b i il
    refine ⟨⟨il, by omega, by rw [gi]⟩, fun k hk h => ?_⟩
    by_cases mk : k ∈ d.tied.take d.left.toNat
    · have gk : goodN d k = d.sure.getD k 0 + 1 := by
        unfold goodN has
        rw [if_pos mk]
      rw [gk]
      have mkg : k ∈ greatest w rs d.sure := by rw [← tg]; exact List.mem_of_mem_take mk
      exact G.top k mkg i mo
    · have gk : goodN d k = d.sure.getD k 0 := by
        unfold goodN has
        rw [if_neg mk, Int.add_zero]
      rw [gk] at h ⊢
      exact (O.top k hk h i mo).le
theorem price_none {n : Int} {d : Dealt} (O : DealOk w rs n d) (hl : d.last = []) : d.sure = lows rs ∧ d.left = 0 ∧ d.tied = [] ∧ n = (lows rs).sum := by
  rcases O.fin with ⟨l0, t0, L⟩ | ⟨lp, lt, tg, tl⟩
  · have e := L.none_ hl
    refine ⟨e, l0, t0, ?_⟩
    have := O.di.s
    rw [e, l0] at this
    omega
  · rw [← tl, hl] at lt
    exact absurd lt (by show ¬ d.left < 0; omega)
theorem priceD_some {d : Dealt} {c : Pr} (h : priceD w rs d = some c) : ∃ i r, d.last = i :: r ∧ c = lowest (cl w (rowAt rs i) (d.sure.getD i 0 + if 0 < d.left then 1 else 0)) := by
  unfold priceD at h
  cases e : d.last with
  | nil =>
    rw [e] at h
    cases h
  | cons i r =>
    rw [e] at h
    cases h
    exact ⟨i, r, rfl, rfl⟩
theorem priceD_none {d : Dealt} (h : priceD w rs d = none) : d.last = [] := by
  unfold priceD at h
  cases e : d.last with
  | nil => rfl
  | cons i r =>
    rw [e] at h
    cases h
theorem rank_neg {a b : Int × Int} : rank w a b < 0 ↔ Lt (a.1, dv w a.2) (b.1, dv w b.2) := by
  constructor
  · intro h
    refine not_le.mp fun c => ?_
    by_cases e : Lt (b.1, dv w b.2) (a.1, dv w a.2)
    · rw [rank_gt e] at h
      exact absurd h (by decide)
    · rw [rank_same (not_lt.mp e) c] at h
      exact absurd h (by decide)
  · intro h
    rw [rank_lt h]
    decide
/-- alike ones, one of them in lowest terms -/
theorem price_alike {p c : Pr} (hp : Cl p) (hc : Cl c) (h1 : Le p c) (h2 : Le c p) : (lowest p).1 * c.2 = c.1 * (lowest p).2 ∧ ((lowest p).2 = 0 ↔ c.2 = 0) := by
  obtain ⟨g, g1, e1, e2, l1, l2, _, _⟩ := lowest_mul hp
  obtain ⟨c1, c2⟩ := hc
  have e : p.1 * c.2 = c.1 * p.2 := Int.le_antisymm h1 h2
  rw [← e1, ← e2] at e
  have e3 : g * ((lowest p).1 * c.2) = g * (c.1 * (lowest p).2) := by
    rw [← Int.mul_assoc, Int.mul_comm g, e, mul3 g, Int.mul_comm g]
  have e4 : (lowest p).1 * c.2 = c.1 * (lowest p).2 := Int.eq_of_mul_eq_mul_left (by omega) e3
  refine ⟨e4, fun z => ?_, fun z => ?_⟩
  · rw [z, Int.mul_zero] at e4
    rcases Int.mul_eq_zero.mp e4 with h | h
    · omega
    · exact h
  · rw [z, Int.mul_zero] at e4
    rcases Int.mul_eq_zero.mp e4.symm with h | h
    · omega
    · exact h
end SS

/-! seats by a price -/
namespace SS
open PySem PySem.Spec PyProof.Rows L2 LamX
variable {w : Str} {rs : List Row} {f : List Int}
def fewM (w : Str) (r : Row) (c : Pr) : Nat → Int → Int
  | 0, few => few
  | n + 1, few => if above (cl w r (few + 1)) c = true then fewM w r c n (few + 1) else few
def few (w : Str) (r : Row) (c : Pr) : Int := fewM w r c (r.2.2 - r.2.1).toNat r.2.1
def many (w : Str) (r : Row) (c : Pr) : Int := if few w r c < r.2.2 then (if above c (cl w r (few w r c + 1)) = true then few w r c else few w r c + 1) else few w r c
def rnd (w : Str) (c : Pr) (r : Row) : Pr := (few w r c, many w r c)
theorem fewM_spec {r : Row} {c : Pr} (hw : w ∈ ways) (hr : 1 ≤ r.1) (hc : Cl c) : ∀ (n : Nat) (x : Int), 0 ≤ x → x ≤ fewM w r c n x ∧ fewM w r c n x ≤ x + n ∧ (x < fewM w r c n x → Lt c (cl w r (fewM w r c n x))) ∧ (fewM w r c n x < x + n → Le (cl w r (fewM w r c n x + 1)) c)
  | 0, x, h0 => by
    show x ≤ x ∧ x ≤ x + ((0 : Nat) : Int) ∧ (x < x → _) ∧ (x < x + ((0 : Nat) : Int) → _)
    exact ⟨Int.le_refl _, by omega, fun h => absurd h (Int.lt_irrefl _), fun h => absurd h (by omega)⟩
  | n + 1, x, h0 => by
    have e : fewM w r c (n + 1) x = if above (cl w r (x + 1)) c = true then fewM w r c n (x + 1) else x := rfl
    rw [e]
    by_cases h : above (cl w r (x + 1)) c = true
    · rw [if_pos h]
      obtain ⟨a1, a2, a3, a4⟩ := fewM_spec hw hr hc n (x + 1) (by omega)
      refine ⟨by omega, by omega, fun _ => ?_, fun h2 => a4 (by omega)⟩
      by_cases e2 : x + 1 < fewM w r c n (x + 1)
      · exact a3 e2
      · have e3 : fewM w r c n (x + 1) = x + 1 := by omega
        rw [e3]
        exact above_iff.mp h
    · rw [if_neg h]
      exact ⟨Int.le_refl _, by omega, fun h => absurd h (Int.lt_irrefl _), fun _ => above_false.mp (Bool.not_eq_true _ ▸ h)⟩
theorem few_spec {r : Row} {c : Pr} (hw : w ∈ ways) (g : GoodRow r) (hc : Cl c) : r.2.1 ≤ few w r c ∧ few w r c ≤ r.2.2 ∧ (r.2.1 < few w r c → Lt c (cl w r (few w r c))) ∧ (few w r c < r.2.2 → Le (cl w r (few w r c + 1)) c) := by
  obtain ⟨g1, _, g3, g4, _⟩ := g
  have e : ((r.2.2 - r.2.1).toNat : Int) = r.2.2 - r.2.1 := Int.toNat_of_nonneg (by omega)
  obtain ⟨a1, a2, a3, a4⟩ := fewM_spec (w := w) (r := r) (c := c) hw g1 hc (r.2.2 - r.2.1).toNat r.2.1 g3
  unfold few
  exact ⟨a1, by omega, a3, fun h => a4 (by omega)⟩
theorem many_spec {r : Row} {c : Pr} (hw : w ∈ ways) (g : GoodRow r) (hc : Cl c) : few w r c ≤ many w r c ∧ many w r c ≤ r.2.2 := by
  obtain ⟨a1, a2, _, _⟩ := few_spec hw g hc
  unfold many
  by_cases h : few w r c < r.2.2
  · rw [if_pos h]
    split <;> omega
  · rw [if_neg h]
    omega
/-- what the few are, by their claims alone -/
theorem few_is {r : Row} {c : Pr} (hw : w ∈ ways) (g : GoodRow r) (hc : Cl c) {x : Int} (h1 : r.2.1 ≤ x) (h2 : x ≤ r.2.2) (h3 : r.2.1 < x → Lt c (cl w r x)) (h4 : x < r.2.2 → Le (cl w r (x + 1)) c) : few w r c = x := by
  obtain ⟨a1, a2, a3, a4⟩ := few_spec hw g hc
  obtain ⟨g1, _, g3, _, _⟩ := g
  rcases Int.lt_trichotomy (few w r c) x with h | h | h
  · have l1 := a4 (by omega)
    have l2 := h3 (by omega)
    have l3 := cl_le hw (r := r) g1 (j := few w r c + 1) (k := x) (by omega) (by omega)
    exact (Lt.irrefl (Lt.trans_le hc (cl_cl hw g1 (by omega)) hc (Lt.trans_le hc (cl_cl hw g1 (by omega)) (cl_cl hw g1 (k := few w r c + 1) (by omega)) l2 l3) l1)).elim
  · exact h
  · have l1 := a3 (by omega)
    have l2 := h4 (by omega)
    have l3 := cl_le hw (r := r) g1 (j := x + 1) (k := few w r c) (by omega) (by omega)
    exact (Lt.irrefl (Lt.trans_le hc (cl_cl hw g1 (k := x + 1) (by omega)) hc (Lt.trans_le hc (cl_cl hw g1 (by omega)) (cl_cl hw g1 (k := x + 1) (by omega)) l1 l3) l2)).elim
theorem many_up {r : Row} {c : Pr} (h : few w r c < r.2.2) (h2 : Le c (cl w r (few w r c + 1))) : many w r c = few w r c + 1 := by
  unfold many
  rw [if_pos h, if_neg (by rw [above_false.mpr h2]; decide)]
theorem many_no {r : Row} {c : Pr} (h : few w r c < r.2.2 → Lt (cl w r (few w r c + 1)) c) : many w r c = few w r c := by
  unfold many
  by_cases e : few w r c < r.2.2
  · rw [if_pos e, if_pos (above_iff.mpr (h e))]
  · rw [if_neg e]
end SS

/-! the price of a deal shows it -/
namespace SS
open PySem PySem.Spec PyProof.Rows L2 LamX
variable {w : Str} {rs : List Row} {f : List Int}
def pcol (k : Nat) (c : Pr) : Int := match k with
  | 0 => c.1
  | _ => c.2
theorem pcol_at {K : PySem.W.Frag} {H : Hp} {a : Addr} {c : Pr} {k : Nat} (hk : k < 2) (h : SqT K H a [.int c.1, .int c.2]) {Q : VK} (q : Q (.int (pcol k c)) H) : rIxT K (.ref a) (.int (k : Int)) H Q := by
  refine ⟨a, _, _, _, rfl, rfl, h, atI_nat (j := k) (v := .int (pcol k c)) ?_, q⟩
  match k, hk with
  | 0, _ => rfl
  | 1, _ => rfl
/-- [pair[k] for pair in pairs] -/
theorem lc_pcol {K : PySem.W.Frag} {σ : L2.St} {H : Hp} {Qd : Hp → Prop} {i k : Nat} {p D : Addr} {xs : List V} {cs : List Pr} (h : Prs K H p xs cs) (hk : k < 2) (hi : i < σ.length) (hl : cs.length ≤ 1000) (nD : H D = none)
    (q : ∀ H', Same H H' → H' D = some (.lst ((cs.map (pcol k)).map V.int)) → Qd H') : LcGoal (Itl K p) (gName i) tYes (tOp (rIxT K) (tVar i) (tC (.int (k : Int)))) [i] σ H D Qd := by
  refine lc_list (K := K) (a := p) (xs := xs) (fun j H' => Same H H' ∧ H' D = some (.lst (((cs.take j).map (pcol k)).map V.int))) ⟨same_new nD, upd_same⟩ (fun j H' _ ⟨s, _⟩ => same_seq s h.l) (fun j x H' hx ⟨s, e⟩ => ?_) (fun H' ⟨s, e⟩ => ?_)
  · obtain ⟨r, a, hr, rfl, ha⟩ := (h.same s).getV hx
    refine ⟨?_, .ref a, ?_, ?_⟩
    rotate_left 2
    · refine pcol_at (Q := fun y H4 => ∃ acc, H4 D = some (.lst acc) ∧ acc.length < sizeLine ∧ Same H (upd H4 D (.lst (acc ++ [y]))) ∧ upd H4 D (.lst (acc ++ [y])) D = some (.lst (((cs.take (j + 1)).map (pcol k)).map V.int))) hk ha ⟨_, e, szl ?_, same_mut s nD, ?_⟩
      · rw [List.length_map, List.length_map, List.length_take]
        omega
      · rw [upd_same, List.take_add_one, hr, List.map_append, List.map_append]
        rfl
    · show ((σ.set i none).set i (some (V.ref a))).set i none = σ.set i none
      rw [List.set_set, List.set_set]
    · show ((σ.set i none).set i (some (V.ref a)))[i]? = _
      rw [List.getElem?_set_self (by rw [List.length_set]; exact hi)]
  · have e2 : cs.take xs.length = cs := List.take_of_length_le (by rw [h.n]; exact Nat.le_refl _)
    rw [e2] at e
    exact q H' s e
theorem lowest_cl {p : Pr} (h : Cl p) : Cl (lowest p) ∧ Le (lowest p) p ∧ Le p (lowest p) := by
  obtain ⟨g, g1, e1, e2, l1, l2, _, _⟩ := lowest_mul h
  have e : (lowest p).1 * p.2 = p.1 * (lowest p).2 := by
    rw [← e1, ← e2, ← Int.mul_assoc, Int.mul_assoc ((lowest p).1) g, Int.mul_comm g, ← Int.mul_assoc]
  exact ⟨⟨l1, l2⟩, Int.le_of_eq e, Int.le_of_eq e.symm⟩
def fewL (w : Str) (rs : List Row) (c : Pr) : List Int := (rs.map (rnd w c)).map (pcol 0)
def manyL (w : Str) (rs : List Row) (c : Pr) : List Int := (rs.map (rnd w c)).map (pcol 1)
theorem fewL_len (w : Str) (rs : List Row) (c : Pr) : (fewL w rs c).length = rs.length := by
  unfold fewL
  rw [List.length_map, List.length_map]
theorem manyL_len (w : Str) (rs : List Row) (c : Pr) : (manyL w rs c).length = rs.length := by
  unfold manyL
  rw [List.length_map, List.length_map]
theorem fewL_get {c : Pr} {k : Nat} (h : k < rs.length) : (fewL w rs c).getD k 0 = few w (rowAt rs k) c := by
  unfold fewL
  rw [List.getD_eq_getElem?_getD, List.getElem?_map, List.getElem?_map, row_get h]
  rfl
theorem manyL_get {c : Pr} {k : Nat} (h : k < rs.length) : (manyL w rs c).getD k 0 = many w (rowAt rs k) c := by
  unfold manyL
  rw [List.getD_eq_getElem?_getD, List.getElem?_map, List.getElem?_map, row_get h]
  rfl
/-- what a price of the deal shows -/
structure Shows (w : Str) (rs : List Row) (n : Int) (d : Dealt) (c : Pr) : Prop where
  last : ∀ k < rs.length, (rowAt rs k).2.1 < d.sure.getD k 0 → Le c (lst w rs d.sure k)
  next : ∀ k ∈ opens rs d.sure, Le (nxt w rs d.sure k) c
  fewT : 0 < d.left → fewL w rs c = d.sure
  loose : 0 < d.left → (List.range rs.length).filter (fun k => decide (few w (rowAt rs k) c < many w (rowAt rs k) c)) = d.tied
  manyS : d.left = 0 → manyL w rs c = d.sure
  lo : (fewL w rs c).sum ≤ n
  hi : n ≤ (manyL w rs c).sum
theorem few_le_many {c : Pr} (hw : w ∈ ways) (g : ∀ r ∈ rs, GoodRow r) (hc : Cl c) : (fewL w rs c).sum ≤ (manyL w rs c).sum := by
  refine sum_le _ _ (by rw [fewL_len, manyL_len]) fun i hi => ?_
  rw [fewL_len] at hi
  rw [fewL_get hi, manyL_get hi]
  exact (many_spec hw (row_good g hi) hc).1
theorem price_shows {n : Int} (hw : w ∈ ways) (g : ∀ r ∈ rs, GoodRow r) {d : Dealt} (O : DealOk w rs n d) {i : Nat} {r : List Nat} (hl : d.last = i :: r) {c : Pr}
    (hc : c = lowest (cl w (rowAt rs i) (d.sure.getD i 0 + if 0 < d.left then 1 else 0))) : Cl c ∧ Shows w rs n d c := by
  have hf : Nn rs d.sure := fun i hi => (di_200 O.di g i hi).1
  have hv := vt_good g
  have G := greatest_grt (f := d.sure) hw hv hf
  have mi : i ∈ d.last := by rw [hl]; exact List.mem_cons_self ..
  have hn := O.di.n
  have clN : ∀ {k : Nat}, k < rs.length → Cl (nxt w rs d.sure k) := fun {k} hk => nxt_cl hw hv hf hk
  have clL : ∀ {k : Nat}, k < rs.length → (rowAt rs k).2.1 < d.sure.getD k 0 → Cl (lst w rs d.sure k) := fun {k} hk h => cl_cl hw (hv k hk) (by have := lo_good g k hk; omega)
  have lstS : ∀ {k : Nat}, k < rs.length → d.sure.getD k 0 < (rowAt rs k).2.2 → k ∈ opens rs d.sure := fun {k} hk h => opens_mem.mpr ⟨hk, h⟩
  rcases O.fin with ⟨l0, t0, L⟩ | ⟨lp, lt, tg, tl⟩
  · rw [if_neg (by omega), Int.add_zero] at hc
    have hP : Cl (lst w rs d.sure i) := clL (L.lt i mi) (L.up i mi)
    have hcP : c = lowest (lst w rs d.sure i) := hc
    obtain ⟨hcc, p1, p2⟩ := lowest_cl hP
    rw [← hcP] at hcc p1 p2
    have last : ∀ k < rs.length, (rowAt rs k).2.1 < d.sure.getD k 0 → Le c (lst w rs d.sure k) := fun k hk h => Le.trans hcc hP (clL hk h) p1 (L.least i mi k hk h)
    have nextS : ∀ k ∈ opens rs d.sure, Lt (nxt w rs d.sure k) c := fun k hk => Lt.trans_le (clN (opens_lt hk)) hP hcc (O.top i (L.lt i mi) (L.up i mi) k hk) p2
    have manyK : ∀ k < rs.length, many w (rowAt rs k) c = d.sure.getD k 0 := fun k hk => by
      have gk := row_good g hk
      have bk := O.di.b k hk
      have lo0 := lo_good g k hk
      by_cases hlow : (rowAt rs k).2.1 < d.sure.getD k 0
      · by_cases hs : Lt c (lst w rs d.sure k)
        · have e : few w (rowAt rs k) c = d.sure.getD k 0 := few_is hw gk hcc bk.1 bk.2 (fun _ => hs) (fun h => (nextS k (lstS hk h)).le)
          rw [many_no (fun h => by rw [e] at h ⊢; exact nextS k (lstS hk h)), e]
        · have hs2 := not_lt.mp hs
          have e : few w (rowAt rs k) c = d.sure.getD k 0 - 1 := few_is hw gk hcc (by omega) (by omega)
            (fun h => Le.trans_lt hcc (clL hk hlow) (cl_cl hw gk.1 (by omega)) (last k hk hlow) (cl_lt hw gk.1 (by omega) (by omega)))
            (fun _ => by rw [show d.sure.getD k 0 - 1 + 1 = d.sure.getD k 0 by omega]; exact hs2)
          have e2 := many_up (w := w) (r := rowAt rs k) (c := c) (by rw [e]; omega) (by rw [e, show d.sure.getD k 0 - 1 + 1 = d.sure.getD k 0 by omega]; exact last k hk hlow)
          rw [e2, e]
          omega
      · have e0 : d.sure.getD k 0 = (rowAt rs k).2.1 := by omega
        have e : few w (rowAt rs k) c = d.sure.getD k 0 := few_is hw gk hcc bk.1 bk.2 (fun h => absurd h hlow) (fun h => (nextS k (lstS hk h)).le)
        rw [many_no (fun h => by rw [e] at h ⊢; exact nextS k (lstS hk h)), e]
    have hm : manyL w rs c = d.sure := list_ext (by rw [manyL_len, hn]) fun k hk => by
      rw [manyL_len] at hk
      rw [manyL_get hk, manyK k hk]
    have hs := O.di.s
    refine ⟨hcc, last, fun k hk => (nextS k hk).le, fun h => absurd h (by omega), fun h => absurd h (by omega), fun _ => hm, ?_, ?_⟩
    · have := few_le_many (c := c) hw g hcc
      rw [hm] at this
      omega
    · rw [hm]
      omega
  · rw [if_pos lp] at hc
    have mg : i ∈ greatest w rs d.sure := by rw [← tg, ← tl]; exact mi
    have mo := greatest_mem mg
    have hP : Cl (nxt w rs d.sure i) := clN (opens_lt mo)
    have hcP : c = lowest (nxt w rs d.sure i) := hc
    obtain ⟨hcc, p1, p2⟩ := lowest_cl hP
    rw [← hcP] at hcc p1 p2
    have lastS : ∀ k < rs.length, (rowAt rs k).2.1 < d.sure.getD k 0 → Lt c (lst w rs d.sure k) := fun k hk h => Le.trans_lt hcc hP (clL hk h) p1 (O.top k hk h i mo)
    have next : ∀ k ∈ opens rs d.sure, Le (nxt w rs d.sure k) c := fun k hk => Le.trans (clN (opens_lt hk)) hP hcc (G.top i mg k hk) p2
    have fewK : ∀ k < rs.length, few w (rowAt rs k) c = d.sure.getD k 0 := fun k hk => by
      have bk := O.di.b k hk
      exact few_is hw (row_good g hk) hcc bk.1 bk.2 (fun h => lastS k hk h) (fun h => next k (lstS hk h))
    have manyIn : ∀ k ∈ greatest w rs d.sure, many w (rowAt rs k) c = d.sure.getD k 0 + 1 := fun k hk => by
      have ko := greatest_mem hk
      have kl := opens_lt ko
      have e := fewK k kl
      rw [many_up (by rw [e]; exact (opens_mem.mp ko).2) (by rw [e]; exact Le.trans hcc hP (clN kl) p1 (G.top k hk i mo)), e]
    have manyOut : ∀ k < rs.length, k ∉ greatest w rs d.sure → many w (rowAt rs k) c = d.sure.getD k 0 := fun k hk hn => by
      have e := fewK k hk
      rw [many_no (fun h => by rw [e] at h ⊢; exact Lt.trans_le (clN hk) hP hcc (G.low i mg k (lstS hk h) hn) p2), e]
    have hfew : fewL w rs c = d.sure := list_ext (by rw [fewL_len, hn]) fun k hk => by
      rw [fewL_len] at hk
      rw [fewL_get hk, fewK k hk]
    have hmany : manyL w rs c = bump d.sure (greatest w rs d.sure) := list_ext (by rw [manyL_len, bump_len, hn]) fun k hk => by
      rw [manyL_len] at hk
      rw [manyL_get hk, bump_greatest hn]
      by_cases m : k ∈ greatest w rs d.sure
      · rw [if_pos m, manyIn k m]
      · rw [if_neg m, manyOut k hk m, Int.add_zero]
    have hs := O.di.s
    refine ⟨hcc, fun k hk h => (lastS k hk h).le, next, fun _ => hfew, fun _ => ?_, fun h => absurd h (by omega), ?_, ?_⟩
    · rw [tg]
      have e : (List.range rs.length).filter (fun k => decide (few w (rowAt rs k) c < many w (rowAt rs k) c)) = (List.range rs.length).filter (fun k => decide (k ∈ greatest w rs d.sure)) := by
        refine List.filter_congr fun k hk => ?_
        have hk2 := List.mem_range.mp hk
        rw [fewK k hk2]
        by_cases m : k ∈ greatest w rs d.sure
        · rw [manyIn k m, decide_eq_true m, decide_eq_true (by omega)]
        · rw [manyOut k hk2 m, decide_eq_false m, decide_eq_false (Int.lt_irrefl _)]
      rw [e]
      refine List.Perm.eq_of_pairwise (le := (· < ·)) (fun a b _ _ h1 h2 => absurd h1 (Nat.lt_asymm h2)) (List.pairwise_lt_range.filter _) (opens_sorted.sublist greatest_sub) ?_
      refine (List.perm_ext_iff_of_nodup (List.nodup_range.filter _) greatest_nodup).mpr fun k => ?_
      rw [List.mem_filter, List.mem_range, decide_eq_true_eq]
      exact ⟨fun h => h.2, fun h => ⟨opens_lt (greatest_mem h), h⟩⟩
    · rw [hfew]
      omega
    · rw [hmany, bump_sum _ _ (greatest_lt (D := hn))]
      rw [tg] at lt
      omega
end SS

/-! right deals -/
namespace SS
open PySem PySem.Spec PyProof.Rows L2 LamX
variable {w : Str} {rs : List Row} {f : List Int}
def seatB (p : PyData × Row) : Bool := isWh0 p.1 p.2.2.1 p.2.2.2
def areSeatsD (rs : List Row) : PyData → Bool
  | .list ds => decide (ds.length = rs.length) && (List.zip ds rs).all seatB
  | _ => false
theorem areSeatsD_other {d : PyData} (h : isLstD d = false) : areSeatsD rs d = false := by
  cases d with
  | list ds => cases h
  | _ => rfl
theorem areSeatsD_def (ds : List PyData) : areSeatsD rs (.list ds) = (decide (ds.length = rs.length) && (List.zip ds rs).all seatB) := rfl
theorem zip_seats : ∀ {ds : List PyData} {rs : List Row}, ds.length = rs.length → (List.zip ds rs).all seatB = true → ∃ fs : List Int, ds = fs.map PyData.int ∧ fs.length = rs.length ∧ ∀ i < rs.length, (rowAt rs i).2.1 ≤ fs.getD i 0 ∧ fs.getD i 0 ≤ (rowAt rs i).2.2
  | [], [], _, _ => ⟨[], rfl, rfl, fun i hi => by cases hi⟩
  | [], _ :: _, h, _ => by cases h
  | _ :: _, [], h, _ => by cases h
  | d :: ds, r :: rs, h, k => by
    rw [List.zip_cons_cons, List.all_cons] at k
    obtain ⟨k1, k2⟩ := He.ba k
    obtain ⟨x, rfl, x1, x2⟩ := wh_int k1
    obtain ⟨fs, rfl, l, b⟩ := zip_seats (Nat.succ.inj h) k2
    refine ⟨x :: fs, rfl, congrArg Nat.succ l, fun i hi => ?_⟩
    cases i with
    | zero => exact ⟨x1, x2⟩
    | succ i => exact b i (Nat.lt_of_succ_lt_succ hi)
theorem areSeatsD_is {d : PyData} (h : areSeatsD rs d = true) : ∃ fs : List Int, d = .list (fs.map PyData.int) ∧ fs.length = rs.length ∧ ∀ i < rs.length, (rowAt rs i).2.1 ≤ fs.getD i 0 ∧ fs.getD i 0 ≤ (rowAt rs i).2.2 := by
  cases d with
  | list ds =>
    rw [areSeatsD_def] at h
    obtain ⟨h1, h2⟩ := He.ba h
    obtain ⟨fs, e, l, b⟩ := zip_seats (of_decide_eq_true h1) h2
    exact ⟨fs, by rw [e], l, b⟩
  | _ => cases h
theorem zip_seats_of : ∀ {fs : List Int} {rs : List Row}, fs.length = rs.length → (∀ i < rs.length, (rowAt rs i).2.1 ≤ fs.getD i 0 ∧ fs.getD i 0 ≤ (rowAt rs i).2.2) → (List.zip (fs.map PyData.int) rs).all seatB = true
  | [], [], _, _ => rfl
  | [], _ :: _, h, _ => by cases h
  | _ :: _, [], h, _ => by cases h
  | x :: fs, r :: rs, h, b => by
    rw [List.map_cons, List.zip_cons_cons, List.all_cons, zip_seats_of (Nat.succ.inj h) fun i hi => b (i + 1) (Nat.succ_lt_succ hi)]
    have b0 := b 0 (Nat.zero_lt_succ _)
    rw [show seatB (PyData.int x, r) = true from wh_of b0.1 b0.2]
    rfl
theorem areSeatsD_of {fs : List Int} (h : fs.length = rs.length) (b : ∀ i < rs.length, (rowAt rs i).2.1 ≤ fs.getD i 0 ∧ fs.getD i 0 ≤ (rowAt rs i).2.2) : areSeatsD rs (.list (fs.map PyData.int)) = true := by
  rw [areSeatsD_def, zip_seats_of h b, List.length_map, decide_eq_true h]
  rfl
/-- no next claim is above this list's last one -/
def okB (w : Str) (rs : List Row) (f : List Int) (k : Nat) : Bool := decide (f.getD k 0 ≤ (rowAt rs k).2.1) || (opens rs f).all fun j => !above (nxt w rs f j) (lst w rs f k)
def rightB (w : Str) (rs : List Row) (f : List Int) : Bool := (List.range rs.length).all (okB w rs f)
/-- no claim passes -/
def Right (w : Str) (rs : List Row) (f : List Int) : Prop := ∀ k < rs.length, (rowAt rs k).2.1 < f.getD k 0 → ∀ j ∈ opens rs f, Le (nxt w rs f j) (lst w rs f k)
theorem okB_iff {k : Nat} : okB w rs f k = true ↔ ((rowAt rs k).2.1 < f.getD k 0 → ∀ j ∈ opens rs f, Le (nxt w rs f j) (lst w rs f k)) := by
  unfold okB
  rw [Bool.or_eq_true, decide_eq_true_eq, List.all_eq_true]
  constructor
  · rintro (h | h) hl j hj
    · omega
    · have := h j hj
      rw [Bool.not_eq_true'] at this
      exact above_false.mp this
  · intro h
    by_cases hl : (rowAt rs k).2.1 < f.getD k 0
    · refine .inr fun j hj => ?_
      rw [Bool.not_eq_true']
      exact above_false.mpr (h hl j hj)
    · exact .inl (by omega)
theorem rightB_iff : rightB w rs f = true ↔ Right w rs f := by
  unfold rightB Right
  rw [List.all_eq_true]
  constructor
  · intro h k hk
    exact okB_iff.mp (h k (List.mem_range.mpr hk))
  · intro h k hk
    exact okB_iff.mpr (h k (List.mem_range.mp hk))
theorem rightB_false {k : Nat} (hk : k < rs.length) (h : okB w rs f k = false) : rightB w rs f = false := by
  rw [← Bool.not_eq_true]
  intro z
  unfold rightB at z
  rw [List.all_eq_true] at z
  rw [z k (List.mem_range.mpr hk)] at h
  cases h
def intD : PyData → Int
  | .int i => i
  | _ => 0
def isRightD (w : Str) (rs : List Row) : PyData → Bool
  | .list ds => areSeatsD rs (.list ds) && rightB w rs (ds.map intD)
  | _ => false
theorem isRightD_no {d : PyData} (h : areSeatsD rs d = false) : isRightD w rs d = false := by
  cases d with
  | list ds =>
    show (areSeatsD rs (.list ds) && _) = false
    rw [h, Bool.false_and]
  | _ => rfl
theorem map_intD (fs : List Int) : (fs.map PyData.int).map intD = fs := by
  rw [List.map_map]
  exact List.map_id'' (fun _ => rfl) fs
theorem isRightD_ints {fs : List Int} (h : areSeatsD rs (.list (fs.map PyData.int)) = true) : isRightD w rs (.list (fs.map PyData.int)) = rightB w rs fs := by
  show (areSeatsD rs (.list (fs.map PyData.int)) && rightB w rs ((fs.map PyData.int).map intD)) = _
  rw [h, map_intD, Bool.true_and]
end SS

/-! what is sure, with one seat more for some of the tied, is right -/
namespace SS
open PySem PySem.Spec PyProof.Rows L2 LamX
variable {w : Str} {rs : List Row} {f : List Int}
/-- f with one seat more for the places of S -/
def PickOf (f g : List Int) (S : List Nat) : Prop := g.length = f.length ∧ ∀ k, g.getD k 0 = f.getD k 0 + has k S
theorem has_in {k : Nat} {S : List Nat} (h : k ∈ S) : has k S = 1 := by
  unfold has
  rw [if_pos h]
theorem has_out {k : Nat} {S : List Nat} (h : k ∉ S) : has k S = 0 := by
  unfold has
  rw [if_neg h]
theorem pick_seats {n : Int} {d : Dealt} (O : DealOk w rs n d) {g : List Int} {S : List Nat} (hS : ∀ k ∈ S, k ∈ d.tied) (hg : PickOf d.sure g S) : g.length = rs.length ∧ ∀ i < rs.length, (rowAt rs i).2.1 ≤ g.getD i 0 ∧ g.getD i 0 ≤ (rowAt rs i).2.2 := by
  refine ⟨by rw [hg.1, O.di.n], fun i hi => ?_⟩
  have b := O.di.b i hi
  rw [hg.2]
  by_cases m : i ∈ S
  · rw [has_in m]
    have ho : i ∈ opens rs d.sure := by
      have ht := hS i m
      rcases O.fin with ⟨_, t0, _⟩ | ⟨_, _, tg, _⟩
      · rw [t0] at ht
        cases ht
      · rw [tg] at ht
        exact greatest_mem ht
    have := (opens_mem.mp ho).2
    omega
  · rw [has_out m]
    omega
theorem pick_right {n : Int} (hw : w ∈ ways) (g0 : ∀ r ∈ rs, GoodRow r) {d : Dealt} (O : DealOk w rs n d) {g : List Int} {S : List Nat} (hS : ∀ k ∈ S, k ∈ d.tied) (hg : PickOf d.sure g S) : Right w rs g := by
  have hv := vt_good g0
  have hf : Nn rs d.sure := fun i hi => (di_200 O.di g0 i hi).1
  have G := greatest_grt (f := d.sure) hw hv hf
  have hn := O.di.n
  obtain ⟨gl, gs⟩ := pick_seats O hS hg
  have tied : ∀ k ∈ S, k ∈ greatest w rs d.sure := fun k hk => by
    have ht := hS k hk
    rcases O.fin with ⟨_, t0, _⟩ | ⟨_, _, tg, _⟩
    · rw [t0] at ht
      cases ht
    · rw [tg] at ht
      exact ht
  have op : ∀ j ∈ opens rs g, j ∈ opens rs d.sure := fun j hj => by
    obtain ⟨h1, h2⟩ := opens_mem.mp hj
    rw [hg.2] at h2
    have := has_01 j S
    exact opens_mem.mpr ⟨h1, by omega⟩
  have nx : ∀ j ∈ opens rs g, Le (nxt w rs g j) (nxt w rs d.sure j) := fun j hj => by
    have jl := opens_lt hj
    have := has_01 j S
    have h0 := hf j jl
    refine cl_le hw (hv j jl) (j := d.sure.getD j 0 + 1) (k := g.getD j 0 + 1) (by omega) ?_
    rw [hg.2]
    omega
  have clN : ∀ {k : Nat}, k < rs.length → Cl (nxt w rs d.sure k) := fun {k} hk => nxt_cl hw hv hf hk
  have clG : ∀ {k : Nat}, k < rs.length → Cl (nxt w rs g k) := fun {k} hk => cl_cl hw (hv k hk) (by
    have := gs k hk
    have := lo_good g0 k hk
    omega)
  intro k hk hup j hj
  have jo := op j hj
  have jl := opens_lt jo
  by_cases m : k ∈ S
  · have e : lst w rs g k = nxt w rs d.sure k := by
      unfold lst nxt
      rw [hg.2, has_in m]
    rw [e]
    exact Le.trans (clG jl) (clN jl) (clN hk) (nx j hj) (G.top k (tied k m) j jo)
  · have e : lst w rs g k = lst w rs d.sure k := by
      unfold lst
      rw [hg.2, has_out m, Int.add_zero]
    rw [hg.2, has_out m, Int.add_zero] at hup
    rw [e]
    have hlo := lo_good g0 k hk
    exact Le.trans (clG jl) (clN jl) (cl_cl hw (hv k hk) (by omega)) (nx j hj) (O.top k hk hup j jo).le
theorem pick_isRight {n : Int} (hw : w ∈ ways) (g0 : ∀ r ∈ rs, GoodRow r) {d : Dealt} (O : DealOk w rs n d) {g : List Int} {S : List Nat} (hS : ∀ k ∈ S, k ∈ d.tied) (hg : PickOf d.sure g S) : isRightD w rs (.list (g.map PyData.int)) = true := by
  obtain ⟨a, b⟩ := pick_seats O hS hg
  rw [isRightD_ints (areSeatsD_of a b)]
  exact rightB_iff.mpr (pick_right hw g0 O hS hg)
theorem good_pick {n : Int} {d : Dealt} (O : DealOk w rs n d) : PickOf d.sure (goodL d) (d.tied.take d.left.toNat) := by
  refine ⟨goodL_len d, fun k => ?_⟩
  by_cases h : k < d.sure.length
  · rw [goodL_get h]
    rfl
  · rw [List.getD_eq_getElem?_getD, List.getElem?_eq_none (by rw [goodL_len]; omega), List.getD_eq_getElem?_getD, List.getElem?_eq_none (by omega)]
    rw [has_out]
    · rfl
    · intro m
      have mt := List.mem_of_mem_take m
      rcases O.fin with ⟨_, t0, _⟩ | ⟨_, _, tg, _⟩
      · rw [t0] at mt
        cases mt
      · rw [tg] at mt
        have := opens_lt (greatest_mem mt)
        rw [O.di.n] at h
        omega
theorem good_isRight {n : Int} (hw : w ∈ ways) (g0 : ∀ r ∈ rs, GoodRow r) {d : Dealt} (O : DealOk w rs n d) : isRightD w rs (.list ((goodL d).map PyData.int)) = true :=
  pick_isRight hw g0 O (fun k hk => List.mem_of_mem_take hk) (good_pick O)
end SS

namespace SS
open PySem PySem.Spec PyProof.Rows L2 LamX
def topS (i : Nat) : Stmt := PySem.Challenge.pw_seatshares_k04_right_or_not.main.body.getD i (.Pass ⟨0, 0, 0, 0⟩)
section
variable {P : Program} {w : World} {K : PySem.W.Frag} {mg : Str → Option Value} {base : Heap}
abbrev s_is_whole : Stmt := topS 14
theorem sc_is_whole : FnScope ["thing", "least", "most"] ["thing", "least", "most"] (defScope s_is_whole) := ⟨rfl, rfl, rfl, by decide +kernel, rfl, by decide +kernel, by decide +kernel⟩
abbrev isWh (d : PyData) (lo hi : Int) : Bool := isWh0 d lo hi
def sp_is_whole (K : PySem.W.Frag) : Sp := fun vs H Q _ => ∃ (v : V) (d : PyData) (lo hi : Int), vs = [v, .int lo, .int hi] ∧ Dz K H v d ∧ Q (.bl (isWh d lo hi)) H
theorem ok_is_whole (Z : BZ mg) (D : DefAt K mg "is_whole" s_is_whole) : OkF P w K mg base 1 "is_whole" ["thing", "least", "most"] (sp_is_whole K) := by
  refine OkF.mk' D sc_is_whole (fun _ _ _ _ _ _ us hl => match us, hl with | [_, _, _], _ => rfl) (fun vs H Q E h => ?_) (fun f cdv A outer s H vs Q E hr h => ?_)
  · first | (obtain ⟨_, rfl, _⟩ := h; rfl) | (obtain ⟨_, _, rfl, _⟩ := h; rfl) | (obtain ⟨_, _, _, rfl, _⟩ := h; rfl) | (obtain ⟨_, _, _, _, rfl, _⟩ := h; rfl) | (obtain ⟨_, _, _, _, _, rfl, _⟩ := h; rfl) | (obtain ⟨_, _, _, _, _, _, rfl, _⟩ := h; rfl) | (obtain ⟨_, _, _, _, _, _, _, rfl, _⟩ := h; rfl) | (obtain ⟨_, _, _, _, _, _, _, _, rfl, _⟩ := h; rfl) | (obtain ⟨_, _, _, _, _, _, _, _, _, rfl, _⟩ := h; rfl) | (obtain ⟨_, _, _, _, _, _, _, _, _, _, rfl, _⟩ := h; rfl) | (obtain ⟨_, _, _, _, _, _, _, _, _, _, _, rfl, _⟩ := h; rfl) | (obtain ⟨_, _, _, _, _, _, _, _, _, _, _, _, rfl, _⟩ := h; rfl) | (obtain ⟨_, _, _, _, _, _, _, _, _, _, _, _, _, rfl, _⟩ := h; rfl) | (obtain ⟨_, _, _, _, _, _, _, _, _, _, _, _, _, _, rfl, _⟩ := h; rfl)
  · refine ⟨_, PSs.nox ((pss_one (ps_ret (pe_and (pe_callB (call_isAK (K := K) rfl) (by rfl) Z.isinstance bt_isinstance (pa_cons (pv 0) (pa_cons (pe_bltn (v := .ty "int") (by rfl) Z.int bt_int rfl) pa_nil))) (pe_and (pe_not (pe_callB (call_isAK (K := K) rfl) (by rfl) Z.isinstance bt_isinstance (pa_cons (pv 0) (pa_cons (pe_bltn (v := .ty "bool") (by rfl) Z.bool bt_bool rfl) pa_nil)))) (pe_one (pe_chain op_le op_le (pv 1) (pv 0) (pv 2)))))))), ?_⟩
    obtain ⟨v, d, lo, hi, rfl, hd, q⟩ := h
    refine ⟨v, rfl, isi_int hd ⟨_, rfl, iteB (fun e1 => ⟨v, rfl, isi_bool hd ⟨_, rfl, ⟨_, rfl, iteB (fun e2 => ?_) (fun e2 => ?_)⟩⟩⟩) (fun e1 => ?_)⟩⟩
    · cases d with
      | int i =>
        obtain rfl : v = .int i := by
          rcases hd with hd | ⟨hd, _⟩
          · cases hd
            rfl
          · cases hd
        refine ⟨.int lo, rfl, .int i, rfl, lo, i, rfl, rfl, _, rfl, iteB (fun e3 => ⟨.int hi, rfl, i, hi, rfl, rfl, ?_⟩) (fun e3 => ?_)⟩
        · have q2 : Q (.bl (decide (lo ≤ i) && decide (i ≤ hi))) H := q
          rw [e3, Bool.true_and] at q2
          exact q2
        · have q2 : Q (.bl (decide (lo ≤ i) && decide (i ≤ hi))) H := q
          rw [e3, Bool.false_and] at q2
          exact q2
      | bool b => cases e2
      | _ => cases e1
    · cases d with
      | bool b => exact q
      | int i => cases e2
      | _ => cases e1
    · cases d with
      | int i => cases e1
      | bool b => cases e1
      | _ => exact q
abbrev s_need_way : Stmt := topS 15
theorem sc_need_way : FnScope ["way"] ["way"] (defScope s_need_way) := ⟨rfl, rfl, rfl, by decide +kernel, rfl, by decide +kernel, by decide +kernel⟩
def isWay : PyData → Bool
  | .str s => decide (s ∈ ways)
  | _ => false
def sp_need_way (K : PySem.W.Frag) : Sp := fun vs H Q E => ∃ (v : V) (d : PyData), vs = [v] ∧ Dz K H v d ∧ (isWay d = true → Q .non H) ∧ (isWay d = false → E (.ref (He.ga K "BadWay")) none H)
theorem inV_str (s : Str) : ∀ xs : List Str, inV (.str s) (xs.map V.str) = decide (s ∈ xs)
  | [] => rfl
  | x :: r => by
    have ih := inV_str s r
    show (eqV (.str x) (.str s) || inV (.str s) (r.map V.str)) = decide (s ∈ x :: r)
    rw [ih]
    have e : eqV (.str x) (.str s) = decide (x = s) := by
      simp only [eqV]
      by_cases h : x = s
      · simp [h]
      · simp [h]
    rw [e]
    by_cases h : x = s
    · subst h
      simp
    · have h2 : ¬ s = x := fun z => h z.symm
      simp [h, h2]
theorem flat_strs (xs : List Str) : (xs.map V.str).all flatV = true := by
  rw [List.all_map, List.all_eq_true]
  intro x _
  rfl
theorem isWay_is {d : PyData} (h : isWay d = true) : ∃ w, d = .str w ∧ w ∈ ways := by
  cases d with
  | str s => exact ⟨s, rfl, of_decide_eq_true h⟩
  | _ => cases h
theorem ok_need_way (Z : BZ mg) (E_BadWay : ExF K mg "BadWay") (G_WAYS : mg "WAYS" = some (.ref (He.ga K "WAYS"))) (S_WAYS : ∀ H : Hp, SqT K H (He.ga K "WAYS") (ways.map V.str)) (D : DefAt K mg "need_way" s_need_way) : OkF P w K mg base 1 "need_way" ["way"] (sp_need_way K) := by
  refine OkF.mk' D sc_need_way (fun _ _ _ _ _ _ us hl => match us, hl with | [_], _ => rfl) (fun vs H Q E h => ?_) (fun f cdv A outer s H vs Q E hr h => ?_)
  · first | (obtain ⟨_, rfl, _⟩ := h; rfl) | (obtain ⟨_, _, rfl, _⟩ := h; rfl) | (obtain ⟨_, _, _, rfl, _⟩ := h; rfl) | (obtain ⟨_, _, _, _, rfl, _⟩ := h; rfl) | (obtain ⟨_, _, _, _, _, rfl, _⟩ := h; rfl) | (obtain ⟨_, _, _, _, _, _, rfl, _⟩ := h; rfl) | (obtain ⟨_, _, _, _, _, _, _, rfl, _⟩ := h; rfl) | (obtain ⟨_, _, _, _, _, _, _, _, rfl, _⟩ := h; rfl) | (obtain ⟨_, _, _, _, _, _, _, _, _, rfl, _⟩ := h; rfl) | (obtain ⟨_, _, _, _, _, _, _, _, _, _, rfl, _⟩ := h; rfl) | (obtain ⟨_, _, _, _, _, _, _, _, _, _, _, rfl, _⟩ := h; rfl) | (obtain ⟨_, _, _, _, _, _, _, _, _, _, _, _, rfl, _⟩ := h; rfl) | (obtain ⟨_, _, _, _, _, _, _, _, _, _, _, _, _, rfl, _⟩ := h; rfl) | (obtain ⟨_, _, _, _, _, _, _, _, _, _, _, _, _, _, rfl, _⟩ := h; rfl)
  · refine ⟨_, id ((pss_one (ps_if (PW.pt (pw_or (pt_not (pt_val (pe_callB (call_isAK (K := K) rfl) (by rfl) Z.isinstance bt_isinstance (pa_cons (pv 0) (pa_cons (pe_bltn (v := .ty "str") (by rfl) Z.str bt_str rfl) pa_nil))))) (pw_or1 (pt_cmpR (op_notIn_seqK (K := K) rfl) (pv 0) (pe_glob (v := .ref (He.ga K "WAYS")) rfl G_WAYS rfl) (by rfl))))) (pss_one (ps_raise rfl (takes_of rfl rfl rfl rfl) (pmk_own PySem.F.excBase_ValueError E_BadWay.e E_BadWay.g E_BadWay.k (raises_own E_BadWay.b E_BadWay.t) rfl))) pss_nil))), ?_⟩
    obtain ⟨v, d, rfl, hd, q1, q2⟩ := h
    refine ⟨v, rfl, isi_str hd ⟨_, rfl, iteB (fun e1 => ?_) (fun e1 => ?_)⟩⟩
    · refine iteT (q2 ?_)
      cases d with
      | str s => cases e1
      | _ => rfl
    · cases d with
      | str s =>
        obtain rfl : v = .str s := by
          rcases hd with hd | ⟨hd, _⟩
          · cases hd
            rfl
          · cases hd
        refine ⟨.str s, rfl, _, _, rfl, .inr (S_WAYS H), rfl, flat_strs _, _, rfl, ?_⟩
        rw [inV_str]
        show (if (!decide (s ∈ ways)) = true then _ else _)
        by_cases e : s ∈ ways
        · rw [decide_eq_true e]
          exact iteF (q1 (decide_eq_true e))
        · rw [decide_eq_false e]
          exact iteT (q2 (decide_eq_false e))
      | _ => cases e1
abbrev s_by_way : Stmt := topS 16
theorem sc_by_way : FnScope ["way", "count"] ["way", "count"] (defScope s_by_way) := ⟨rfl, rfl, rfl, by decide +kernel, rfl, by decide +kernel, by decide +kernel⟩
def sp_by_way (K : PySem.W.Frag) : Sp := fun vs H Q _ => ∃ (w : Str) (c : Int), vs = [.str w, .int c] ∧ Q (.int (dv w c)) H
theorem ok_by_way (Z : BZ mg) (D : DefAt K mg "by_way" s_by_way) : OkF P w K mg base 1 "by_way" ["way", "count"] (sp_by_way K) := by
  refine OkF.mk' D sc_by_way (fun _ _ _ _ _ _ us hl => match us, hl with | [_, _], _ => rfl) (fun vs H Q E h => ?_) (fun f cdv A outer s H vs Q E hr h => ?_)
  · first | (obtain ⟨_, rfl, _⟩ := h; rfl) | (obtain ⟨_, _, rfl, _⟩ := h; rfl) | (obtain ⟨_, _, _, rfl, _⟩ := h; rfl) | (obtain ⟨_, _, _, _, rfl, _⟩ := h; rfl) | (obtain ⟨_, _, _, _, _, rfl, _⟩ := h; rfl) | (obtain ⟨_, _, _, _, _, _, rfl, _⟩ := h; rfl) | (obtain ⟨_, _, _, _, _, _, _, rfl, _⟩ := h; rfl) | (obtain ⟨_, _, _, _, _, _, _, _, rfl, _⟩ := h; rfl) | (obtain ⟨_, _, _, _, _, _, _, _, _, rfl, _⟩ := h; rfl) | (obtain ⟨_, _, _, _, _, _, _, _, _, _, rfl, _⟩ := h; rfl) | (obtain ⟨_, _, _, _, _, _, _, _, _, _, _, rfl, _⟩ := h; rfl) | (obtain ⟨_, _, _, _, _, _, _, _, _, _, _, _, rfl, _⟩ := h; rfl) | (obtain ⟨_, _, _, _, _, _, _, _, _, _, _, _, _, rfl, _⟩ := h; rfl) | (obtain ⟨_, _, _, _, _, _, _, _, _, _, _, _, _, _, rfl, _⟩ := h; rfl)
  · refine ⟨_, PSs.nox ((pss_cons (ps_if (pt_cmpR op_eq (pv 0) pe_str (nomark _)) (pss_one (ps_ret (pv 1))) pss_nil)
      (pss_cons (ps_if (pt_cmpR op_eq (pv 0) pe_str (nomark _)) (pss_one (ps_ret (pe_op op_sub (pe_op op_mul pe_int (pv 1)) pe_int))) pss_nil)
      (pss_cons (ps_if (pt_cmpR op_eq (pv 0) pe_str (nomark _)) (pss_one (ps_ret (pe_op op_sub (pe_op op_mul pe_int (pv 1)) pe_int))) pss_nil)
      (pss_cons (ps_if (pt_cmpR op_eq (pv 0) pe_str (nomark _)) (pss_one (ps_ret (pe_op op_sub (pv 1) pe_int))) pss_nil)
      (pss_cons (ps_if (pt_cmpR op_eq (pv 1) pe_int (nomark _)) (pss_one (ps_ret pe_int)) pss_nil)
      (pss_one (ps_ret (pe_op op_sub (pe_op op_mul pe_int (pv 1)) pe_int))))))))), ?_⟩
    obtain ⟨wy, c, rfl, q⟩ := h
    unfold dv at q
    refine ⟨_, rfl, rfl, _, rfl, ifS (fun e => ?_) (fun e => ?_)⟩
    · rw [if_pos e] at q
      exact ⟨_, rfl, q⟩
    rw [if_neg e] at q
    refine ⟨_, rfl, rfl, _, rfl, ifS (fun e => ?_) (fun e => ?_)⟩
    · rw [if_pos e] at q
      exact ⟨_, rfl, 2, c, rfl, rfl, small_l (by decide), _, _, rfl, rfl, q⟩
    rw [if_neg e] at q
    refine ⟨_, rfl, rfl, _, rfl, ifS (fun e => ?_) (fun e => ?_)⟩
    · rw [if_pos e] at q
      exact ⟨_, rfl, 3, c, rfl, rfl, small_l (by decide), _, _, rfl, rfl, q⟩
    rw [if_neg e] at q
    refine ⟨_, rfl, rfl, _, rfl, ifS (fun e => ?_) (fun e => ?_)⟩
    · rw [if_pos e] at q
      exact ⟨_, rfl, _, _, rfl, rfl, q⟩
    rw [if_neg e] at q
    refine ⟨_, rfl, rfl, _, rfl, ifI (fun e => ?_) (fun e => ?_)⟩
    · rw [if_pos e] at q
      exact q
    rw [if_neg e] at q
    exact ⟨_, rfl, 10, c, rfl, rfl, small_l (by decide), _, _, rfl, rfl, q⟩
abbrev s__law_mixed : Stmt := topS 35
theorem sc__law_mixed : FnScope ["_law_cell", "_law_k"] ["_law_cell", "_law_k"] (defScope s__law_mixed) := ⟨rfl, rfl, rfl, by decide +kernel, rfl, by decide +kernel, by decide +kernel⟩
def mixed (c k : Int) : Int := (c * (48271 + 2 * k * k) + 69621 * k + 11) % 2147483647 * 69621 % 2147483629
theorem mixed_nn (c k : Int) : 0 ≤ mixed c k := Int.emod_nonneg _ (by decide)
theorem mixed_lt (c k : Int) : mixed c k < 2147483629 := Int.emod_lt_of_pos _ (by decide)
def sp__law_mixed (K : PySem.W.Frag) : Sp := fun vs H Q _ => ∃ (c k : Int), vs = [.int c, .int k] ∧ 0 ≤ k ∧ k ≤ 1000 ∧ Q (.int (mixed c k)) H
theorem kk_bound {k : Int} (h0 : 0 ≤ k) (h1 : k ≤ 1000) : 0 ≤ k * k ∧ k * k ≤ 1000000 := by
  refine ⟨Int.mul_nonneg h0 h0, ?_⟩
  have h := Int.mul_le_mul h1 h1 h0 (by decide : (0 : Int) ≤ 1000)
  exact h
theorem ok__law_mixed (Z : BZ mg) (D : DefAt K mg "_law_mixed" s__law_mixed) : OkF P w K mg base 1 "_law_mixed" ["_law_cell", "_law_k"] (sp__law_mixed K) := by
  refine OkF.mk' D sc__law_mixed (fun _ _ _ _ _ _ us hl => match us, hl with | [_, _], _ => rfl) (fun vs H Q E h => ?_) (fun f cdv A outer s H vs Q E hr h => ?_)
  · first | (obtain ⟨_, rfl, _⟩ := h; rfl) | (obtain ⟨_, _, rfl, _⟩ := h; rfl) | (obtain ⟨_, _, _, rfl, _⟩ := h; rfl) | (obtain ⟨_, _, _, _, rfl, _⟩ := h; rfl) | (obtain ⟨_, _, _, _, _, rfl, _⟩ := h; rfl) | (obtain ⟨_, _, _, _, _, _, rfl, _⟩ := h; rfl) | (obtain ⟨_, _, _, _, _, _, _, rfl, _⟩ := h; rfl) | (obtain ⟨_, _, _, _, _, _, _, _, rfl, _⟩ := h; rfl) | (obtain ⟨_, _, _, _, _, _, _, _, _, rfl, _⟩ := h; rfl) | (obtain ⟨_, _, _, _, _, _, _, _, _, _, rfl, _⟩ := h; rfl) | (obtain ⟨_, _, _, _, _, _, _, _, _, _, _, rfl, _⟩ := h; rfl) | (obtain ⟨_, _, _, _, _, _, _, _, _, _, _, _, rfl, _⟩ := h; rfl) | (obtain ⟨_, _, _, _, _, _, _, _, _, _, _, _, _, rfl, _⟩ := h; rfl) | (obtain ⟨_, _, _, _, _, _, _, _, _, _, _, _, _, _, rfl, _⟩ := h; rfl)
  · refine ⟨_, PSs.nox ((pss_one (ps_ret (pe_op op_mod (pe_op op_mul (pe_op op_mod (pe_op op_add (pe_op op_add (pe_op op_mul (pv 0) (pe_op op_add pe_int (pe_op op_mul (pe_op op_mul pe_int (pv 1)) (pv 1)))) (pe_op op_mul pe_int (pv 1))) pe_int) pe_int) pe_int) pe_int)))), ?_⟩
    obtain ⟨c, k, rfl, h0, h1, q⟩ := h
    obtain ⟨k0, k1⟩ := kk_bound h0 h1
    have e2 : 2 * k * k = 2 * (k * k) := Int.mul_assoc 2 k k
    have m0 : 0 ≤ (c * (48271 + 2 * k * k) + 69621 * k + 11) % 2147483647 := Int.emod_nonneg _ (by decide)
    have m1 : (c * (48271 + 2 * k * k) + 69621 * k + 11) % 2147483647 < 2147483647 := Int.emod_lt_of_pos _ (by decide)
    refine ⟨_, rfl, _, rfl, 2, k, rfl, rfl, small_l (by decide), _, rfl, 2 * k, k, rfl, rfl, small_l (by omega), 48271, 2 * k * k, rfl, rfl, c, _, rfl, rfl, small_r ?_, _, rfl, 69621, k, rfl, rfl, small_l (by decide), _, _, rfl, rfl, _, 11, rfl, rfl, _, 2147483647, rfl, rfl, (show (0 : Int) < 2147483647 by decide), _, 69621, rfl, rfl, small_r (by decide), _, 2147483629, rfl, rfl, (show (0 : Int) < 2147483629 by decide), q⟩
    rw [e2]
    omega
abbrev s_is_list : Stmt := topS 21
theorem sc_is_list : FnScope ["thing"] ["thing"] (defScope s_is_list) := ⟨rfl, rfl, rfl, by decide +kernel, rfl, by decide +kernel, by decide +kernel⟩
theorem isListD_ne {ds : List PyData} (h : ¬ ds.length = 3) : isListD (.tuple ds) = false := by
  match ds, h with
  | [], _ => rfl
  | [_], _ => rfl
  | [_, _], _ => rfl
  | [_, _, _], h => exact absurd rfl h
  | _ :: _ :: c :: _ :: _, _ => cases c <;> rfl
theorem isListD_other {d : PyData} (h : isTupD d = false) : isListD d = false := by
  cases d with
  | tuple ds => cases h
  | _ => rfl
def sp_is_list (K : PySem.W.Frag) : Sp := fun vs H Q _ => ∃ (v : V) (d : PyData), vs = [v] ∧ Dz K H v d ∧ Q (.bl (isListD d)) H
theorem isListD_3 (a b c : PyData) : isListD (.tuple [a, b, c]) = (isWh0 a 1 (10 ^ 30) && (isWh0 c 0 200 && (match c with | .int m => isWh0 b 0 m | _ => false))) := by
  cases c with
  | int m => rfl
  | _ =>
    show false = (isWh0 a 1 (10 ^ 30) && (false && false))
    rw [Bool.false_and, Bool.and_false]
theorem ok_is_list (Z : BZ mg) (O_is_whole : OkF P w K mg base 1 "is_whole" ["thing", "least", "most"] (sp_is_whole K)) (G_MOST_VOTES : ∃ t, mg "MOST_VOTES" = some (.int (10 ^ 30) t)) (G_MOST_SEATS : ∃ t, mg "MOST_SEATS" = some (.int 200 t)) (D : DefAt K mg "is_list" s_is_list) : OkF P w K mg base 2 "is_list" ["thing"] (sp_is_list K) := by
  obtain ⟨t_MOST_VOTES, g_MOST_VOTES⟩ := G_MOST_VOTES
  obtain ⟨t_MOST_SEATS, g_MOST_SEATS⟩ := G_MOST_SEATS
  refine OkF.mk' D sc_is_list (fun _ _ _ _ _ _ us hl => match us, hl with | [_], _ => rfl) (fun vs H Q E h => ?_) (fun f cdv A outer s H vs Q E hr h => ?_)
  · first | (obtain ⟨_, rfl, _⟩ := h; rfl) | (obtain ⟨_, _, rfl, _⟩ := h; rfl) | (obtain ⟨_, _, _, rfl, _⟩ := h; rfl) | (obtain ⟨_, _, _, _, rfl, _⟩ := h; rfl) | (obtain ⟨_, _, _, _, _, rfl, _⟩ := h; rfl) | (obtain ⟨_, _, _, _, _, _, rfl, _⟩ := h; rfl) | (obtain ⟨_, _, _, _, _, _, _, rfl, _⟩ := h; rfl) | (obtain ⟨_, _, _, _, _, _, _, _, rfl, _⟩ := h; rfl) | (obtain ⟨_, _, _, _, _, _, _, _, _, rfl, _⟩ := h; rfl) | (obtain ⟨_, _, _, _, _, _, _, _, _, _, rfl, _⟩ := h; rfl) | (obtain ⟨_, _, _, _, _, _, _, _, _, _, _, rfl, _⟩ := h; rfl) | (obtain ⟨_, _, _, _, _, _, _, _, _, _, _, _, rfl, _⟩ := h; rfl) | (obtain ⟨_, _, _, _, _, _, _, _, _, _, _, _, _, rfl, _⟩ := h; rfl) | (obtain ⟨_, _, _, _, _, _, _, _, _, _, _, _, _, _, rfl, _⟩ := h; rfl)
  · refine ⟨_, PSs.nox ((pss_cons (ps_if (PW.pt (pw_or (pt_not (pt_val (pe_callB (call_isAK (K := K) rfl) (by rfl) Z.isinstance bt_isinstance (pa_cons (pv 0) (pa_cons (pe_bltn (v := .ty "tuple") (by rfl) Z.tuple bt_tuple rfl) pa_nil))))) (pw_or (pt_cmpR op_ne (pe_callB (call_len_seqK (K := K) rfl) (by rfl) Z.len bt_len (pa_cons (pv 0) pa_nil)) pe_int (nomark _)) (pw_or1 (pt_not (pt_val (pc O_is_whole (hr.mono (by decide)) passL (pa_cons (pe_ix (ix_tupK (K := K) rfl) (pv 0) pe_int (fun _ _ => rfl)) (pa_cons pe_int (pa_cons (pe_glob (v := .int (10 ^ 30)) rfl g_MOST_VOTES ⟨_, rfl⟩) pa_nil)))))))))) (pss_one (ps_ret pe_bl)) pss_nil)
      (pss_one (ps_ret (pe_and (pc O_is_whole (hr.mono (by decide)) passL (pa_cons (pe_ix (ix_tupK (K := K) rfl) (pv 0) pe_int (fun _ _ => rfl)) (pa_cons pe_int (pa_cons (pe_glob (v := .int 200) rfl g_MOST_SEATS ⟨_, rfl⟩) pa_nil)))) (pe_one (pc O_is_whole (hr.mono (by decide)) passL (pa_cons (pe_ix (ix_tupK (K := K) rfl) (pv 0) pe_int (fun _ _ => rfl)) (pa_cons pe_int (pa_cons (pe_ix (ix_tupK (K := K) rfl) (pv 0) pe_int (fun _ _ => rfl)) pa_nil)))))))))), ?_⟩
    obtain ⟨v, d, rfl, hd, q⟩ := h
    refine ⟨v, rfl, isi_tup hd ⟨_, rfl, ?_⟩⟩
    cases hT : isTupD d with
    | false =>
      rw [isListD_other hT] at q
      exact iteT q
    | true =>
      refine iteF ?_
      cases d with
      | tuple ds =>
        obtain ⟨a, xs, rfl, hS, hA⟩ : ∃ a xs, v = .ref a ∧ SqT K H a xs ∧ DpAll K H xs ds := by
          rcases hd with hd | ⟨hd, _⟩
          · cases hd with
            | tup h1 h2 => exact ⟨_, _, rfl, h1, h2⟩
          · cases hd
        have hl := dpa_len hA
        refine ⟨_, rfl, a, xs, rfl, .inr hS, rfl, _, rfl, ifNI (fun e => ?_) (fun e => ?_)⟩
        · rw [isListD_ne (fun z => e (by omega))] at q
          exact iteT q
        · have e3 : ds.length = 3 := by omega
          have e4 : xs.length = 3 := by omega
          match ds, e3, xs, e4, hS, hA, q with
          | [x, y, z], _, [vx, vy, vz], _, hS, hA, q =>
          cases hA with
          | cons hx hA =>
          cases hA with
          | cons hy hA =>
          cases hA with
          | cons hz hA =>
          cases hA
          rw [isListD_3] at q
          refine ⟨_, rfl, a, _, 0, vx, rfl, rfl, hS, atI_nat (j := 0) rfl, vx, x, 1, 10 ^ 30, rfl, .inl hx, _, rfl, iteNB (fun e1 => ?_) (fun e1 => ?_)⟩
          · rw [show isWh0 x 1 (10 ^ 30) = false from e1, Bool.false_and] at q
            exact q
          · rw [show isWh0 x 1 (10 ^ 30) = true from e1, Bool.true_and] at q
            refine ⟨_, rfl, a, _, 2, vz, rfl, rfl, hS, atI_nat (j := 2) rfl, vz, z, 0, 200, rfl, .inl hz, _, rfl, iteB (fun e2 => ?_) (fun e2 => ?_)⟩
            · rw [show isWh0 z 0 200 = true from e2, Bool.true_and] at q
              obtain ⟨m, rfl, m1, m2⟩ := wh_int (show isWh0 z 0 200 = true from e2)
              cases hz
              exact ⟨_, rfl, a, _, 1, vy, rfl, rfl, hS, atI_nat (j := 1) rfl, .ref a, rfl, a, _, 2, .int m, rfl, rfl, hS, atI_nat (j := 2) rfl, vy, y, 0, m, rfl, .inl hy, q⟩
            · rw [show isWh0 z 0 200 = false from e2, Bool.false_and] at q
              exact q
      | _ => cases hT
abbrev s_are_lists : Stmt := topS 22
theorem sc_are_lists : FnScope ["thing", "one"] ["thing"] (defScope s_are_lists) := ⟨rfl, rfl, rfl, by decide +kernel, rfl, by decide +kernel, by decide +kernel⟩
def sp_are_lists (K : PySem.W.Frag) : Sp := fun vs H Q _ => ∃ (v : V) (d : PyData), vs = [v] ∧ Dz K H v d ∧ ∀ H', Same H H' → Q (.bl (areListsD d)) H'
theorem areListsD_other {d : PyData} (h : isLstD d = false) : areListsD d = false := by
  cases d with
  | list ds => cases h
  | _ => rfl
theorem areListsD_def (ds : List PyData) : areListsD (.list ds) = (decide (1 ≤ ds.length) && (decide (ds.length ≤ 12) && ds.all isListD)) := rfl
theorem all_id {α : Type} (f : α → Bool) : ∀ l : List α, (l.map f).all id = l.all f
  | [] => rfl
  | x :: r => by
    rw [List.map_cons, List.all_cons, List.all_cons, all_id f r]
    rfl
theorem ok_are_lists (Z : BZ mg) (O_is_list : OkF P w K mg base 2 "is_list" ["thing"] (sp_is_list K)) (G_MOST_LISTS : ∃ t, mg "MOST_LISTS" = some (.int 12 t)) (D : DefAt K mg "are_lists" s_are_lists) : OkF P w K mg base 3 "are_lists" ["thing"] (sp_are_lists K) := by
  obtain ⟨t_MOST_LISTS, g_MOST_LISTS⟩ := G_MOST_LISTS
  refine OkF.mk' D sc_are_lists (fun _ _ _ _ _ _ us hl => match us, hl with | [_], _ => rfl) (fun vs H Q E h => ?_) (fun f cdv A outer s H vs Q E hr h => ?_)
  · first | (obtain ⟨_, rfl, _⟩ := h; rfl) | (obtain ⟨_, _, rfl, _⟩ := h; rfl) | (obtain ⟨_, _, _, rfl, _⟩ := h; rfl) | (obtain ⟨_, _, _, _, rfl, _⟩ := h; rfl) | (obtain ⟨_, _, _, _, _, rfl, _⟩ := h; rfl) | (obtain ⟨_, _, _, _, _, _, rfl, _⟩ := h; rfl) | (obtain ⟨_, _, _, _, _, _, _, rfl, _⟩ := h; rfl) | (obtain ⟨_, _, _, _, _, _, _, _, rfl, _⟩ := h; rfl) | (obtain ⟨_, _, _, _, _, _, _, _, _, rfl, _⟩ := h; rfl) | (obtain ⟨_, _, _, _, _, _, _, _, _, _, rfl, _⟩ := h; rfl) | (obtain ⟨_, _, _, _, _, _, _, _, _, _, _, rfl, _⟩ := h; rfl) | (obtain ⟨_, _, _, _, _, _, _, _, _, _, _, _, rfl, _⟩ := h; rfl) | (obtain ⟨_, _, _, _, _, _, _, _, _, _, _, _, _, rfl, _⟩ := h; rfl) | (obtain ⟨_, _, _, _, _, _, _, _, _, _, _, _, _, _, rfl, _⟩ := h; rfl)
  · refine ⟨_, PSs.nox ((pss_cons (ps_if (PW.pt (pw_or (pt_not (pt_val (pe_callB (call_isAK (K := K) rfl) (by rfl) Z.isinstance bt_isinstance (pa_cons (pv 0) (pa_cons (pe_bltn (v := .ty "list") (by rfl) Z.list bt_list rfl) pa_nil))))) (pw_or1 (pt_not (pt_chain op_le op_le pe_int (pe_callB (call_len_seqK (K := K) rfl) (by rfl) Z.len bt_len (pa_cons (pv 0) pa_nil)) (pe_glob (v := .int 12) rfl g_MOST_LISTS ⟨_, rfl⟩)))))) (pss_one (ps_ret pe_bl)) pss_nil)
      (pss_one (ps_ret (pe_callB (cr_allK (K := K) rfl rfl) (by rfl) Z.all bt_all (pa_cons (pe_lc (own := [("one", 1)]) (g := gName 1) (tt := tYes) rfl sc_are_lists.nd (pi_list (pv 0)) (blkOk_by (N := ["thing", "one"]) (sc := defScope s_are_lists) (own := [("one", 1)]) (by decide +kernel)) (fun _ _ _ _ _ => pg_name (i := 1) sc_are_lists.nd rfl (Or.inl rfl)) (fun _ _ _ _ _ => pts_nil) (fun _ _ _ _ _ => (pc O_is_list (hr.mono (by decide)) passL (pa_cons (pv 1) pa_nil)))) pa_nil)))))), ?_⟩
    obtain ⟨v, d, rfl, hd, q⟩ := h
    refine ⟨v, rfl, isi_lst hd ⟨_, rfl, ?_⟩⟩
    cases hT : isLstD d with
    | false =>
      rw [areListsD_other hT] at q
      exact iteT (q H (Same.refl H))
    | true =>
      refine iteF ?_
      cases d with
      | list ds =>
        obtain ⟨a, xs, rfl, hS, hA⟩ : ∃ a xs, v = .ref a ∧ SqL K H a xs ∧ DpAll K H xs ds := by
          rcases hd with hd | ⟨hd, _⟩
          · cases hd with
            | lst h1 h2 => exact ⟨_, _, rfl, h1, h2⟩
          · cases hd
        have hl := dpa_len hA
        rw [areListsD_def] at q
        have go : (1 ≤ ds.length ∧ ds.length ≤ 12) → ∀ R : VK, (∀ H', Same H H' → R (.bl (ds.all isListD)) H') → tCB (rAll K) (tCons (tLc (iList K (tVar 0)) (gName 1) tYes (tCall (sp_is_list K) [] E0 (tCons (tVar 1) tNil)) [1]) tNil) [some (.ref a), none] H R := by
          intro hb R k
          refine ⟨_, rfl, a, rfl, ⟨_, hS⟩, fun D nD => lc_list (K := K) (a := a) (xs := xs) (fun i H' => Same H H' ∧ H' D = some (.lst (((ds.take i).map isListD).map V.bl))) ⟨same_new nD, upd_same⟩ (fun i H' _ ⟨s, _⟩ => same_seq s hS) (fun i x H' hx ⟨s, e⟩ => ?_) (fun H' ⟨s, e⟩ => ?_)⟩
          · obtain ⟨dx, ex, hdx⟩ := dpa_getV hA hx
            refine ⟨rfl, _, rfl, x, dx, rfl, .inl (dp_same s hdx), _, e, szl ?_, same_mut s nD, ?_⟩
            · rw [List.length_map, List.length_map, List.length_take]
              omega
            · rw [upd_same, List.take_add_one, ex, List.map_append, List.map_append]
              rfl
          · have e2 : ds.take xs.length = ds := List.take_of_length_le (by omega)
            rw [e2] at e
            refine ⟨D, _, rfl, sqL e, ?_⟩
            rw [all_id]
            exact k H' s
        refine ⟨_, rfl, a, xs, rfl, .inl hS, 1, _, rfl, rfl, _, rfl, ?_⟩
        by_cases h1 : 1 ≤ ds.length
        · rw [decide_eq_true h1, Bool.true_and] at q
          refine (show (if decide ((1 : Int) ≤ (xs.length : Int)) = true then _ else _) from ?_)
          rw [decide_eq_true (show (1 : Int) ≤ (xs.length : Int) by omega)]
          refine iteT ⟨_, _, rfl, rfl, _, rfl, ?_⟩
          by_cases h2 : ds.length ≤ 12
          · rw [decide_eq_true h2, Bool.true_and] at q
            rw [decide_eq_true (show (xs.length : Int) ≤ 12 by omega)]
            exact iteF (go ⟨h1, h2⟩ _ q)
          · rw [decide_eq_false h2, Bool.false_and] at q
            rw [decide_eq_false (show ¬ (xs.length : Int) ≤ 12 by omega)]
            exact iteT (q H (Same.refl H))
        · rw [decide_eq_false h1, Bool.false_and] at q
          refine (show (if decide ((1 : Int) ≤ (xs.length : Int)) = true then _ else _) from ?_)
          rw [decide_eq_false (show ¬ (1 : Int) ≤ (xs.length : Int) by omega)]
          exact iteF ⟨_, rfl, iteT (q H (Same.refl H))⟩
      | _ => cases hT
abbrev s_need_lists : Stmt := topS 23
theorem sc_need_lists : FnScope ["thing"] ["thing"] (defScope s_need_lists) := ⟨rfl, rfl, rfl, by decide +kernel, rfl, by decide +kernel, by decide +kernel⟩
def sp_need_lists (K : PySem.W.Frag) : Sp := fun vs H Q E => ∃ (v : V) (d : PyData), vs = [v] ∧ Dz K H v d ∧ (areListsD d = false → ∀ H', Same H H' → E (.ref (He.ga K "BadLists")) none H') ∧
  (∀ (rs : List Row) (p : Addr) (xs : List V), d = rowsD rs → Good rs → v = .ref p → Rws K H p xs rs → ∀ H' p', Same H H' → H p' = none → H' p' = some (.lst xs) → Q (.ref p') H')
theorem ok_need_lists (Z : BZ mg) (O_are_lists : OkF P w K mg base 3 "are_lists" ["thing"] (sp_are_lists K)) (E_BadLists : ExF K mg "BadLists") (D : DefAt K mg "need_lists" s_need_lists) : OkF P w K mg base 4 "need_lists" ["thing"] (sp_need_lists K) := by
  refine OkF.mk' D sc_need_lists (fun _ _ _ _ _ _ us hl => match us, hl with | [_], _ => rfl) (fun vs H Q E h => ?_) (fun f cdv A outer s H vs Q E hr h => ?_)
  · first | (obtain ⟨_, rfl, _⟩ := h; rfl) | (obtain ⟨_, _, rfl, _⟩ := h; rfl) | (obtain ⟨_, _, _, rfl, _⟩ := h; rfl) | (obtain ⟨_, _, _, _, rfl, _⟩ := h; rfl) | (obtain ⟨_, _, _, _, _, rfl, _⟩ := h; rfl) | (obtain ⟨_, _, _, _, _, _, rfl, _⟩ := h; rfl) | (obtain ⟨_, _, _, _, _, _, _, rfl, _⟩ := h; rfl) | (obtain ⟨_, _, _, _, _, _, _, _, rfl, _⟩ := h; rfl) | (obtain ⟨_, _, _, _, _, _, _, _, _, rfl, _⟩ := h; rfl) | (obtain ⟨_, _, _, _, _, _, _, _, _, _, rfl, _⟩ := h; rfl) | (obtain ⟨_, _, _, _, _, _, _, _, _, _, _, rfl, _⟩ := h; rfl) | (obtain ⟨_, _, _, _, _, _, _, _, _, _, _, _, rfl, _⟩ := h; rfl) | (obtain ⟨_, _, _, _, _, _, _, _, _, _, _, _, _, rfl, _⟩ := h; rfl) | (obtain ⟨_, _, _, _, _, _, _, _, _, _, _, _, _, _, rfl, _⟩ := h; rfl)
  · refine ⟨_, id ((pss_cons (ps_if (pt_not (pt_val (pc O_are_lists (hr.mono (by decide)) passL (pa_cons (pv 0) pa_nil)))) (pss_one (ps_raise rfl (takes_of rfl rfl rfl rfl) (pmk_own PySem.F.excBase_ValueError E_BadLists.e E_BadLists.g E_BadLists.k (raises_own E_BadLists.b E_BadLists.t) rfl))) pss_nil)
      (pss_one (ps_ret (pe_callTy (call_list_ofK (K := K) rfl) (by rfl) Z.list bt_list (pa_cons (pv 0) pa_nil)))))), ?_⟩
    obtain ⟨v, d, rfl, hd, q1, q2⟩ := h
    refine ⟨v, rfl, v, d, rfl, hd, fun H1 s1 => ⟨_, rfl, iteNB (fun e => q1 e H1 s1) (fun e => ?_)⟩⟩
    obtain ⟨rs, rfl, g⟩ := areListsD_is e
    obtain ⟨p, xs, rfl, hR⟩ : ∃ p xs, v = .ref p ∧ Rws K H p xs rs := by
      rcases hd with hd | ⟨hd, _⟩
      · exact dp_rows_ref hd
      · cases hd
    exact ⟨_, rfl, p, xs, rfl, .inl (hR.same s1).l, fun l nl => q2 rs p xs rfl g rfl hR _ l (s1.trans (same_new nl)) (s1.free nl) upd_same⟩
abbrev s_need_seats : Stmt := topS 25
theorem sc_need_seats : FnScope ["rows", "seats", "row"] ["rows", "seats"] (defScope s_need_seats) := ⟨rfl, rfl, rfl, by decide +kernel, rfl, by decide +kernel, by decide +kernel⟩
def sp_need_seats (K : PySem.W.Frag) : Sp := fun vs H Q E => ∃ (p : Addr) (v : V) (d : PyData) (xs : List V) (rs : List Row), vs = [.ref p, v] ∧ Rws K H p xs rs ∧ rs.length ≤ 1000 ∧ Dz K H v d ∧
  (isWh0 d (lows rs).sum (caps rs).sum = false → ∀ H', Same H H' → E (.ref (He.ga K "BadSeats")) none H') ∧ (isWh0 d (lows rs).sum (caps rs).sum = true → ∀ H', Same H H' → Q .non H')
theorem ok_need_seats (Z : BZ mg) (O_is_whole : OkF P w K mg base 1 "is_whole" ["thing", "least", "most"] (sp_is_whole K)) (E_BadSeats : ExF K mg "BadSeats") (D : DefAt K mg "need_seats" s_need_seats) : OkF P w K mg base 2 "need_seats" ["rows", "seats"] (sp_need_seats K) := by
  refine OkF.mk' D sc_need_seats (fun _ _ _ _ _ _ us hl => match us, hl with | [_, _], _ => rfl) (fun vs H Q E h => ?_) (fun f cdv A outer s H vs Q E hr h => ?_)
  · first | (obtain ⟨_, rfl, _⟩ := h; rfl) | (obtain ⟨_, _, rfl, _⟩ := h; rfl) | (obtain ⟨_, _, _, rfl, _⟩ := h; rfl) | (obtain ⟨_, _, _, _, rfl, _⟩ := h; rfl) | (obtain ⟨_, _, _, _, _, rfl, _⟩ := h; rfl) | (obtain ⟨_, _, _, _, _, _, rfl, _⟩ := h; rfl) | (obtain ⟨_, _, _, _, _, _, _, rfl, _⟩ := h; rfl) | (obtain ⟨_, _, _, _, _, _, _, _, rfl, _⟩ := h; rfl) | (obtain ⟨_, _, _, _, _, _, _, _, _, rfl, _⟩ := h; rfl) | (obtain ⟨_, _, _, _, _, _, _, _, _, _, rfl, _⟩ := h; rfl) | (obtain ⟨_, _, _, _, _, _, _, _, _, _, _, rfl, _⟩ := h; rfl) | (obtain ⟨_, _, _, _, _, _, _, _, _, _, _, _, rfl, _⟩ := h; rfl) | (obtain ⟨_, _, _, _, _, _, _, _, _, _, _, _, _, rfl, _⟩ := h; rfl) | (obtain ⟨_, _, _, _, _, _, _, _, _, _, _, _, _, _, rfl, _⟩ := h; rfl)
  · refine ⟨_, id ((pss_one (ps_if (pt_not (pt_val (pc O_is_whole (hr.mono (by decide)) passL (pa_cons (pv 1) (pa_cons (pe_callB (cr_sumK (K := K) rfl rfl) (by rfl) Z.sum bt_sum (pa_cons (pe_lc (own := [("row", 2)]) (g := gName 2) (tt := tYes) rfl sc_need_seats.nd (pi_list (pv 0)) (blkOk_by (N := ["rows", "seats", "row"]) (sc := defScope s_need_seats) (own := [("row", 2)]) (by decide +kernel)) (fun _ _ _ _ _ => pg_name (i := 2) sc_need_seats.nd rfl (Or.inl rfl)) (fun _ _ _ _ _ => pts_nil) (fun _ _ _ _ _ => (pe_ix (ix_tupK (K := K) rfl) (pv 2) pe_int (fun _ _ => rfl)))) pa_nil)) (pa_cons (pe_callB (cr_sumK (K := K) rfl rfl) (by rfl) Z.sum bt_sum (pa_cons (pe_lc (own := [("row", 2)]) (g := gName 2) (tt := tYes) rfl sc_need_seats.nd (pi_list (pv 0)) (blkOk_by (N := ["rows", "seats", "row"]) (sc := defScope s_need_seats) (own := [("row", 2)]) (by decide +kernel)) (fun _ _ _ _ _ => pg_name (i := 2) sc_need_seats.nd rfl (Or.inl rfl)) (fun _ _ _ _ _ => pts_nil) (fun _ _ _ _ _ => (pe_ix (ix_tupK (K := K) rfl) (pv 2) pe_int (fun _ _ => rfl)))) pa_nil)) pa_nil)))))) (pss_one (ps_raise rfl (takes_of rfl rfl rfl rfl) (pmk_own PySem.F.excBase_ValueError E_BadSeats.e E_BadSeats.g E_BadSeats.k (raises_own E_BadSeats.b E_BadSeats.t) rfl))) pss_nil))), ?_⟩
    obtain ⟨p, v, d, xs, rs, rfl, hR, hl, hd, q1, q2⟩ := h
    refine ⟨v, rfl, .ref p, rfl, p, rfl, ⟨_, hR.l⟩, fun D1 n1 => lc_col (k := 1) hR (by decide) (show 2 < 3 by decide) hl n1 fun H1 s1 e1 => ⟨D1, lows rs, rfl, sqL e1, ?_⟩⟩
    refine ⟨.ref p, rfl, p, rfl, ⟨_, (hR.same s1).l⟩, fun D2 n2 => lc_col (k := 2) (hR.same s1) (by decide) (show 2 < 3 by decide) hl n2 fun H2 s2 e2 => ⟨D2, caps rs, rfl, sqL e2, ?_⟩⟩
    refine ⟨v, d, (lows rs).sum, (caps rs).sum, rfl, dz_same (s1.trans s2) hd, _, rfl, iteNB (fun e => ?_) (fun e => ?_)⟩
    · exact q1 e _ (s1.trans s2)
    · exact q2 e _ (s1.trans s2)
abbrev s_claim : Stmt := topS 26
theorem sc_claim : FnScope ["way", "row", "count"] ["way", "row", "count"] (defScope s_claim) := ⟨rfl, rfl, rfl, by decide +kernel, rfl, by decide +kernel, by decide +kernel⟩
def sp_claim (K : PySem.W.Frag) : Sp := fun vs H Q _ => ∃ (w : Str) (a : Addr) (c : Int) (r : Row), vs = [.str w, .ref a, .int c] ∧ SqT K H a [.int r.1, .int r.2.1, .int r.2.2] ∧
  ∀ H' t, Same H H' → H t = none → H' t = some (.tup [.int (cl w r c).1, .int (cl w r c).2]) → Q (.ref t) H'
theorem ok_claim (Z : BZ mg) (O_by_way : OkF P w K mg base 1 "by_way" ["way", "count"] (sp_by_way K)) (D : DefAt K mg "claim" s_claim) : OkF P w K mg base 2 "claim" ["way", "row", "count"] (sp_claim K) := by
  refine OkF.mk' D sc_claim (fun _ _ _ _ _ _ us hl => match us, hl with | [_, _, _], _ => rfl) (fun vs H Q E h => ?_) (fun f cdv A outer s H vs Q E hr h => ?_)
  · first | (obtain ⟨_, rfl, _⟩ := h; rfl) | (obtain ⟨_, _, rfl, _⟩ := h; rfl) | (obtain ⟨_, _, _, rfl, _⟩ := h; rfl) | (obtain ⟨_, _, _, _, rfl, _⟩ := h; rfl) | (obtain ⟨_, _, _, _, _, rfl, _⟩ := h; rfl) | (obtain ⟨_, _, _, _, _, _, rfl, _⟩ := h; rfl) | (obtain ⟨_, _, _, _, _, _, _, rfl, _⟩ := h; rfl) | (obtain ⟨_, _, _, _, _, _, _, _, rfl, _⟩ := h; rfl) | (obtain ⟨_, _, _, _, _, _, _, _, _, rfl, _⟩ := h; rfl) | (obtain ⟨_, _, _, _, _, _, _, _, _, _, rfl, _⟩ := h; rfl) | (obtain ⟨_, _, _, _, _, _, _, _, _, _, _, rfl, _⟩ := h; rfl) | (obtain ⟨_, _, _, _, _, _, _, _, _, _, _, _, rfl, _⟩ := h; rfl) | (obtain ⟨_, _, _, _, _, _, _, _, _, _, _, _, _, rfl, _⟩ := h; rfl) | (obtain ⟨_, _, _, _, _, _, _, _, _, _, _, _, _, _, rfl, _⟩ := h; rfl)
  · refine ⟨_, PSs.nox ((pss_one (ps_ret (pe_tup (pa_cons (pe_ix (ix_tupK (K := K) rfl) (pv 1) pe_int (fun _ _ => rfl)) (pa_cons (pc O_by_way (hr.mono (by decide)) passL (pa_cons (pv 0) (pa_cons (pv 2) pa_nil))) pa_nil)))))), ?_⟩
    obtain ⟨wy, a, c, r, rfl, hS, q⟩ := h
    exact ⟨_, rfl, a, _, 0, _, rfl, rfl, hS, atI_nat (j := 0) rfl, _, rfl, _, rfl, wy, c, rfl, sz (show 2 ≤ 100000 by decide), fun t nt => q _ t (same_new nt) nt upd_same⟩
abbrev s_is_above : Stmt := topS 17
theorem sc_is_above : FnScope ["one", "other"] ["one", "other"] (defScope s_is_above) := ⟨rfl, rfl, rfl, by decide +kernel, rfl, by decide +kernel, by decide +kernel⟩
/-- numbers of a claim, a price: not too great -/
def Cb (x : Int × Int) : Prop := x.1.natAbs < 2 ^ 200 ∧ x.2.natAbs < 2 ^ 200
def sp_is_above (K : PySem.W.Frag) : Sp := fun vs H Q _ => ∃ (a b : Addr) (x y : Int × Int), vs = [.ref a, .ref b] ∧ SqT K H a [.int x.1, .int x.2] ∧ SqT K H b [.int y.1, .int y.2] ∧ Cb x ∧ Cb y ∧ Q (.bl (above x y)) H
theorem cb_cl {w : Str} (hw : w ∈ ways) {r : Row} (g : GoodRow r) {k : Int} (h1 : 1 ≤ k) (h2 : k ≤ 300) : Cb (cl w r k) := by
  obtain ⟨d1, d2, _⟩ := dv_bound hw h1
  obtain ⟨g1, g2, _⟩ := g
  have p : (10 : Int) ^ 30 < 2 ^ 200 := by decide
  have p2 : (3000 : Int) < 2 ^ 200 := by decide
  have p3 : ((2 ^ 200 : Nat) : Int) = (2 : Int) ^ 200 := by decide
  constructor
  · show r.1.natAbs < 2 ^ 200
    have : (r.1.natAbs : Int) = r.1 := Int.natAbs_of_nonneg (by omega)
    have : (r.1.natAbs : Int) < ((2 ^ 200 : Nat) : Int) := by rw [p3, this]; exact Int.lt_of_le_of_lt g2 p
    exact Int.ofNat_lt.mp this
  · show (dv w k).natAbs < 2 ^ 200
    have : ((dv w k).natAbs : Int) = dv w k := Int.natAbs_of_nonneg d1
    have : ((dv w k).natAbs : Int) < ((2 ^ 200 : Nat) : Int) := by rw [p3, this]; exact Int.lt_of_le_of_lt (by omega) p2
    exact Int.ofNat_lt.mp this
theorem ok_is_above (Z : BZ mg) (D : DefAt K mg "is_above" s_is_above) : OkF P w K mg base 1 "is_above" ["one", "other"] (sp_is_above K) := by
  refine OkF.mk' D sc_is_above (fun _ _ _ _ _ _ us hl => match us, hl with | [_, _], _ => rfl) (fun vs H Q E h => ?_) (fun f cdv A outer s H vs Q E hr h => ?_)
  · first | (obtain ⟨_, rfl, _⟩ := h; rfl) | (obtain ⟨_, _, rfl, _⟩ := h; rfl) | (obtain ⟨_, _, _, rfl, _⟩ := h; rfl) | (obtain ⟨_, _, _, _, rfl, _⟩ := h; rfl) | (obtain ⟨_, _, _, _, _, rfl, _⟩ := h; rfl) | (obtain ⟨_, _, _, _, _, _, rfl, _⟩ := h; rfl) | (obtain ⟨_, _, _, _, _, _, _, rfl, _⟩ := h; rfl) | (obtain ⟨_, _, _, _, _, _, _, _, rfl, _⟩ := h; rfl) | (obtain ⟨_, _, _, _, _, _, _, _, _, rfl, _⟩ := h; rfl) | (obtain ⟨_, _, _, _, _, _, _, _, _, _, rfl, _⟩ := h; rfl) | (obtain ⟨_, _, _, _, _, _, _, _, _, _, _, rfl, _⟩ := h; rfl) | (obtain ⟨_, _, _, _, _, _, _, _, _, _, _, _, rfl, _⟩ := h; rfl) | (obtain ⟨_, _, _, _, _, _, _, _, _, _, _, _, _, rfl, _⟩ := h; rfl) | (obtain ⟨_, _, _, _, _, _, _, _, _, _, _, _, _, _, rfl, _⟩ := h; rfl)
  · refine ⟨_, PSs.nox ((pss_one (ps_ret (pe_cmpR op_gt (pe_op op_mulW (pe_ix (ix_tupK (K := K) rfl) (pv 0) pe_int (fun _ _ => rfl)) (pe_ix (ix_tupK (K := K) rfl) (pv 1) pe_int (fun _ _ => rfl))) (pe_op op_mulW (pe_ix (ix_tupK (K := K) rfl) (pv 1) pe_int (fun _ _ => rfl)) (pe_ix (ix_tupK (K := K) rfl) (pv 0) pe_int (fun _ _ => rfl))) (nomark _))))), ?_⟩
    obtain ⟨a, b, x, y, rfl, hx, hy, bx, by', q⟩ := h
    refine ⟨_, rfl, a, _, 0, _, rfl, rfl, hx, atI_nat (j := 0) rfl, _, rfl, b, _, 1, _, rfl, rfl, hy, atI_nat (j := 1) rfl, _, _, rfl, rfl, wide_mul bx.1 by'.2 (by decide) (by decide) (by decide), ?_⟩
    exact ⟨_, rfl, b, _, 0, _, rfl, rfl, hy, atI_nat (j := 0) rfl, _, rfl, a, _, 1, _, rfl, rfl, hx, atI_nat (j := 1) rfl, _, _, rfl, rfl, wide_mul by'.1 bx.2 (by decide) (by decide) (by decide), _, _, rfl, rfl, q⟩
abbrev s_open_places : Stmt := topS 27
theorem sc_open_places : FnScope ["rows", "found", "place", "row"] ["rows", "found"] (defScope s_open_places) := ⟨rfl, rfl, rfl, by decide +kernel, rfl, by decide +kernel, by decide +kernel⟩
def sp_open_places (K : PySem.W.Frag) : Sp := fun vs H Q _ => ∃ (p f : Addr) (xs : List V) (rs : List Row) (fs : List Int), vs = [.ref p, .ref f] ∧ Rws K H p xs rs ∧ rs.length ≤ 1000 ∧ SqL K H f (fs.map V.int) ∧ fs.length = rs.length ∧
  ∀ H' D, Same H H' → H D = none → H' D = some (.lst (natsV (opens rs fs))) → Q (.ref D) H'
def opensTo (rs : List Row) (f : List Int) (i : Nat) : List Nat := (List.range i).filter fun i => decide (f.getD i 0 < (rowAt rs i).2.2)
theorem opensTo_succ (rs : List Row) (f : List Int) (i : Nat) : opensTo rs f (i + 1) = opensTo rs f i ++ if f.getD i 0 < (rowAt rs i).2.2 then [i] else [] := by
  unfold opensTo
  rw [List.range_succ, List.filter_append, List.filter_cons, List.filter_nil]
  congr 1
  by_cases e : f.getD i 0 < (rowAt rs i).2.2
  · rw [if_pos (decide_eq_true e), if_pos e]
  · rw [if_neg (by rw [decide_eq_false e]; decide), if_neg e]
theorem opensTo_len (rs : List Row) (f : List Int) (i : Nat) : (opensTo rs f i).length ≤ i := by
  have h := List.length_filter_le (fun i => decide (f.getD i 0 < (rowAt rs i).2.2)) (List.range i)
  rw [List.length_range] at h
  exact h
theorem ok_open_places (Z : BZ mg) (D : DefAt K mg "open_places" s_open_places) : OkF P w K mg base 1 "open_places" ["rows", "found"] (sp_open_places K) := by
  refine OkF.mk' D sc_open_places (fun _ _ _ _ _ _ us hl => match us, hl with | [_, _], _ => rfl) (fun vs H Q E h => ?_) (fun f cdv A outer s H vs Q E hr h => ?_)
  · first | (obtain ⟨_, rfl, _⟩ := h; rfl) | (obtain ⟨_, _, rfl, _⟩ := h; rfl) | (obtain ⟨_, _, _, rfl, _⟩ := h; rfl) | (obtain ⟨_, _, _, _, rfl, _⟩ := h; rfl) | (obtain ⟨_, _, _, _, _, rfl, _⟩ := h; rfl) | (obtain ⟨_, _, _, _, _, _, rfl, _⟩ := h; rfl) | (obtain ⟨_, _, _, _, _, _, _, rfl, _⟩ := h; rfl) | (obtain ⟨_, _, _, _, _, _, _, _, rfl, _⟩ := h; rfl) | (obtain ⟨_, _, _, _, _, _, _, _, _, rfl, _⟩ := h; rfl) | (obtain ⟨_, _, _, _, _, _, _, _, _, _, rfl, _⟩ := h; rfl) | (obtain ⟨_, _, _, _, _, _, _, _, _, _, _, rfl, _⟩ := h; rfl) | (obtain ⟨_, _, _, _, _, _, _, _, _, _, _, _, rfl, _⟩ := h; rfl) | (obtain ⟨_, _, _, _, _, _, _, _, _, _, _, _, _, rfl, _⟩ := h; rfl) | (obtain ⟨_, _, _, _, _, _, _, _, _, _, _, _, _, _, rfl, _⟩ := h; rfl)
  · refine ⟨_, PSs.nox ((pss_one (ps_ret (pe_lc (own := [("place", 2), ("row", 3)]) (g := gTup _ 2 (gCons (gName 2) (gCons (gName 3) gNil))) rfl sc_open_places.nd (pi_enum (by rfl) Z.enumerate (pa_cons (pv 0) pa_nil)) (blkOk_by (N := ["rows", "found", "place", "row"]) (sc := defScope s_open_places) (own := [("place", 2), ("row", 3)]) (by decide +kernel)) (fun _ _ _ _ _ => pg_tup rfl (pgs_cons (pg_name (i := 2) sc_open_places.nd rfl (Or.inl rfl)) (pgs_cons (pg_name (i := 3) sc_open_places.nd rfl (Or.inl rfl)) pgs_nil))) (fun _ _ _ _ _ => by exact (pts_one (pt_cmpR op_lt (pe_ix (ix_listK (K := K) rfl) (pv 1) (pv 2) (fun _ _ => rfl)) (pe_ix (ix_tupK (K := K) rfl) (pv 3) pe_int (fun _ _ => rfl)) (nomark _)))) (fun _ _ _ _ _ => (pv 2)))))), ?_⟩
    obtain ⟨p, fp, xs, rs, fs, rfl, hR, hl, hF, hlen, q⟩ := h
    refine ⟨.ref p, rfl, p, xs, rfl, hR.l, fun D nD => lc_it (walk_enum (xs := xs)) (fun i H' => Same H H' ∧ H' D = some (.lst (natsV (opensTo rs fs i)))) ⟨same_new nD, upd_same⟩ (fun i H' _ ⟨s, _⟩ => same_seq s hR.l) (fun i x H1 H' hi ⟨s, e⟩ hy => ?_) (fun H' ⟨s, e⟩ => ?_)⟩
    · obtain ⟨T, v1, v2, rfl, nT, rfl, e1, e2⟩ := hy
      cases e1
      obtain ⟨r, a, hr, rfl, ha⟩ := (hR.same s).getV e2
      have sT := same_new (o := .tup [.int (i : Nat), .ref a]) nT
      have hin : i < fs.length := by
        rw [hlen, ← hR.n]
        exact hi
      refine ⟨T, _, rfl, sqT upd_same, rfl, _, _, rfl, _, _, rfl, rfl, rfl, ?_⟩
      refine ⟨_, rfl, _, rfl, fp, _, (i : Int), _, rfl, rfl, same_seq (s.trans sT) hF, int_ix hin, _, rfl, a, _, 2, _, rfl, rfl, same_tup sT ha, atI_nat (j := 2) rfl, _, _, rfl, rfl, _, rfl, ?_⟩
      have er := rowAt_of hr
      have step := opensTo_succ rs fs i
      rw [er] at step
      refine ifD (fun c => ?_) (fun c => ?_)
      · have c2 : fs.getD i 0 < r.2.2 := c
        rw [if_pos c2] at step
        refine ⟨_, rfl, _, sT _ _ e, szl ?_, same_mut (s.trans sT) nD, ?_⟩
        · unfold natsV
          rw [List.length_map]
          have := opensTo_len rs fs i
          have := hR.n
          omega
        · rw [upd_same, step]
          unfold natsV
          rw [List.map_append]
          rfl
      · have c2 : ¬ fs.getD i 0 < r.2.2 := c
        rw [if_neg c2, List.append_nil] at step
        exact ⟨s.trans sT, by rw [step]; exact sT _ _ e⟩
    · rw [hR.n] at e
      exact q H' D s nD e
abbrev s_greatest_places : Stmt := topS 28
theorem sc_greatest_places : FnScope ["way", "rows", "found", "best", "place", "mine", "other"] ["way", "rows", "found"] (defScope s_greatest_places) := ⟨rfl, rfl, rfl, by decide +kernel, rfl, by decide +kernel, by decide +kernel⟩
def sp_greatest_places (K : PySem.W.Frag) : Sp := fun vs H Q _ => ∃ (w : Str) (p f : Addr) (xs : List V) (rs : List Row) (fs : List Int), vs = [.str w, .ref p, .ref f] ∧ w ∈ ways ∧ Rws K H p xs rs ∧ rs.length ≤ 1000 ∧ (∀ r ∈ rs, GoodRow r) ∧ SqL K H f (fs.map V.int) ∧ fs.length = rs.length ∧ (∀ i < rs.length, 0 ≤ fs.getD i 0 ∧ fs.getD i 0 ≤ 200) ∧
  ∀ H' D, Same H H' → H D = none → H' D = some (.lst (natsV (greatest w rs fs))) → Q (.ref D) H'
theorem gStep_cons {w : Str} {rs : List Row} {f : List Int} {x : Nat} {r : List Nat} {i : Nat} : gStep w rs f (x :: r) i = if above (nxt w rs f x) (nxt w rs f i) then x :: r else if above (nxt w rs f i) (nxt w rs f x) then [i] else (x :: r) ++ [i] := rfl
theorem ok_greatest_places (Z : BZ mg) (O_open_places : OkF P w K mg base 1 "open_places" ["rows", "found"] (sp_open_places K)) (O_claim : OkF P w K mg base 2 "claim" ["way", "row", "count"] (sp_claim K)) (O_is_above : OkF P w K mg base 1 "is_above" ["one", "other"] (sp_is_above K)) (D : DefAt K mg "greatest_places" s_greatest_places) : OkF P w K mg base 3 "greatest_places" ["way", "rows", "found"] (sp_greatest_places K) := by
  refine OkF.mk' D sc_greatest_places (fun _ _ _ _ _ _ us hl => match us, hl with | [_, _, _], _ => rfl) (fun vs H Q E h => ?_) (fun f cdv A outer s H vs Q E hr h => ?_)
  · first | (obtain ⟨_, rfl, _⟩ := h; rfl) | (obtain ⟨_, _, rfl, _⟩ := h; rfl) | (obtain ⟨_, _, _, rfl, _⟩ := h; rfl) | (obtain ⟨_, _, _, _, rfl, _⟩ := h; rfl) | (obtain ⟨_, _, _, _, _, rfl, _⟩ := h; rfl) | (obtain ⟨_, _, _, _, _, _, rfl, _⟩ := h; rfl) | (obtain ⟨_, _, _, _, _, _, _, rfl, _⟩ := h; rfl) | (obtain ⟨_, _, _, _, _, _, _, _, rfl, _⟩ := h; rfl) | (obtain ⟨_, _, _, _, _, _, _, _, _, rfl, _⟩ := h; rfl) | (obtain ⟨_, _, _, _, _, _, _, _, _, _, rfl, _⟩ := h; rfl) | (obtain ⟨_, _, _, _, _, _, _, _, _, _, _, rfl, _⟩ := h; rfl) | (obtain ⟨_, _, _, _, _, _, _, _, _, _, _, _, rfl, _⟩ := h; rfl) | (obtain ⟨_, _, _, _, _, _, _, _, _, _, _, _, _, rfl, _⟩ := h; rfl) | (obtain ⟨_, _, _, _, _, _, _, _, _, _, _, _, _, _, rfl, _⟩ := h; rfl)
  · refine ⟨_, PSs.nox ((pss_cons (ps_set (i := 3) sc_greatest_places.nd rfl (Or.inl rfl) (pe_lst pa_nil))
      (pss_cons (ps_for PassesOwn.never rfl (pi_list (pc O_open_places (hr.mono (by decide)) passL (pa_cons (pv 1) (pa_cons (pv 2) pa_nil)))) (pg_name (i := 4) sc_greatest_places.nd rfl (Or.inl rfl)) (pss_cons (ps_set (i := 5) sc_greatest_places.nd rfl (Or.inl rfl) (pc O_claim (hr.mono (by decide)) passL (pa_cons (pv 0) (pa_cons (pe_ix (ix_listK (K := K) rfl) (pv 1) (pv 4) (fun _ _ => rfl)) (pa_cons (pe_op op_add (pe_ix (ix_listK (K := K) rfl) (pv 2) (pv 4) (fun _ _ => rfl)) pe_int) pa_nil)))))
      (pss_cons (ps_if (pt_cmpR (op_neDK (K := K) rfl hr.units) (pv 3) (pe_lst pa_nil) (nomark _)) (pss_cons (ps_set (i := 6) sc_greatest_places.nd rfl (Or.inl rfl) (pc O_claim (hr.mono (by decide)) passL (pa_cons (pv 0) (pa_cons (pe_ix (ix_listK (K := K) rfl) (pv 1) (pe_ix (ix_listK (K := K) rfl) (pv 3) pe_int (fun _ _ => rfl)) (fun _ _ => rfl)) (pa_cons (pe_op op_add (pe_ix (ix_listK (K := K) rfl) (pv 2) (pe_ix (ix_listK (K := K) rfl) (pv 3) pe_int (fun _ _ => rfl)) (fun _ _ => rfl)) pe_int) pa_nil)))))
      (pss_cons (ps_if (pt_val (pc O_is_above (hr.mono (by decide)) passL (pa_cons (pv 6) (pa_cons (pv 5) pa_nil)))) (pss_one (ps_continue)) pss_nil)
      (pss_one (ps_if (pt_val (pc O_is_above (hr.mono (by decide)) passL (pa_cons (pv 5) (pa_cons (pv 6) pa_nil)))) (pss_one (ps_set (i := 3) sc_greatest_places.nd rfl (Or.inl rfl) (pe_lst pa_nil))) pss_nil)))) pss_nil)
      (pss_one (ps_expr (pe_bm PySem.F.plainAttrs_list PySem.F.slot_list_append PySem.F.type_list_append mt_append (pv 3) (pa_cons (pv 4) pa_nil)))))))
      (pss_one (ps_ret (pv 3)))))), ?_⟩
    obtain ⟨wy, p, fp, xs, rs, fs, rfl, hw, hR, hl, hg, hF, hlen, hb, q⟩ := h
    have rx : ∀ {i : Nat}, i < rs.length → ∃ a, xs[i]? = some (V.ref a) ∧ SqT K H a [.int (rowAt rs i).1, .int (rowAt rs i).2.1, .int (rowAt rs i).2.2] := fun {i} h => hR.get (row_get h)
    have cb : ∀ {i : Nat}, i < rs.length → Cb (nxt wy rs fs i) := fun {i} h => cb_cl hw (row_good hg h) (by have := hb i h; omega) (by have := hb i h; omega)
    refine ⟨sz (show 0 ≤ 100000 by decide), fun b nb => ?_⟩
    have sb := same_new (o := .lst []) nb
    refine ⟨_, rfl, _, rfl, p, fp, xs, rs, fs, rfl, hR.same sb, hl, same_seq sb hF, hlen, fun H1 D s1 nD eD => ⟨D, rfl, ⟨_, sqL eD⟩, ?_⟩⟩
    have nbD : b ≠ D := by
      intro e
      rw [← e, upd_same] at nD
      cases nD
    refine for_list (xs := natsV (opens rs fs)) (K := K) (fun i σ H' => ∃ b o4 o5 o6, σ = [some (V.str wy), some (V.ref p), some (V.ref fp), some (V.ref b), o4, o5, o6] ∧ Same H H' ∧ H b = none ∧ b ≠ D ∧ H' D = some (.lst (natsV (opens rs fs))) ∧ H' b = some (.lst (natsV (((opens rs fs).take i).foldl (gStep wy rs fs) [])))) ⟨b, none, none, none, rfl, sb.trans s1, nb, nbD, eD, s1 _ _ upd_same⟩ (fun i σ H' _ ⟨b, _, _, _, _, s, _, _, e, _⟩ => sqL e) (fun i x σ H' hx ⟨b, o4, o5, o6, hσ, s, nb, nbD, e, eb⟩ => ?_) (fun σ H' ⟨b, o4, o5, o6, hσ, s, nb, nbD, e, eb⟩ => ?_)
    · subst hσ
      obtain ⟨j, hj, rfl⟩ := natsV_at hx
      have mj := List.mem_of_getElem? hj
      have lj := opens_lt mj
      obtain ⟨a, ha, hT⟩ := rx lj
      have hTake : (opens rs fs).take (i + 1) = (opens rs fs).take i ++ [j] := by rw [List.take_add_one, hj]; rfl
      have hFold : ((opens rs fs).take (i + 1)).foldl (gStep wy rs fs) [] = gStep wy rs fs (((opens rs fs).take i).foldl (gStep wy rs fs) []) j := by rw [hTake, List.foldl_append]; rfl
      have hsub := gFold_sub (w := wy) (rs := rs) (f := fs) ((opens rs fs).take i) []
      rw [List.nil_append] at hsub
      have hmem : ∀ y ∈ ((opens rs fs).take i).foldl (gStep wy rs fs) [], y < rs.length := fun y hy => opens_lt (List.mem_of_mem_take (hsub.mem hy))
      have hle : (((opens rs fs).take i).foldl (gStep wy rs fs) []).length ≤ 1000 := Nat.le_trans hsub.length_le (Nat.le_trans (List.length_take_le' ..) (Nat.le_trans opens_len hl))
      generalize ((opens rs fs).take i).foldl (gStep wy rs fs) [] = bl at hFold hmem hle eb
      rw [hFold]
      refine ⟨_, rfl, _, rfl, _, rfl, p, _, (j : Int), _, rfl, rfl, (hR.same s).l, atI_nat ha, _, rfl, _, rfl, fp, _, (j : Int), _, rfl, rfl, same_seq s hF, int_ix (by rw [hlen]; exact lj), _, 1, rfl, rfl, ?_⟩
      refine ⟨wy, a, fs.getD j 0 + 1, rowAt rs j, rfl, same_tup s hT, fun H2 t s2 nt et => ?_⟩
      have eb2 := s2 _ _ eb
      have e2 := s2 _ _ e
      have sH2 := s.trans s2
      have bt : b ≠ t := by
        intro e
        rw [← e, eb] at nt
        cases nt
      have fin : ∀ (H3 : Hp) (b' : Addr) (l' : List Nat) (o6' : Option V), Same H H3 → H b' = none → b' ≠ D → H3 D = some (.lst (natsV (opens rs fs))) → l' ++ [j] = gStep wy rs fs bl j →
          (∃ b o4 o5 o6, [some (V.str wy), some (V.ref p), some (V.ref fp), some (V.ref b'), some (V.int (j : Int)), some (V.ref t), o6'] = [some (V.str wy), some (V.ref p), some (V.ref fp), some (V.ref b), o4, o5, o6] ∧ Same H (upd H3 b' (.lst (natsV l' ++ [V.int (j : Int)]))) ∧ H b = none ∧ b ≠ D ∧ (upd H3 b' (.lst (natsV l' ++ [V.int (j : Int)]))) D = some (.lst (natsV (opens rs fs))) ∧ (upd H3 b' (.lst (natsV l' ++ [V.int (j : Int)]))) b = some (.lst (natsV (gStep wy rs fs bl j)))) := by
        intro H3 b' l' o6' s3 nb' nbD' e3 hs
        refine ⟨b', _, _, _, rfl, same_mut s3 nb', nb', nbD', by rw [upd_ne (fun e => nbD' e.symm)]; exact e3, ?_⟩
        rw [upd_same, ← hs, natsV_app]
        rfl
      refine ⟨_, rfl, sz (show 0 ≤ 100000 by decide), fun p0 np0 => ne_nil (sqL (same_new np0 _ _ eb2)) (sqL upd_same) ⟨_, rfl, ?_⟩⟩
      have s0 := same_new (o := .lst []) np0
      have eb3 := s0 _ _ eb2
      have e3 := s0 _ _ e2
      have s3 := sH2.trans s0
      have et3 := s0 _ _ et
      cases bl with
      | nil =>
        refine iteF ?_
        exact ⟨.ref b, rfl, .inl ⟨rfl, _, sqL eb3⟩, _, rfl, b, _, _, rfl, rfl, eb3, szl (by show 0 < 100000; decide), fin _ b [] o6 s3 nb nbD e3 rfl⟩
      | cons y r =>
        refine iteT ?_
        have ly := hmem y (List.mem_cons_self ..)
        obtain ⟨a2, ha2, hT2⟩ := rx ly
        have at0 : atI (natsV (y :: r)) 0 = some (.int (y : Int)) := atI_nat (j := 0) rfl
        refine ⟨_, rfl, _, rfl, _, rfl, b, _, 0, _, rfl, rfl, sqL eb3, at0, p, _, (y : Int), _, rfl, rfl, (hR.same s3).l, atI_nat ha2, _, rfl, _, rfl, b, _, 0, _, rfl, rfl, sqL eb3, at0, fp, _, (y : Int), _, rfl, rfl, same_seq s3 hF, int_ix (by rw [hlen]; exact ly), _, 1, rfl, rfl, ?_⟩
        refine ⟨wy, a2, fs.getD y 0 + 1, rowAt rs y, rfl, same_tup s3 hT2, fun H4 u s4 nu eu => ?_⟩
        have eb4 := s4 _ _ eb3
        have e4 := s4 _ _ e3
        have et4 := s4 _ _ et3
        have sH4 := s3.trans s4
        refine ⟨_, rfl, _, rfl, u, t, nxt wy rs fs y, nxt wy rs fs j, rfl, sqT eu, sqT et4, cb ly, cb lj, ?_⟩
        refine ⟨_, rfl, iteB (fun c => ?_) (fun c => ?_)⟩
        · exact ⟨b, _, _, _, rfl, sH4, nb, nbD, e4, by
            rw [gStep_cons, if_pos c]
            exact eb4⟩
        have nc : ¬ above (nxt wy rs fs y) (nxt wy rs fs j) = true := by rw [c]; decide
        refine ⟨_, rfl, _, rfl, t, u, nxt wy rs fs j, nxt wy rs fs y, rfl, sqT et4, sqT eu, cb lj, cb ly, ⟨_, rfl, iteB (fun c2 => ?_) (fun c2 => ?_)⟩⟩
        · refine ⟨sz (show 0 ≤ 100000 by decide), fun b5 nb5 => ?_⟩
          have s5 := same_new (o := .lst []) nb5
          have ne5 : b5 ≠ D := by
            intro e
            rw [e, e4] at nb5
            cases nb5
          exact ⟨.ref b5, rfl, .inl ⟨rfl, _, sqL upd_same⟩, _, rfl, b5, _, _, rfl, rfl, upd_same, szl (by show 0 < 100000; decide), fin _ b5 [] _ (sH4.trans s5) (same_free sH4 nb5) ne5 (s5 _ _ e4) (by rw [gStep_cons, if_neg nc, if_pos c2]; rfl)⟩
        · have nc2 : ¬ above (nxt wy rs fs j) (nxt wy rs fs y) = true := by rw [c2]; decide
          exact ⟨.ref b, rfl, .inl ⟨rfl, _, sqL eb4⟩, _, rfl, b, _, _, rfl, rfl, eb4, szl (by rw [natsV_len]; omega), fin _ b (y :: r) _ sH4 nb nbD e4 (by rw [gStep_cons, if_neg nc, if_neg nc2])⟩
    · subst hσ
      rw [natsV_len, List.take_length] at eb
      exact ⟨_, rfl, q _ _ s nb eb⟩
abbrev s_dealt : Stmt := topS 29
theorem sc_dealt : FnScope ["way", "rows", "seats", "sure", "left", "last", "place", "row"] ["way", "rows", "seats"] (defScope s_dealt) := ⟨rfl, rfl, rfl, by decide +kernel, rfl, by decide +kernel, by decide +kernel⟩
/-- a deal on the heap: new lists, the first apart from the others -/
def DealtAt (H H' : Hp) (t : Addr) (d : Dealt) : Prop := ∃ s e l, H' t = some (.tup [.ref s, .ref e, .int d.left, .ref l]) ∧ H' s = some (.lst (d.sure.map V.int)) ∧ H' e = some (.lst (natsV d.tied)) ∧ H' l = some (.lst (natsV d.last)) ∧ H s = none ∧ H e = none ∧ H l = none ∧ s ≠ e ∧ s ≠ l
def sp_dealt (K : PySem.W.Frag) : Sp := fun vs H Q _ => ∃ (w : Str) (p : Addr) (xs : List V) (rs : List Row) (n : Int), vs = [.str w, .ref p, .int n] ∧ w ∈ ways ∧ Rws K H p xs rs ∧ rs.length ≤ 1000 ∧ (∀ r ∈ rs, GoodRow r) ∧ (lows rs).sum ≤ n ∧ n ≤ (caps rs).sum ∧
  ∀ H' t, Same H H' → H t = none → DealtAt H H' t (dealM w rs n) → Q (.ref t) H'
theorem dealtM_go {w : Str} {rs : List Row} {n : Nat} {f : List Int} {left : Int} {last : List Nat} (h : 0 < left) (h2 : left < (greatest w rs f).length) : dealtM w rs (n + 1) f left last = ⟨f, greatest w rs f, left, greatest w rs f⟩ := by
  show (if 0 < left then _ else _) = _
  rw [if_pos h, if_pos h2]
theorem dealtM_on {w : Str} {rs : List Row} {n : Nat} {f : List Int} {left : Int} {last : List Nat} (h : 0 < left) (h2 : ¬ left < (greatest w rs f).length) : dealtM w rs (n + 1) f left last = dealtM w rs n (bump f (greatest w rs f)) (left - (greatest w rs f).length) (greatest w rs f) := by
  show (if 0 < left then _ else _) = _
  rw [if_pos h, if_neg h2]
theorem dealtM_end {w : Str} {rs : List Row} {n : Nat} {f : List Int} {left : Int} {last : List Nat} (h : ¬ 0 < left) : dealtM w rs (n + 1) f left last = ⟨f, [], 0, last⟩ := by
  show (if 0 < left then _ else _) = _
  rw [if_neg h]
theorem ok_dealt (Z : BZ mg) (O_greatest_places : OkF P w K mg base 3 "greatest_places" ["way", "rows", "found"] (sp_greatest_places K)) (D : DefAt K mg "dealt" s_dealt) : OkF P w K mg base 4 "dealt" ["way", "rows", "seats"] (sp_dealt K) := by
  refine OkF.mk' D sc_dealt (fun _ _ _ _ _ _ us hl => match us, hl with | [_, _, _], _ => rfl) (fun vs H Q E h => ?_) (fun f cdv A outer s H vs Q E hr h => ?_)
  · first | (obtain ⟨_, rfl, _⟩ := h; rfl) | (obtain ⟨_, _, rfl, _⟩ := h; rfl) | (obtain ⟨_, _, _, rfl, _⟩ := h; rfl) | (obtain ⟨_, _, _, _, rfl, _⟩ := h; rfl) | (obtain ⟨_, _, _, _, _, rfl, _⟩ := h; rfl) | (obtain ⟨_, _, _, _, _, _, rfl, _⟩ := h; rfl) | (obtain ⟨_, _, _, _, _, _, _, rfl, _⟩ := h; rfl) | (obtain ⟨_, _, _, _, _, _, _, _, rfl, _⟩ := h; rfl) | (obtain ⟨_, _, _, _, _, _, _, _, _, rfl, _⟩ := h; rfl) | (obtain ⟨_, _, _, _, _, _, _, _, _, _, rfl, _⟩ := h; rfl) | (obtain ⟨_, _, _, _, _, _, _, _, _, _, _, rfl, _⟩ := h; rfl) | (obtain ⟨_, _, _, _, _, _, _, _, _, _, _, _, rfl, _⟩ := h; rfl) | (obtain ⟨_, _, _, _, _, _, _, _, _, _, _, _, _, rfl, _⟩ := h; rfl) | (obtain ⟨_, _, _, _, _, _, _, _, _, _, _, _, _, _, rfl, _⟩ := h; rfl)
  · refine ⟨_, PSs.nox ((pss_cons (ps_setLc (i := 3) (own := [("row", 7)]) (g := gName 7) (tt := tYes) rfl sc_dealt.nd rfl rfl (sw_true rfl rfl rfl (by decide +kernel)) (pi_list (pv 1)) (blkOk_by (N := ["way", "rows", "seats", "sure", "left", "last", "place", "row"]) (sc := defScope s_dealt) (own := [("row", 7)]) (by decide +kernel)) (fun _ _ _ _ _ => pg_name (i := 7) sc_dealt.nd rfl (Or.inl rfl)) (fun _ _ _ _ _ => pts_nil) (fun _ _ _ _ _ => (pe_ix (ix_tupK (K := K) rfl) (pv 7) pe_int (fun _ _ => rfl))))
      (pss_cons (ps_set (i := 4) sc_dealt.nd rfl (Or.inl rfl) (pe_op op_sub (pv 2) (pe_callB (cr_sumK (K := K) rfl rfl) (by rfl) Z.sum bt_sum (pa_cons (pv 3) pa_nil))))
      (pss_cons (ps_set (i := 5) sc_dealt.nd rfl (Or.inl rfl) (pe_lst pa_nil))
      (pss_cons (ps_while PassesOwn.never (pt_cmpR op_gt (pv 4) pe_int (nomark _)) (pss_cons (ps_set (i := 5) sc_dealt.nd rfl (Or.inl rfl) (pc O_greatest_places (hr.mono (by decide)) passL (pa_cons (pv 0) (pa_cons (pv 1) (pa_cons (pv 3) pa_nil)))))
      (pss_cons (ps_if (pt_cmpR op_gt (pe_callB (call_len_seqK (K := K) rfl) (by rfl) Z.len bt_len (pa_cons (pv 5) pa_nil)) (pv 4) (nomark _)) (pss_one (ps_ret (pe_tup (pa_cons (pv 3) (pa_cons (pv 5) (pa_cons (pv 4) (pa_cons (pv 5) pa_nil))))))) pss_nil)
      (pss_cons (ps_for PassesOwn.never rfl (pi_list (pv 5)) (pg_name (i := 6) sc_dealt.nd rfl (Or.inl rfl)) (pss_one (ps_augS (pv 3) (pv 6) get_list pe_int ip_add set_list)))
      (pss_one (ps_aug (i := 4) sc_dealt.nd rfl (Or.inl rfl) (pe_callB (call_len_seqK (K := K) rfl) (by rfl) Z.len bt_len (pa_cons (pv 5) pa_nil)) ip_sub))))))
      (pss_one (ps_ret (pe_tup (pa_cons (pv 3) (pa_cons (pe_lst pa_nil) (pa_cons pe_int (pa_cons (pv 5) pa_nil)))))))))))), ?_⟩
    obtain ⟨wy, p, xs, rs, n, rfl, hw, hR, hl, hg, hlo, hhi, q⟩ := h
    refine ⟨.ref p, rfl, p, rfl, ⟨_, hR.l⟩, fun s ns => lc_col (k := 1) hR (by decide) (show 7 < 8 by decide) hl ns fun H1 s1 e1 => ?_⟩
    refine ⟨_, rfl, _, rfl, s, lows rs, rfl, sqL e1, _, _, rfl, rfl, ?_⟩
    refine ⟨sz (show 0 ≤ 100000 by decide), fun l nl => ?_⟩
    have sl := same_new (o := .lst []) nl
    have hsl : s ≠ l := by
      intro e
      rw [← e, e1] at nl
      cases nl
    refine ⟨fun m σ H' => ∃ fs left last o6 o7 s l, σ = [some (V.str wy), some (V.ref p), some (V.int n), some (V.ref s), some (V.int left), some (V.ref l), o6, o7] ∧ Same H H' ∧ H s = none ∧ H l = none ∧ s ≠ l ∧ H' s = some (.lst (fs.map V.int)) ∧ H' l = some (.lst (natsV last)) ∧ DI rs n fs left ∧ left.toNat < m ∧ dealtM wy rs m fs left last = dealM wy rs n, ⟨(n - (lows rs).sum).toNat + 1, lows rs, n - (lows rs).sum, [], none, none, s, l, rfl, s1.trans sl, ns, same_free s1 nl, hsl, sl _ _ e1, upd_same, di_start hg hlo, Nat.lt_succ_self _, rfl⟩, ?_⟩
    rintro m σ H' ⟨fs, left, last, o6, o7, s, l, rfl, sH, ns, nl, hsl, es, el, hD, hm, hM⟩
    obtain ⟨m, rfl⟩ : ∃ k, m = k + 1 := ⟨m - 1, by omega⟩
    refine ⟨_, rfl, _, _, rfl, rfl, _, rfl, ifD (fun c => ?_) (fun c => ?_)⟩
    · refine ⟨fun σ' H' => ∃ fs left last o6 o7 s l, σ' = [some (V.str wy), some (V.ref p), some (V.int n), some (V.ref s), some (V.int left), some (V.ref l), o6, o7] ∧ Same H H' ∧ H s = none ∧ H l = none ∧ s ≠ l ∧ H' s = some (.lst (fs.map V.int)) ∧ H' l = some (.lst (natsV last)) ∧ DI rs n fs left ∧ left.toNat < m ∧ dealtM wy rs m fs left last = dealM wy rs n, fun σ' H' h => ⟨m, Nat.lt_succ_self _, h⟩, ?_⟩
      refine ⟨_, rfl, _, rfl, _, rfl, wy, p, s, xs, rs, fs, rfl, hw, hR.same sH, hl, hg, sqL es, hD.n, di_200 hD hg, fun H2 l' s2 nl' el' => ?_⟩
      have es2 := s2 _ _ es
      have sH2 := sH.trans s2
      have nlH := same_free sH nl'
      have hsl' : s ≠ l' := by
        intro e
        rw [← e, es] at nl'
        cases nl'
      refine ⟨_, rfl, l', _, rfl, .inl (sqL el'), _, rfl, _, _, rfl, rfl, _, rfl, ?_⟩
      rw [natsV_len]
      refine ifD (fun c2 => ?_) (fun c2 => ?_)
      · rw [dealtM_go c c2] at hM
        refine ⟨_, rfl, _, rfl, _, rfl, _, rfl, sz (show 4 ≤ 100000 by decide), fun t nt => q _ t (sH2.trans (same_new nt)) (same_free sH2 nt) ?_⟩
        rw [← hM]
        have sn := same_new (o := .tup [.ref s, .ref l', .int left, .ref l']) nt
        exact ⟨s, l', l', upd_same, sn _ _ es2, sn _ _ el', sn _ _ el', ns, nlH, nlH, hsl', hsl'⟩
      · rw [dealtM_on c c2] at hM
        have hG := greatest_ne (w := wy) (di_open hD hhi c)
        have hG1 : 0 < (greatest wy rs fs).length := List.length_pos_iff.mpr hG
        refine ⟨_, rfl, l', rfl, ⟨_, sqL el'⟩, for_list (xs := natsV (greatest wy rs fs)) (K := K) (fun i σ H3 => ∃ o6, σ = [some (V.str wy), some (V.ref p), some (V.int n), some (V.ref s), some (V.int left), some (V.ref l'), o6, o7] ∧ Same H H3 ∧ H3 l' = some (.lst (natsV (greatest wy rs fs))) ∧ H3 s = some (.lst ((bump fs ((greatest wy rs fs).take i)).map V.int))) ⟨o6, rfl, sH2, el', es2⟩ (fun i σ H3 _ ⟨_, _, _, e, _⟩ => sqL e) (fun i x σ H3 hx ⟨o6, hσ, s3, el3, es3⟩ => ?_) (fun σ H3 ⟨o6, hσ, s3, el3, es3⟩ => ?_)⟩
        · subst hσ
          obtain ⟨j, hj, rfl⟩ := natsV_at hx
          have lj : j < fs.length := greatest_lt (D := hD.n) j (List.mem_of_getElem? hj)
          have lb : j < (bump fs ((greatest wy rs fs).take i)).length := by rw [bump_len]; exact lj
          have hTake : (greatest wy rs fs).take (i + 1) = (greatest wy rs fs).take i ++ [j] := by rw [List.take_add_one, hj]; rfl
          refine ⟨_, rfl, _, rfl, s, _, j, _, rfl, rfl, sqL es3, map_get lb, _, _, rfl, rfl, s, _, (j : Int), j, rfl, rfl, es3, ixN_n (by rw [List.length_map]; exact lb), _, rfl, same_mut s3 ns, by rw [upd_ne (fun e => hsl' e.symm)]; exact el3, ?_⟩
          rw [upd_same, hTake, bump_app, map_set_int]
          rfl
        · subst hσ
          rw [natsV_len, List.take_length] at es3
          refine ⟨_, rfl, _, rfl, l', _, rfl, .inl (sqL el3), _, _, rfl, rfl, _, _, _, _, o7, s, l', rfl, s3, ns, nlH, hsl', es3, el3, ?_, ?_, ?_⟩
          · rw [natsV_len]
            exact di_step hD (Int.not_lt.mp c2)
          · rw [natsV_len]
            show (left - ((greatest wy rs fs).length : Int)).toNat < m
            omega
          · rw [natsV_len]
            exact hM
    · rw [dealtM_end c] at hM
      refine ⟨_, rfl, sz (show 0 ≤ 100000 by decide), fun e ne => ⟨_, rfl, sz (show 4 ≤ 100000 by decide), fun t nt => ?_⟩⟩
      have se := same_new (o := .lst []) ne
      have sn := same_new (o := .tup [.ref s, .ref e, .int 0, .ref l]) nt
      have hse : s ≠ e := by
        intro x
        rw [← x, es] at ne
        cases ne
      refine q _ t (sH.trans (se.trans sn)) (same_free (sH.trans se) nt) ?_
      rw [← hM]
      exact ⟨s, e, l, upd_same, sn _ _ (se _ _ es), sn _ _ upd_same, sn _ _ (se _ _ el), ns, same_free sH ne, nl, hse, hsl⟩
abbrev s_deal : Stmt := topS 30
theorem sc_deal : FnScope ["way", "lists", "seats", "rows"] ["way", "lists", "seats"] (defScope s_deal) := ⟨rfl, rfl, rfl, by decide +kernel, rfl, by decide +kernel, by decide +kernel⟩
/-- the told three on the heap: new lists, apart -/
def ToldAt (H H' : Hp) (t : Addr) (d : Dealt) : Prop := ∃ s e, H' t = some (.tup [.ref s, .ref e, .int d.left]) ∧ H' s = some (.lst (d.sure.map V.int)) ∧ H' e = some (.lst (natsV d.tied)) ∧ H s = none ∧ H e = none ∧ s ≠ e
def seatsD (rs : List Row) (d : PyData) : Bool := isWh0 d (lows rs).sum (caps rs).sum
structure DealP (K : PySem.W.Frag) (vs : List V) (H : Hp) (Q : VK) (E : XK) : Prop where
  h : ∃ (v1 v2 v3 : V) (dw dl dn : PyData), vs = [v1, v2, v3] ∧ Dz K H v1 dw ∧ Dz K H v2 dl ∧ Dz K H v3 dn ∧
  (isWay dw = false → ∀ H', Same H H' → E (.ref (He.ga K "BadWay")) none H') ∧
  (isWay dw = true → areListsD dl = false → ∀ H', Same H H' → E (.ref (He.ga K "BadLists")) none H') ∧
  (∀ rs : List Row, isWay dw = true → dl = rowsD rs → Good rs → seatsD rs dn = false → ∀ H', Same H H' → E (.ref (He.ga K "BadSeats")) none H') ∧
  (∀ (w : Str) (rs : List Row) (n : Int), w ∈ ways → dw = .str w → dl = rowsD rs → Good rs → dn = .int n → (lows rs).sum ≤ n → n ≤ (caps rs).sum → ∀ H' t, Same H H' → H t = none → ToldAt H H' t (dealM w rs n) → Q (.ref t) H')
def sp_deal (K : PySem.W.Frag) : Sp := fun vs H Q E => DealP K vs H Q E
theorem deal_good {K : PySem.W.Frag} {H : Hp} {Q : VK} {E : XK} {wy : Str} {p : Addr} {xs : List V} {rs : List Row} {n : Int} (hw : wy ∈ ways) (hR : Rws K H p xs rs) (hg : Good rs) (h1 : (lows rs).sum ≤ n) (h2 : n ≤ (caps rs).sum)
    (q : ∀ H' t, Same H H' → H t = none → ToldAt H H' t (dealM wy rs n) → Q (.ref t) H') : sp_deal K [.str wy, .ref p, .int n] H Q E := by
  have isw : isWay (.str wy) = true := decide_eq_true hw
  have isl := areListsD_rows hg
  have iss : seatsD rs (.int n) = true := wh_of h1 h2
  refine ⟨_, _, _, .str wy, rowsD rs, .int n, rfl, .inl (.str _), .inl hR.dp, .inl (.int _), fun z => absurd (isw.symm.trans z) (by decide), fun _ z => absurd (isl.symm.trans z) (by decide), fun rs' _ e _ z => ?_, fun w' rs' n' hw' e1 e2 hg' e3 _ _ H5 t s5 nt hT => ?_⟩
  · rw [← rowsD_inj e] at z
    exact absurd (iss.symm.trans z) (by decide)
  cases e1
  cases e3
  obtain rfl := rowsD_inj e2
  exact q H5 t s5 nt hT
theorem ok_deal (Z : BZ mg) (O_need_way : OkF P w K mg base 1 "need_way" ["way"] (sp_need_way K)) (O_need_lists : OkF P w K mg base 4 "need_lists" ["thing"] (sp_need_lists K)) (O_need_seats : OkF P w K mg base 2 "need_seats" ["rows", "seats"] (sp_need_seats K)) (O_dealt : OkF P w K mg base 4 "dealt" ["way", "rows", "seats"] (sp_dealt K)) (D : DefAt K mg "deal" s_deal) : OkF P w K mg base 5 "deal" ["way", "lists", "seats"] (sp_deal K) := by
  refine OkF.mk' D sc_deal (fun _ _ _ _ _ _ us hl => match us, hl with | [_, _, _], _ => rfl) (fun vs H Q E h => ?_) (fun f cdv A outer s H vs Q E hr h => ?_)
  · first | (obtain ⟨_, rfl, _⟩ := h; rfl) | (obtain ⟨_, _, rfl, _⟩ := h; rfl) | (obtain ⟨_, _, _, rfl, _⟩ := h; rfl) | (obtain ⟨_, _, _, _, rfl, _⟩ := h; rfl) | (obtain ⟨_, _, _, _, _, rfl, _⟩ := h; rfl) | (obtain ⟨_, _, _, _, _, _, rfl, _⟩ := h; rfl) | (obtain ⟨_, _, _, _, _, _, _, rfl, _⟩ := h; rfl) | (obtain ⟨_, _, _, _, _, _, _, _, rfl, _⟩ := h; rfl) | (obtain ⟨_, _, _, _, _, _, _, _, _, rfl, _⟩ := h; rfl) | (obtain ⟨_, _, _, _, _, _, _, _, _, _, rfl, _⟩ := h; rfl) | (obtain ⟨_, _, _, _, _, _, _, _, _, _, _, rfl, _⟩ := h; rfl) | (obtain ⟨_, _, _, _, _, _, _, _, _, _, _, _, rfl, _⟩ := h; rfl) | (obtain ⟨_, _, _, _, _, _, _, _, _, _, _, _, _, rfl, _⟩ := h; rfl) | (obtain ⟨_, _, _, _, _, _, _, _, _, _, _, _, _, _, rfl, _⟩ := h; rfl)
  · refine ⟨_, id ((pss_cons (ps_expr (pc O_need_way (hr.mono (by decide)) (passes_call (takes_of rfl rfl rfl rfl) (fun _ _ _ _ h => h)) (pa_cons (pv 0) pa_nil)))
      (pss_cons (ps_set (i := 3) sc_deal.nd rfl (Or.inl rfl) (pc O_need_lists (hr.mono (by decide)) (passes_call (takes_of rfl rfl rfl rfl) (fun _ _ _ _ h => h)) (pa_cons (pv 1) pa_nil)))
      (pss_cons (ps_expr (pc O_need_seats (hr.mono (by decide)) (passes_call (takes_of rfl rfl rfl rfl) (fun _ _ _ _ h => h)) (pa_cons (pv 3) (pa_cons (pv 2) pa_nil))))
      (pss_one (ps_ret (pe_slice (sl_tupK (K := K) rfl) (pc O_dealt (hr.mono (by decide)) passL (pa_cons (pv 0) (pa_cons (pv 3) (pa_cons (pv 2) pa_nil)))) po_none (po_some pe_int)))))))), ?_⟩
    obtain ⟨v1, v2, v3, dw, dl, dn, rfl, h1, h2, h3, q1, q2, q3, q4⟩ := h
    refine ⟨_, rfl, v1, dw, rfl, h1, fun e1 => ?_, fun e1 => q1 e1 H (Same.refl H)⟩
    obtain ⟨wy, rfl, hw⟩ := isWay_is e1
    obtain rfl := dz_str h1
    refine ⟨_, rfl, v2, dl, rfl, h2, fun e2 => q2 e1 e2, fun rs p xs hd hg hv hR H1 p1 s1 np1 ep1 => ?_⟩
    subst hd hv
    have hR1 : Rws K H1 p1 xs rs := ⟨sqL ep1, hR.n, fun i x r hx hr => rw_same s1 (hR.at_ i x r hx hr)⟩
    have hl1 : rs.length ≤ 1000 := Nat.le_trans hg.2.1 (by decide)
    refine ⟨_, rfl, _, rfl, p1, v3, dn, xs, rs, rfl, hR1, hl1, dz_same s1 h3, fun e3 H2 s2 => q3 rs e1 rfl hg e3 H2 (s1.trans s2), fun e3 H2 s2 => ?_⟩
    obtain ⟨n, rfl, hlo, hhi⟩ := wh_int e3
    obtain rfl := dz_int h3
    refine ⟨_, rfl, _, rfl, _, rfl, wy, p1, xs, rs, n, rfl, hw, hR1.same s2, hl1, hg.2.2, hlo, hhi, fun H3 t s3 nt hD => ?_⟩
    obtain ⟨s, e, l, et, es, ee, el, ns, ne, nl, hse, hsl⟩ := hD
    have s12 := s1.trans s2
    have s13 := s12.trans s3
    refine ⟨_, rfl, t, _, rfl, sqT et, (show ¬ (HT.sIx 4 0 none = 0 ∧ HT.sIx 4 4 (some 3) = 4) by decide), fun u nu => ?_⟩
    have sn := same_new (o := .tup (cutV [V.ref s, V.ref e, V.int (dealM wy rs n).left, V.ref l] none (some 3))) nu
    exact q4 wy rs n hw rfl rfl hg rfl hlo hhi _ u (s13.trans sn) (same_free s13 nu) ⟨s, e, upd_same, sn _ _ es, sn _ _ ee, same_free s12 ns, same_free s12 ne, hse⟩
abbrev s__law_cell_at : Stmt := topS 34
theorem sc__law_cell_at : FnScope ["_law_script", "_law_k"] ["_law_script", "_law_k"] (defScope s__law_cell_at) := ⟨rfl, rfl, rfl, by decide +kernel, rfl, by decide +kernel, by decide +kernel⟩
def sp__law_cell_at (K : PySem.W.Frag) : Sp := fun vs H Q _ => ∃ (a : Addr) (ns : List Int) (k : Nat), vs = [.ref a, .int (k : Int)] ∧ SqL K H a (ns.map V.int) ∧ ∀ c : Int, Q (.int c) H
theorem ok__law_cell_at (Z : BZ mg) (D : DefAt K mg "_law_cell_at" s__law_cell_at) : OkF P w K mg base 1 "_law_cell_at" ["_law_script", "_law_k"] (sp__law_cell_at K) := by
  refine OkF.mk' D sc__law_cell_at (fun _ _ _ _ _ _ us hl => match us, hl with | [_, _], _ => rfl) (fun vs H Q E h => ?_) (fun f cdv A outer s H vs Q E hr h => ?_)
  · first | (obtain ⟨_, rfl, _⟩ := h; rfl) | (obtain ⟨_, _, rfl, _⟩ := h; rfl) | (obtain ⟨_, _, _, rfl, _⟩ := h; rfl) | (obtain ⟨_, _, _, _, rfl, _⟩ := h; rfl) | (obtain ⟨_, _, _, _, _, rfl, _⟩ := h; rfl) | (obtain ⟨_, _, _, _, _, _, rfl, _⟩ := h; rfl) | (obtain ⟨_, _, _, _, _, _, _, rfl, _⟩ := h; rfl) | (obtain ⟨_, _, _, _, _, _, _, _, rfl, _⟩ := h; rfl) | (obtain ⟨_, _, _, _, _, _, _, _, _, rfl, _⟩ := h; rfl) | (obtain ⟨_, _, _, _, _, _, _, _, _, _, rfl, _⟩ := h; rfl) | (obtain ⟨_, _, _, _, _, _, _, _, _, _, _, rfl, _⟩ := h; rfl) | (obtain ⟨_, _, _, _, _, _, _, _, _, _, _, _, rfl, _⟩ := h; rfl) | (obtain ⟨_, _, _, _, _, _, _, _, _, _, _, _, _, rfl, _⟩ := h; rfl) | (obtain ⟨_, _, _, _, _, _, _, _, _, _, _, _, _, _, rfl, _⟩ := h; rfl)
  · refine ⟨_, PSs.nox ((pss_cons (ps_if (pt_cmpR op_lt (pv 1) (pe_callB (call_len_seqK (K := K) rfl) (by rfl) Z.len bt_len (pa_cons (pv 0) pa_nil)) (nomark _)) (pss_one (ps_ret (pe_ix (ix_listK (K := K) rfl) (pv 0) (pv 1) (fun _ _ => rfl)))) pss_nil)
      (pss_one (ps_ret pe_int)))), ?_⟩
    obtain ⟨a, ns, k, rfl, hS, q⟩ := h
    refine ⟨_, rfl, _, rfl, a, _, rfl, .inl hS, _, _, rfl, rfl, _, rfl, ?_⟩
    rw [List.length_map]
    refine ifD (fun c => ?_) (fun c => ?_)
    · exact ⟨_, rfl, _, rfl, a, _, (k : Int), _, rfl, rfl, hS, int_ix (Int.ofNat_lt.mp c), q _⟩
    · exact q 0
abbrev s__law_votes : Stmt := topS 36
theorem sc__law_votes : FnScope ["_law_script", "_law_many", "_law_found", "_law_k", "_law_cell"] ["_law_script", "_law_many"] (defScope s__law_votes) := ⟨rfl, rfl, rfl, by decide +kernel, rfl, by decide +kernel, by decide +kernel⟩
def sp__law_votes (K : PySem.W.Frag) : Sp := fun vs H Q _ => ∃ (a : Addr) (ns : List Int) (m : Int), vs = [.ref a, .int m] ∧ SqL K H a (ns.map V.int) ∧ 1 ≤ m ∧ m ≤ 100 ∧
  ∀ H' b (fs : List Int), Same H H' → H b = none → H' b = some (.lst (fs.map V.int)) → fs.length = m.toNat → (∀ x ∈ fs, 0 ≤ x) → Q (.ref b) H'
theorem mem_set_int {l : List Int} {i : Nat} {a x : Int} (h : x ∈ l.set i a) : x = a ∨ x ∈ l := by
  rcases List.mem_or_eq_of_mem_set h with h | h
  · exact .inr h
  · exact .inl h
theorem ok__law_votes (Z : BZ mg) (O__law_mixed : OkF P w K mg base 1 "_law_mixed" ["_law_cell", "_law_k"] (sp__law_mixed K)) (D : DefAt K mg "_law_votes" s__law_votes) : OkF P w K mg base 2 "_law_votes" ["_law_script", "_law_many"] (sp__law_votes K) := by
  refine OkF.mk' D sc__law_votes (fun _ _ _ _ _ _ us hl => match us, hl with | [_, _], _ => rfl) (fun vs H Q E h => ?_) (fun f cdv A outer s H vs Q E hr h => ?_)
  · first | (obtain ⟨_, rfl, _⟩ := h; rfl) | (obtain ⟨_, _, rfl, _⟩ := h; rfl) | (obtain ⟨_, _, _, rfl, _⟩ := h; rfl) | (obtain ⟨_, _, _, _, rfl, _⟩ := h; rfl) | (obtain ⟨_, _, _, _, _, rfl, _⟩ := h; rfl) | (obtain ⟨_, _, _, _, _, _, rfl, _⟩ := h; rfl) | (obtain ⟨_, _, _, _, _, _, _, rfl, _⟩ := h; rfl) | (obtain ⟨_, _, _, _, _, _, _, _, rfl, _⟩ := h; rfl) | (obtain ⟨_, _, _, _, _, _, _, _, _, rfl, _⟩ := h; rfl) | (obtain ⟨_, _, _, _, _, _, _, _, _, _, rfl, _⟩ := h; rfl) | (obtain ⟨_, _, _, _, _, _, _, _, _, _, _, rfl, _⟩ := h; rfl) | (obtain ⟨_, _, _, _, _, _, _, _, _, _, _, _, rfl, _⟩ := h; rfl) | (obtain ⟨_, _, _, _, _, _, _, _, _, _, _, _, _, rfl, _⟩ := h; rfl) | (obtain ⟨_, _, _, _, _, _, _, _, _, _, _, _, _, _, rfl, _⟩ := h; rfl)
  · refine ⟨_, PSs.nox ((pss_cons (ps_set (i := 2) sc__law_votes.nd rfl (Or.inl rfl) (pe_op op_rep (pe_lst (pa_cons pe_int pa_nil)) (pv 1)))
      (pss_cons (ps_for PassesOwn.never rfl (pi_enum (by rfl) Z.enumerate (pa_cons (pv 0) pa_nil)) (pg_tup rfl (pgs_cons (pg_name (i := 3) sc__law_votes.nd rfl (Or.inl rfl)) (pgs_cons (pg_name (i := 4) sc__law_votes.nd rfl (Or.inl rfl)) pgs_nil))) (pss_one (ps_asg (pe_op op_mod (pe_op op_add (pe_op op_mul (pe_ix (ix_listK (K := K) rfl) (pv 2) (pe_op op_mod (pv 3) (pv 1)) (fun _ _ => rfl)) pe_int) (pc O__law_mixed (hr.mono (by decide)) passL (pa_cons (pv 4) (pa_cons (pe_op op_add pe_int (pe_op op_mod (pv 3) pe_int)) pa_nil)))) (pe_op op_pow pe_int pe_int)) (pg_sub (pv 2) (pe_op op_mod (pv 3) (pv 1)) set_list))))
      (pss_one (ps_ret (pv 2)))))), ?_⟩
    obtain ⟨a, ns, m, rfl, hS, m1, m2, q⟩ := h
    refine ⟨sz (show 1 ≤ 100000 by decide), fun p np => ⟨_, rfl, p, m, [.int 0], rfl, rfl, upd_same, by omega, by omega, sz (by show 1 * m.toNat ≤ 100000; omega), fun b nb => ?_⟩⟩
    have s1 := same_new (o := .lst [.int 0]) np
    have s2 := same_new (o := .lst (List.replicate m.toNat [V.int 0]).flatten) nb
    refine ⟨.ref a, rfl, a, _, rfl, same_seq (s1.trans s2) hS, for_it (walk_enum (xs := ns.map V.int)) (fun i σ' H' => ∃ (x3 x4 : Option V) (fs : List Int), σ' = [some (V.ref a), some (V.int m), some (V.ref b), x3, x4] ∧ Same H H' ∧ H' b = some (.lst (fs.map V.int)) ∧ fs.length = m.toNat ∧ ∀ x ∈ fs, 0 ≤ x)
      ⟨none, none, List.replicate m.toNat 0, rfl, s1.trans s2, ?_, List.length_replicate, fun x hx => by rw [List.eq_of_mem_replicate hx]; exact Int.le_refl _⟩ (fun i σ' H' _ hp => ?_) (fun i x σ' H1 H' hi hp hy => ?_) (fun σ' H' hp => ?_)⟩
    · rw [upd_same, List.map_replicate]
      congr 2
      generalize m.toNat = k
      induction k with
      | zero => rfl
      | succ k ih => rw [List.replicate_succ, List.flatten_cons, ih, List.replicate_succ]; rfl
    · obtain ⟨_, _, _, _, s, _⟩ := hp
      exact same_seq s hS
    · obtain ⟨x3, x4, fs, rfl, s, eb, hf, h0⟩ := hp
      obtain ⟨tp, v1, v2, rfl, nt, rfl, e1, e2⟩ := hy
      cases e1
      obtain ⟨cell, rfl, _⟩ := int_at e2
      have sT := same_new (o := .tup [.int (i : Nat), .int cell]) nt
      have nbH := same_free s1 nb
      have a0 := Int.emod_nonneg (i : Int) (show m ≠ 0 by omega)
      have a1 := Int.emod_lt_of_pos (i : Int) (show (0 : Int) < m by omega)
      have b0 := Int.emod_nonneg (i : Int) (show (50 : Int) ≠ 0 by decide)
      have b1 := Int.emod_lt_of_pos (i : Int) (show (0 : Int) < 50 by decide)
      have hl : (i : Int) % m < (fs.length : Int) := by rw [hf]; omega
      have ebT := sT _ _ eb
      refine ⟨tp, _, rfl, sqT upd_same, rfl, _, _, rfl, _, _, rfl, rfl, ?_⟩
      refine ⟨_, rfl, _, rfl, _, rfl, _, _, rfl, rfl, (show 0 < m by omega), b, _, _, _, rfl, rfl, sqL ebT, int_ixI a0 hl, _, _, rfl, rfl, small_r (by decide), ?_⟩
      refine ⟨_, rfl, _, rfl, (i : Int), 50, rfl, rfl, (show (0 : Int) < 50 by decide), 2, _, rfl, rfl, cell, 2 + (i : Int) % 50, rfl, by omega, by omega, _, _, rfl, rfl, 10, 30, rfl, rfl, ⟨by decide, by decide, by decide⟩, _, _, rfl, rfl, (show (0 : Int) < 10 ^ 30 by decide), ?_⟩
      refine ⟨_, rfl, _, rfl, _, rfl, _, _, rfl, rfl, (show 0 < m by omega), b, _, _, ((i : Int) % m).toNat, rfl, rfl, ebT, ?_, ?_⟩
      · rw [List.length_map]
        have h := ixN_n (n := fs.length) (j := ((i : Int) % m).toNat) (by omega)
        rw [Int.toNat_of_nonneg a0] at h
        exact h
      · rw [map_set_int]
        refine ⟨_, _, _, rfl, same_mut (s.trans sT) nbH, upd_same, by rw [List.length_set]; exact hf, fun x hx => ?_⟩
        rcases mem_set_int hx with rfl | hx
        · exact Int.emod_nonneg _ (by decide)
        · exact h0 x hx
    · obtain ⟨x3, x4, fs, rfl, s, eb, hf, h0⟩ := hp
      exact ⟨_, rfl, q H' b fs s (same_free s1 nb) eb hf h0⟩
abbrev s__law_lists : Stmt := topS 37
theorem sc__law_lists : FnScope ["_law_script", "_law_most", "_law_head", "_law_many", "_law_rows", "_law_k", "_law_votes_here", "_law_size", "_law_count", "_law_number", "_law_least", "_law_cap"] ["_law_script", "_law_most"] (defScope s__law_lists) := ⟨rfl, rfl, rfl, by decide +kernel, rfl, by decide +kernel, by decide +kernel⟩
def sp__law_lists (K : PySem.W.Frag) : Sp := fun vs H Q _ => ∃ (a : Addr) (ns : List Int) (m : Int), vs = [.ref a, .int m] ∧ SqL K H a (ns.map V.int) ∧ 1 ≤ m ∧ m ≤ 12 ∧
  ∀ H' p xs (rs : List Row), Same H H' → H p = none → H' p = some (.lst xs) → Rws K H' p xs rs → Good rs → (rs.length : Int) ≤ m → Q (.ref p) H'
theorem rws_snoc {K : PySem.W.Frag} {H : Hp} {p : Addr} {xs : List V} {rs : List Row} {t : Addr} {r : Row} (h : Rws K H p xs rs) (ht : SqT K H t [.int r.1, .int r.2.1, .int r.2.2]) {H' : Hp} (e2 : ∀ a ys, SqT K H a ys → SqT K H' a ys) (hp : H' p = some (.lst (xs ++ [.ref t]))) : Rws K H' p (xs ++ [.ref t]) (rs ++ [r]) := by
  refine ⟨sqL hp, by rw [List.length_append, List.length_append, h.n]; rfl, fun i x s h1 h2 => ?_⟩
  by_cases hi : i < xs.length
  · rw [List.getElem?_append_left hi] at h1
    rw [List.getElem?_append_left (by rw [← h.n]; exact hi)] at h2
    obtain ⟨a, h3, h4⟩ := h.at_ i x s h1 h2
    exact ⟨a, h3, e2 _ _ h4⟩
  · rw [List.getElem?_append_right (Nat.not_lt.mp hi)] at h1
    rw [List.getElem?_append_right (by rw [← h.n]; exact Nat.not_lt.mp hi), ← h.n] at h2
    cases hj : i - xs.length with
    | zero =>
      rw [hj] at h1 h2
      cases h1
      cases h2
      exact ⟨t, rfl, e2 _ _ ht⟩
    | succ j =>
      rw [hj] at h1
      cases h1
theorem ok__law_lists (Z : BZ mg) (O__law_mixed : OkF P w K mg base 1 "_law_mixed" ["_law_cell", "_law_k"] (sp__law_mixed K)) (O__law_cell_at : OkF P w K mg base 1 "_law_cell_at" ["_law_script", "_law_k"] (sp__law_cell_at K)) (O__law_votes : OkF P w K mg base 2 "_law_votes" ["_law_script", "_law_many"] (sp__law_votes K)) (D : DefAt K mg "_law_lists" s__law_lists) : OkF P w K mg base 3 "_law_lists" ["_law_script", "_law_most"] (sp__law_lists K) := by
  refine OkF.mk' D sc__law_lists (fun _ _ _ _ _ _ us hl => match us, hl with | [_, _], _ => rfl) (fun vs H Q E h => ?_) (fun f cdv A outer s H vs Q E hr h => ?_)
  · first | (obtain ⟨_, rfl, _⟩ := h; rfl) | (obtain ⟨_, _, rfl, _⟩ := h; rfl) | (obtain ⟨_, _, _, rfl, _⟩ := h; rfl) | (obtain ⟨_, _, _, _, rfl, _⟩ := h; rfl) | (obtain ⟨_, _, _, _, _, rfl, _⟩ := h; rfl) | (obtain ⟨_, _, _, _, _, _, rfl, _⟩ := h; rfl) | (obtain ⟨_, _, _, _, _, _, _, rfl, _⟩ := h; rfl) | (obtain ⟨_, _, _, _, _, _, _, _, rfl, _⟩ := h; rfl) | (obtain ⟨_, _, _, _, _, _, _, _, _, rfl, _⟩ := h; rfl) | (obtain ⟨_, _, _, _, _, _, _, _, _, _, rfl, _⟩ := h; rfl) | (obtain ⟨_, _, _, _, _, _, _, _, _, _, _, rfl, _⟩ := h; rfl) | (obtain ⟨_, _, _, _, _, _, _, _, _, _, _, _, rfl, _⟩ := h; rfl) | (obtain ⟨_, _, _, _, _, _, _, _, _, _, _, _, _, rfl, _⟩ := h; rfl) | (obtain ⟨_, _, _, _, _, _, _, _, _, _, _, _, _, _, rfl, _⟩ := h; rfl)
  · refine ⟨_, PSs.nox ((pss_cons (ps_set (i := 2) sc__law_lists.nd rfl (Or.inl rfl) (pc O__law_mixed (hr.mono (by decide)) passL (pa_cons (pc O__law_cell_at (hr.mono (by decide)) passL (pa_cons (pv 0) (pa_cons pe_int pa_nil))) (pa_cons pe_int pa_nil))))
      (pss_cons (ps_set (i := 3) sc__law_lists.nd rfl (Or.inl rfl) (pe_op op_add pe_int (pe_op op_mod (pv 2) (pv 1))))
      (pss_cons (ps_set (i := 4) sc__law_lists.nd rfl (Or.inl rfl) (pe_lst pa_nil))
      (pss_cons (ps_for PassesOwn.never rfl (pi_enum (by rfl) Z.enumerate (pa_cons (pc O__law_votes (hr.mono (by decide)) passL (pa_cons (pv 0) (pa_cons (pv 3) pa_nil))) pa_nil)) (pg_tup rfl (pgs_cons (pg_name (i := 5) sc__law_lists.nd rfl (Or.inl rfl)) (pgs_cons (pg_name (i := 6) sc__law_lists.nd rfl (Or.inl rfl)) pgs_nil))) (pss_cons (ps_set (i := 7) sc__law_lists.nd rfl (Or.inl rfl) (pe_ix (ix_listK (K := K) rfl) (pe_lst (pa_cons (pe_op op_pow pe_int pe_int) (pa_cons pe_int (pa_cons pe_int (pa_cons (pe_op op_pow pe_int pe_int) (pa_cons pe_int pa_nil)))))) (pe_op op_mod (pe_op op_fdiv (pv 2) pe_int) pe_int) (fun _ _ => rfl)))
      (pss_cons (ps_set (i := 8) sc__law_lists.nd rfl (Or.inl rfl) (pe_op op_add pe_int (pe_op op_mod (pv 6) (pv 7))))
      (pss_cons (ps_if (pt_cmpR op_eq (pv 7) pe_int (nomark _)) (pss_one (ps_set (i := 8) sc__law_lists.nd rfl (Or.inl rfl) (pe_op op_mul pe_int (pv 8)))) pss_nil)
      (pss_cons (ps_set (i := 9) sc__law_lists.nd rfl (Or.inl rfl) (pc O__law_mixed (hr.mono (by decide)) passL (pa_cons (pv 6) (pa_cons (pe_op op_add pe_int (pv 5)) pa_nil))))
      (pss_cons (ps_set (i := 10) sc__law_lists.nd rfl (Or.inl rfl) (pe_ix (ix_listK (K := K) rfl) (pe_lst (pa_cons pe_int (pa_cons (pe_op op_mod (pv 9) pe_int) (pa_cons pe_int (pa_cons (pe_op op_mod (pv 9) pe_int) pa_nil))))) (pe_op op_mod (pe_op op_fdiv (pv 2) pe_int) pe_int) (fun _ _ => rfl)))
      (pss_cons (ps_set (i := 11) sc__law_lists.nd rfl (Or.inl rfl) (pe_ix (ix_listK (K := K) rfl) (pe_lst (pa_cons pe_int (pa_cons (pe_op op_add (pv 10) (pe_op op_mod (pe_op op_fdiv (pv 9) pe_int) pe_int)) (pa_cons pe_int (pa_cons (pe_op op_sub pe_int (pe_op op_mod (pe_op op_fdiv (pv 9) pe_int) pe_int)) pa_nil))))) (pe_op op_mod (pe_op op_fdiv (pv 2) pe_int) pe_int) (fun _ _ => rfl)))
      (pss_one (ps_expr (pe_bm PySem.F.plainAttrs_list PySem.F.slot_list_append PySem.F.type_list_append mt_append (pv 4) (pa_cons (pe_tup (pa_cons (pv 8) (pa_cons (pv 10) (pa_cons (pe_callB (call_max2 rfl) (by rfl) Z.max bt_max (pa_cons (pv 10) (pa_cons (pv 11) pa_nil))) pa_nil)))) pa_nil)))))))))))
      (pss_one (ps_ret (pv 4)))))))), ?_⟩
    obtain ⟨a, ns, m, rfl, hS, m1, m2, q⟩ := h
    refine ⟨_, rfl, a, ns, 0, rfl, hS, fun c => ?_⟩
    refine ⟨c, 1, rfl, by decide, by decide, ?_⟩
    have hd0 := mixed_nn c 1
    have k0 := Int.emod_nonneg (mixed c 1) (show m ≠ 0 by omega)
    have k1 := Int.emod_lt_of_pos (mixed c 1) (show (0 : Int) < m by omega)
    refine ⟨_, rfl, _, rfl, _, _, rfl, rfl, (show 0 < m by omega), 1, _, rfl, rfl, sz (show 0 ≤ 100000 by decide), fun b nb => ?_⟩
    have s1 := same_new (o := .lst []) nb
    refine ⟨_, rfl, _, rfl, a, ns, _, rfl, same_seq s1 hS, by omega, by omega, fun H1 vp vs s2 nvp evp hvl hv0 => ?_⟩
    have hbv : b ≠ vp := fun e => by
      rw [← e, upd_same] at nvp
      cases nvp
    refine ⟨vp, _, rfl, sqL evp, for_it (walk_enum (xs := vs.map V.int)) (fun i σ' H' => ∃ (x5 x6 x7 x8 x9 x10 x11 : Option V) (ys : List V) (rs : List Row), σ' = [some (V.ref a), some (V.int m), some (V.int (mixed c 1)), some (V.int (1 + mixed c 1 % m)), some (V.ref b), x5, x6, x7, x8, x9, x10, x11] ∧ Same H H' ∧ H' vp = some (.lst (vs.map V.int)) ∧ H' b = some (.lst ys) ∧ Rws K H' b ys rs ∧ rs.length = i ∧ (∀ r ∈ rs, GoodRow r))
      ⟨none, none, none, none, none, none, none, [], [], rfl, s1.trans s2, evp, s2 _ _ upd_same, ⟨sqL (s2 _ _ upd_same), rfl, fun i x r h1 _ => by cases h1⟩, rfl, fun r hr => by cases hr⟩ (fun i σ' H' _ hp => ?_) (fun i x σ' H1 H' hi hp hy => ?_) (fun σ' H' hp => ?_)⟩
    · obtain ⟨_, _, _, _, _, _, _, _, _, _, _, e, _⟩ := hp
      exact sqL e
    · obtain ⟨x5, x6, x7, x8, x9, x10, x11, ys, rs, rfl, s, ev, eb, hR, hrl, hg⟩ := hp
      obtain ⟨tp, v1, v2, rfl, nt, rfl, e1, e2⟩ := hy
      cases e1
      obtain ⟨vo, rfl, hvo⟩ := int_at e2
      have hvo0 := hv0 vo (List.mem_of_getElem? hvo)
      have sT := same_new (o := .tup [.int (i : Nat), .int vo]) nt
      have hi12 : i < 12 := by
        rw [List.length_map, hvl] at hi
        omega
      refine ⟨tp, _, rfl, sqT upd_same, rfl, _, _, rfl, _, _, rfl, rfl, ?_⟩
      -- the size
      obtain ⟨size, ⟨z1, z2⟩, hz⟩ := pick (n := mixed c 1 / 12) (fs := [10 ^ 30, 1000, 6, 10 ^ 30, 40]) (P := fun z => 6 ≤ z ∧ z ≤ 10 ^ 30) (by decide) (by decide)
      refine ⟨10, 30, rfl, rfl, ⟨by decide, by decide, by decide⟩, 10, 30, rfl, rfl, ⟨by decide, by decide, by decide⟩, sz (show 5 ≤ 100000 by decide), fun p1 np1 => ⟨_, rfl, _, 12, rfl, rfl, ⟨by decide, by decide⟩, _, 5, rfl, rfl, (show (0 : Int) < 5 by decide), p1, _, _, _, rfl, rfl, sqL upd_same, hz, ?_⟩⟩
      have sP1 := same_new (o := .lst [V.int (10 ^ 30), .int 1000, .int 6, .int (10 ^ 30), .int 40]) np1
      have w0 := Int.emod_nonneg vo (show size ≠ 0 by omega)
      have w1 := Int.emod_lt_of_pos vo (show (0 : Int) < size by omega)
      refine ⟨_, rfl, _, rfl, _, _, rfl, rfl, (show 0 < size by omega), 1, _, rfl, rfl, ?_⟩
      have pw : (6000 : Int) ≤ 10 ^ 30 := by decide
      have g1 : 1 ≤ 1 + vo % size ∧ 1 + vo % size ≤ 10 ^ 30 := by omega
      have g2 : size = 40 → 1 ≤ 60 * (1 + vo % size) ∧ 60 * (1 + vo % size) ≤ 10 ^ 30 := fun e => by
        rw [e] at w1 ⊢
        omega
      refine ⟨_, rfl, rfl, _, rfl, ifI (fun e => ⟨_, rfl, 60, _, rfl, rfl, small_l (by decide), ?_⟩) (fun e => ?_)⟩
      · refine ⟨_, rfl, _, rfl, 60, (i : Int), rfl, rfl, vo, 60 + (i : Int), rfl, by omega, by omega, ?_⟩
        have hN := mixed_nn vo (60 + (i : Int))
        obtain ⟨lo, ⟨l0, l1⟩, hlo⟩ := pick (n := mixed c 1 / 60) (fs := [0, mixed vo (60 + (i : Int)) % 4, 0, mixed vo (60 + (i : Int)) % 30]) (P := fun z => 0 ≤ z ∧ z ≤ 29) (show 0 < 4 by decide) (fun x hx => by
          simp only [List.mem_cons, List.not_mem_nil, or_false] at hx
          omega)
        refine ⟨_, rfl, _, 4, rfl, rfl, (show (0 : Int) < 4 by decide), _, rfl, _, 30, rfl, rfl, (show (0 : Int) < 30 by decide), sz (show 4 ≤ 100000 by decide), fun p2 np2 => ⟨_, rfl, _, 60, rfl, rfl, ⟨by decide, by decide⟩, _, 4, rfl, rfl, (show (0 : Int) < 4 by decide), p2, _, _, _, rfl, rfl, sqL upd_same, hlo, ?_⟩⟩
        have sP2 := same_new (o := .lst [V.int 0, .int (mixed vo (60 + (i : Int)) % 4), .int 0, .int (mixed vo (60 + (i : Int)) % 30)]) np2
        obtain ⟨hi, ⟨h0, h1⟩, hhi⟩ := pick (n := mixed c 1 / 60) (fs := [200, lo + mixed vo (60 + (i : Int)) / 30 % 9, 200, 200 - mixed vo (60 + (i : Int)) / 30 % 150]) (P := fun z => 0 ≤ z ∧ z ≤ 200) (show 0 < 4 by decide) (fun x hx => by
          simp only [List.mem_cons, List.not_mem_nil, or_false] at hx
          omega)
        refine ⟨_, rfl, _, rfl, _, 30, rfl, rfl, ⟨by decide, by decide⟩, _, 9, rfl, rfl, (show (0 : Int) < 9 by decide), _, _, rfl, rfl, _, rfl, _, 30, rfl, rfl, ⟨by decide, by decide⟩, _, 150, rfl, rfl, (show (0 : Int) < 150 by decide), 200, _, rfl, rfl, sz (show 4 ≤ 100000 by decide), fun p3 np3 => ⟨_, rfl, _, 60, rfl, rfl, ⟨by decide, by decide⟩, _, 4, rfl, rfl, (show (0 : Int) < 4 by decide), p3, _, _, _, rfl, rfl, sqL upd_same, hhi, ?_⟩⟩
        have sP3 := same_new (o := .lst [V.int 200, .int (lo + mixed vo (60 + (i : Int)) / 30 % 9), .int 200, .int (200 - mixed vo (60 + (i : Int)) / 30 % 150)]) np3
        have sA := ((sT.trans sP1).trans sP2).trans sP3
        have ebA := sA _ _ eb
        refine ⟨.ref b, rfl, .inl ⟨rfl, _, sqL ebA⟩, _, rfl, _, rfl, _, rfl, _, rfl, lo, hi, rfl, sz (show 3 ≤ 100000 by decide), fun t nt3 => ?_⟩
        have sB := sA.trans (same_new (o := .tup [V.int (60 * (1 + vo % size)), .int lo, .int (if hi > lo then hi else lo)]) nt3)
        have ebB := sB _ _ eb
        refine ⟨b, ys, _, rfl, rfl, ebB, szl (by rw [hR.n]; omega), _, _, _, _, _, _, _, ys ++ [.ref t], rs ++ [(60 * (1 + vo % size), lo, if hi > lo then hi else lo)], rfl, same_mut (s.trans sB) nb, ?_, upd_same, rws_snoc (hR.same sB) (sqT upd_same) (fun a2 ys2 h2 => ?_) upd_same, by rw [List.length_append, hrl]; rfl, fun r hr => ?_⟩
        · rw [upd_ne (fun e => hbv e.symm)]
          exact sB _ _ ev
        · exact tup_mut ebB h2
        · rcases List.mem_append.mp hr with hr | hr
          · exact hg r hr
          · rw [List.mem_singleton.mp hr]
            refine ⟨?_, ?_, l0, ?_, ?_⟩
            · exact (g2 e).1
            · exact (g2 e).2
            · show lo ≤ if hi > lo then hi else lo
              split <;> omega
            · show (if hi > lo then hi else lo) ≤ 200
              split <;> omega
      · refine ⟨_, rfl, _, rfl, 60, (i : Int), rfl, rfl, vo, 60 + (i : Int), rfl, by omega, by omega, ?_⟩
        have hN := mixed_nn vo (60 + (i : Int))
        obtain ⟨lo, ⟨l0, l1⟩, hlo⟩ := pick (n := mixed c 1 / 60) (fs := [0, mixed vo (60 + (i : Int)) % 4, 0, mixed vo (60 + (i : Int)) % 30]) (P := fun z => 0 ≤ z ∧ z ≤ 29) (show 0 < 4 by decide) (fun x hx => by
          simp only [List.mem_cons, List.not_mem_nil, or_false] at hx
          omega)
        refine ⟨_, rfl, _, 4, rfl, rfl, (show (0 : Int) < 4 by decide), _, rfl, _, 30, rfl, rfl, (show (0 : Int) < 30 by decide), sz (show 4 ≤ 100000 by decide), fun p2 np2 => ⟨_, rfl, _, 60, rfl, rfl, ⟨by decide, by decide⟩, _, 4, rfl, rfl, (show (0 : Int) < 4 by decide), p2, _, _, _, rfl, rfl, sqL upd_same, hlo, ?_⟩⟩
        have sP2 := same_new (o := .lst [V.int 0, .int (mixed vo (60 + (i : Int)) % 4), .int 0, .int (mixed vo (60 + (i : Int)) % 30)]) np2
        obtain ⟨hi, ⟨h0, h1⟩, hhi⟩ := pick (n := mixed c 1 / 60) (fs := [200, lo + mixed vo (60 + (i : Int)) / 30 % 9, 200, 200 - mixed vo (60 + (i : Int)) / 30 % 150]) (P := fun z => 0 ≤ z ∧ z ≤ 200) (show 0 < 4 by decide) (fun x hx => by
          simp only [List.mem_cons, List.not_mem_nil, or_false] at hx
          omega)
        refine ⟨_, rfl, _, rfl, _, 30, rfl, rfl, ⟨by decide, by decide⟩, _, 9, rfl, rfl, (show (0 : Int) < 9 by decide), _, _, rfl, rfl, _, rfl, _, 30, rfl, rfl, ⟨by decide, by decide⟩, _, 150, rfl, rfl, (show (0 : Int) < 150 by decide), 200, _, rfl, rfl, sz (show 4 ≤ 100000 by decide), fun p3 np3 => ⟨_, rfl, _, 60, rfl, rfl, ⟨by decide, by decide⟩, _, 4, rfl, rfl, (show (0 : Int) < 4 by decide), p3, _, _, _, rfl, rfl, sqL upd_same, hhi, ?_⟩⟩
        have sP3 := same_new (o := .lst [V.int 200, .int (lo + mixed vo (60 + (i : Int)) / 30 % 9), .int 200, .int (200 - mixed vo (60 + (i : Int)) / 30 % 150)]) np3
        have sA := ((sT.trans sP1).trans sP2).trans sP3
        have ebA := sA _ _ eb
        refine ⟨.ref b, rfl, .inl ⟨rfl, _, sqL ebA⟩, _, rfl, _, rfl, _, rfl, _, rfl, lo, hi, rfl, sz (show 3 ≤ 100000 by decide), fun t nt3 => ?_⟩
        have sB := sA.trans (same_new (o := .tup [V.int (1 + vo % size), .int lo, .int (if hi > lo then hi else lo)]) nt3)
        have ebB := sB _ _ eb
        refine ⟨b, ys, _, rfl, rfl, ebB, szl (by rw [hR.n]; omega), _, _, _, _, _, _, _, ys ++ [.ref t], rs ++ [(1 + vo % size, lo, if hi > lo then hi else lo)], rfl, same_mut (s.trans sB) nb, ?_, upd_same, rws_snoc (hR.same sB) (sqT upd_same) (fun a2 ys2 h2 => ?_) upd_same, by rw [List.length_append, hrl]; rfl, fun r hr => ?_⟩
        · rw [upd_ne (fun e => hbv e.symm)]
          exact sB _ _ ev
        · exact tup_mut ebB h2
        · rcases List.mem_append.mp hr with hr | hr
          · exact hg r hr
          · rw [List.mem_singleton.mp hr]
            refine ⟨?_, ?_, l0, ?_, ?_⟩
            · exact g1.1
            · exact g1.2
            · show lo ≤ if hi > lo then hi else lo
              split <;> omega
            · show (if hi > lo then hi else lo) ≤ 200
              split <;> omega
    · obtain ⟨x5, x6, x7, x8, x9, x10, x11, ys, rs, rfl, s, ev, eb, hR, hrl, hg⟩ := hp
      have hrl2 : (rs.length : Int) = 1 + mixed c 1 % m := by rw [hrl, List.length_map, hvl]; omega
      exact ⟨_, rfl, q H' b ys rs s nb eb hR ⟨by omega, by omega, hg⟩ (by omega)⟩
abbrev s__law_seats : Stmt := topS 38
theorem sc__law_seats : FnScope ["_law_script", "_law_rows", "_law_low", "_law_room", "_law_row"] ["_law_script", "_law_rows"] (defScope s__law_seats) := ⟨rfl, rfl, rfl, by decide +kernel, rfl, by decide +kernel, by decide +kernel⟩
def sp__law_seats (K : PySem.W.Frag) : Sp := fun vs H Q _ => ∃ (a p : Addr) (ns : List Int) (xs : List V) (rs : List Row), vs = [.ref a, .ref p] ∧ SqL K H a (ns.map V.int) ∧ Rws K H p xs rs ∧ Good rs ∧
  ∀ H' (n : Int), Same H H' → (lows rs).sum ≤ n → n ≤ (caps rs).sum → n ≤ (lows rs).sum + 60 → Q (.int n) H'
theorem low_cap {rs : List Row} (g : ∀ r ∈ rs, GoodRow r) : (lows rs).sum ≤ (caps rs).sum := by
  refine sum_le _ _ (by rw [lows_len, caps_len]) fun i hi => ?_
  rw [low_get, cap_get]
  rw [lows_len] at hi
  exact (row_good g hi).2.2.2.1
theorem ok__law_seats (Z : BZ mg) (O__law_mixed : OkF P w K mg base 1 "_law_mixed" ["_law_cell", "_law_k"] (sp__law_mixed K)) (D : DefAt K mg "_law_seats" s__law_seats) : OkF P w K mg base 2 "_law_seats" ["_law_script", "_law_rows"] (sp__law_seats K) := by
  refine OkF.mk' D sc__law_seats (fun _ _ _ _ _ _ us hl => match us, hl with | [_, _], _ => rfl) (fun vs H Q E h => ?_) (fun f cdv A outer s H vs Q E hr h => ?_)
  · first | (obtain ⟨_, rfl, _⟩ := h; rfl) | (obtain ⟨_, _, rfl, _⟩ := h; rfl) | (obtain ⟨_, _, _, rfl, _⟩ := h; rfl) | (obtain ⟨_, _, _, _, rfl, _⟩ := h; rfl) | (obtain ⟨_, _, _, _, _, rfl, _⟩ := h; rfl) | (obtain ⟨_, _, _, _, _, _, rfl, _⟩ := h; rfl) | (obtain ⟨_, _, _, _, _, _, _, rfl, _⟩ := h; rfl) | (obtain ⟨_, _, _, _, _, _, _, _, rfl, _⟩ := h; rfl) | (obtain ⟨_, _, _, _, _, _, _, _, _, rfl, _⟩ := h; rfl) | (obtain ⟨_, _, _, _, _, _, _, _, _, _, rfl, _⟩ := h; rfl) | (obtain ⟨_, _, _, _, _, _, _, _, _, _, _, rfl, _⟩ := h; rfl) | (obtain ⟨_, _, _, _, _, _, _, _, _, _, _, _, rfl, _⟩ := h; rfl) | (obtain ⟨_, _, _, _, _, _, _, _, _, _, _, _, _, rfl, _⟩ := h; rfl) | (obtain ⟨_, _, _, _, _, _, _, _, _, _, _, _, _, _, rfl, _⟩ := h; rfl)
  · refine ⟨_, PSs.nox ((pss_cons (ps_set (i := 2) sc__law_seats.nd rfl (Or.inl rfl) (pe_callB (cr_sumK (K := K) rfl rfl) (by rfl) Z.sum bt_sum (pa_cons (pe_lc (own := [("_law_row", 4)]) (g := gName 4) (tt := tYes) rfl sc__law_seats.nd (pi_list (pv 1)) (blkOk_by (N := ["_law_script", "_law_rows", "_law_low", "_law_room", "_law_row"]) (sc := defScope s__law_seats) (own := [("_law_row", 4)]) (by decide +kernel)) (fun _ _ _ _ _ => pg_name (i := 4) sc__law_seats.nd rfl (Or.inl rfl)) (fun _ _ _ _ _ => pts_nil) (fun _ _ _ _ _ => (pe_ix (ix_tupK (K := K) rfl) (pv 4) pe_int (fun _ _ => rfl)))) pa_nil)))
      (pss_cons (ps_set (i := 3) sc__law_seats.nd rfl (Or.inl rfl) (pe_callB (call_min2 rfl) (by rfl) Z.min bt_min (pa_cons pe_int (pa_cons (pe_op op_sub (pe_callB (cr_sumK (K := K) rfl rfl) (by rfl) Z.sum bt_sum (pa_cons (pe_lc (own := [("_law_row", 4)]) (g := gName 4) (tt := tYes) rfl sc__law_seats.nd (pi_list (pv 1)) (blkOk_by (N := ["_law_script", "_law_rows", "_law_low", "_law_room", "_law_row"]) (sc := defScope s__law_seats) (own := [("_law_row", 4)]) (by decide +kernel)) (fun _ _ _ _ _ => pg_name (i := 4) sc__law_seats.nd rfl (Or.inl rfl)) (fun _ _ _ _ _ => pts_nil) (fun _ _ _ _ _ => (pe_ix (ix_tupK (K := K) rfl) (pv 4) pe_int (fun _ _ => rfl)))) pa_nil)) (pv 2)) pa_nil))))
      (pss_one (ps_ret (pe_op op_add (pv 2) (pe_op op_mod (pc O__law_mixed (hr.mono (by decide)) passL (pa_cons (pe_op op_mod (pe_callB (cr_sumK (K := K) rfl rfl) (by rfl) Z.sum bt_sum (pa_cons (pv 0) pa_nil)) (pe_op op_pow pe_int pe_int)) (pa_cons pe_int pa_nil))) (pe_op op_add (pv 3) pe_int)))))))), ?_⟩
    obtain ⟨a, p, ns, xs, rs, rfl, hS, hR, hg, q⟩ := h
    have hl : rs.length ≤ 1000 := Nat.le_trans hg.2.1 (by decide)
    have lc := low_cap hg.2.2
    refine ⟨.ref p, rfl, p, rfl, ⟨_, hR.l⟩, fun D1 n1 => lc_col (k := 1) hR (by decide) (show 4 < 5 by decide) hl n1 fun H1 s1 e1 => ⟨D1, lows rs, rfl, sqL e1, ?_⟩⟩
    refine ⟨.ref p, rfl, p, rfl, ⟨_, (hR.same s1).l⟩, fun D2 n2 => lc_col (k := 2) (hR.same s1) (by decide) (show 4 < 5 by decide) hl n2 fun H2 s2 e2 => ⟨D2, caps rs, rfl, sqL e2, _, rfl, _, _, rfl, rfl, 60, _, rfl, ?_⟩⟩
    have s12 := s1.trans s2
    have hm : 0 ≤ (if (caps rs).sum - (lows rs).sum < 60 then (caps rs).sum - (lows rs).sum else 60) ∧ (if (caps rs).sum - (lows rs).sum < 60 then (caps rs).sum - (lows rs).sum else 60) ≤ 60 ∧ (if (caps rs).sum - (lows rs).sum < 60 then (caps rs).sum - (lows rs).sum else 60) ≤ (caps rs).sum - (lows rs).sum := by
      split <;> omega
    refine ⟨_, rfl, _, rfl, a, ns, rfl, same_seq s12 hS, 10, 40, rfl, rfl, ⟨by decide, by decide, by decide⟩, _, _, rfl, rfl, (show (0 : Int) < 10 ^ 40 by decide), _, 57, rfl, by decide, by decide, _, rfl, _, 1, rfl, rfl, _, _, rfl, rfl, (show (0 : Int) < (if (caps rs).sum - (lows rs).sum < 60 then (caps rs).sum - (lows rs).sum else 60) + 1 by omega), _, _, rfl, rfl, ?_⟩
    have v0 := Int.emod_nonneg (mixed (ns.sum % 10 ^ Int.toNat 40) 57) (show (if (caps rs).sum - (lows rs).sum < 60 then (caps rs).sum - (lows rs).sum else 60) + 1 ≠ 0 by omega)
    have v1 := Int.emod_lt_of_pos (mixed (ns.sum % 10 ^ Int.toNat 40) 57) (show 0 < (if (caps rs).sum - (lows rs).sum < 60 then (caps rs).sum - (lows rs).sum else 60) + 1 by omega)
    exact q H2 _ s12 (by omega) (by omega) (by omega)
end
end SS

namespace SS
open PySem PySem.Spec PyProof.Rows L2 LamX
section
variable {P : Program} {w : World} {K : PySem.W.Frag} {mg : Str → Option Value} {base : Heap}
abbrev s_are_seats : Stmt := topS 31
theorem sc_are_seats : FnScope ["rows", "found", "many", "row"] ["rows", "found"] (defScope s_are_seats) := ⟨rfl, rfl, rfl, by decide +kernel, rfl, by decide +kernel, by decide +kernel⟩
def sp_are_seats (K : PySem.W.Frag) : Sp := fun vs H Q _ => ∃ (p : Addr) (v : V) (d : PyData) (xs : List V) (rs : List Row), vs = [.ref p, v] ∧ Rws K H p xs rs ∧ rs.length ≤ 1000 ∧ Dz K H v d ∧ ∀ H', Same H H' → Q (.bl (areSeatsD rs d)) H'
theorem all_idS {α : Type} (f : α → Bool) : ∀ l : List α, (l.map f).all id = l.all f
  | [] => rfl
  | x :: r => by
    rw [List.map_cons, List.all_cons, List.all_cons, all_idS f r]
    rfl
theorem ok_are_seats (Z : BZ mg) (O_is_whole : OkF P w K mg base 1 "is_whole" ["thing", "least", "most"] (sp_is_whole K)) (D : DefAt K mg "are_seats" s_are_seats) : OkF P w K mg base 2 "are_seats" ["rows", "found"] (sp_are_seats K) := by
  refine OkF.mk' D sc_are_seats (fun _ _ _ _ _ _ us hl => match us, hl with | [_, _], _ => rfl) (fun vs H Q E h => ?_) (fun f cdv A outer s H vs Q E hr h => ?_)
  · first | (obtain ⟨_, rfl, _⟩ := h; rfl) | (obtain ⟨_, _, rfl, _⟩ := h; rfl) | (obtain ⟨_, _, _, rfl, _⟩ := h; rfl) | (obtain ⟨_, _, _, _, rfl, _⟩ := h; rfl) | (obtain ⟨_, _, _, _, _, rfl, _⟩ := h; rfl) | (obtain ⟨_, _, _, _, _, _, rfl, _⟩ := h; rfl) | (obtain ⟨_, _, _, _, _, _, _, rfl, _⟩ := h; rfl) | (obtain ⟨_, _, _, _, _, _, _, _, rfl, _⟩ := h; rfl) | (obtain ⟨_, _, _, _, _, _, _, _, _, rfl, _⟩ := h; rfl) | (obtain ⟨_, _, _, _, _, _, _, _, _, _, rfl, _⟩ := h; rfl) | (obtain ⟨_, _, _, _, _, _, _, _, _, _, _, rfl, _⟩ := h; rfl) | (obtain ⟨_, _, _, _, _, _, _, _, _, _, _, _, rfl, _⟩ := h; rfl) | (obtain ⟨_, _, _, _, _, _, _, _, _, _, _, _, _, rfl, _⟩ := h; rfl) | (obtain ⟨_, _, _, _, _, _, _, _, _, _, _, _, _, _, rfl, _⟩ := h; rfl)
  · refine ⟨_, PSs.nox ((pss_cons (ps_if (PW.pt (pw_or (pt_not (pt_val (pe_callB (call_isAK (K := K) rfl) (by rfl) Z.isinstance bt_isinstance (pa_cons (pv 1) (pa_cons (pe_bltn (v := .ty "list") (by rfl) Z.list bt_list rfl) pa_nil))))) (pw_or1 (pt_cmpR op_ne (pe_callB (call_len_seqK (K := K) rfl) (by rfl) Z.len bt_len (pa_cons (pv 1) pa_nil)) (pe_callB (call_len_seqK (K := K) rfl) (by rfl) Z.len bt_len (pa_cons (pv 0) pa_nil)) (nomark _))))) (pss_one (ps_ret pe_bl)) pss_nil)
      (pss_one (ps_ret (pe_callB (cr_allK (K := K) rfl rfl) (by rfl) Z.all bt_all (pa_cons (pe_lc (own := [("many", 2), ("row", 3)]) (g := gTup _ 2 (gCons (gName 2) (gCons (gName 3) gNil))) (tt := tYes) rfl sc_are_seats.nd (pi_zip (by rfl) Z.zip (pa_cons (pv 1) (pa_cons (pv 0) pa_nil))) (blkOk_by (N := ["rows", "found", "many", "row"]) (sc := defScope s_are_seats) (own := [("many", 2), ("row", 3)]) (by decide +kernel)) (fun _ _ _ _ _ => pg_tup rfl (pgs_cons (pg_name (i := 2) sc_are_seats.nd rfl (Or.inl rfl)) (pgs_cons (pg_name (i := 3) sc_are_seats.nd rfl (Or.inl rfl)) pgs_nil))) (fun _ _ _ _ _ => pts_nil) (fun _ _ _ _ _ => (pc O_is_whole (hr.mono (by decide)) passL (pa_cons (pv 2) (pa_cons (pe_ix (ix_tupK (K := K) rfl) (pv 3) pe_int (fun _ _ => rfl)) (pa_cons (pe_ix (ix_tupK (K := K) rfl) (pv 3) pe_int (fun _ _ => rfl)) pa_nil)))))) pa_nil)))))), ?_⟩
    obtain ⟨p, v, d, xs, rs, rfl, hR, hl, hd, q⟩ := h
    refine ⟨_, rfl, isi_lst hd ⟨_, rfl, ?_⟩⟩
    cases hT : isLstD d with
    | false =>
      rw [areSeatsD_other hT] at q
      exact iteT (q H (Same.refl H))
    | true =>
      refine iteF ?_
      cases d with
      | list ds =>
        obtain ⟨a, us, rfl, hS, hA⟩ : ∃ a us, v = .ref a ∧ SqL K H a us ∧ DpAll K H us ds := by
          rcases hd with hd | ⟨hd, _⟩
          · cases hd with
            | lst h1 h2 => exact ⟨_, _, rfl, h1, h2⟩
          · cases hd
        have hlen := dpa_len hA
        have hn := hR.n
        rw [areSeatsD_def] at q
        refine ⟨_, rfl, a, us, rfl, .inl hS, _, rfl, p, xs, rfl, .inl hR.l, rfl, _, rfl, ifNI (fun e => ?_) (fun e => ?_)⟩
        · rw [decide_eq_false (fun z => e (by omega)), Bool.false_and] at q
          exact q H (Same.refl H)
        · have el : ds.length = rs.length := by omega
          rw [decide_eq_true el, Bool.true_and] at q
          have zl : (List.zip ds rs).length = rs.length := by rw [List.length_zip, el, Nat.min_self]
          have hmin : min us.length xs.length = rs.length := by omega
          refine ⟨_, rfl, _, rfl, a, p, us, xs, rfl, hS, hR.l, fun D nD => lc_it (walk_zip (xs := us) (ys := xs) (n := min us.length xs.length) rfl) (fun i H' => Same H H' ∧ H' D = some (.lst ((((List.zip ds rs).take i).map seatB).map V.bl))) ⟨same_new nD, upd_same⟩ (fun i H' _ ⟨s, _⟩ => ⟨same_seq s hS, (hR.same s).l⟩) (fun i x H1 H' hi ⟨s, e⟩ hy => ?_) (fun H' ⟨s, e⟩ => ?_)⟩
          · obtain ⟨T, v1, v2, rfl, nT, rfl, e1, e2⟩ := hy
            obtain ⟨dx, ex, hdx⟩ := dpa_getV (dpa_ext (ext_of s) hA) e1
            obtain ⟨r, b, hr, rfl, hb⟩ := (hR.same s).getV e2
            have sT := same_new (o := .tup [v1, .ref b]) nT
            have hbT := same_tup sT hb
            refine ⟨T, _, rfl, sqT upd_same, rfl, _, _, rfl, _, _, rfl, rfl, rfl, ?_⟩
            refine ⟨_, rfl, _, rfl, b, _, 1, _, rfl, rfl, hbT, atI_nat (j := 1) rfl, _, rfl, b, _, 2, _, rfl, rfl, hbT, atI_nat (j := 2) rfl, v1, dx, r.2.1, r.2.2, rfl, .inl (dp_same sT hdx), ?_⟩
            refine ⟨_, sT _ _ e, szl ?_, same_mut (s.trans sT) nD, ?_⟩
            · rw [List.length_map, List.length_map, List.length_take]
              omega
            · have hz : (List.zip ds rs)[i]? = some (dx, r) := List.getElem?_zip_eq_some.mpr ⟨ex, hr⟩
              rw [upd_same, List.take_add_one, hz, List.map_append, List.map_append]
              rfl
          · rw [hmin, ← zl, List.take_length] at e
            refine ⟨D, _, rfl, sqL e, ?_⟩
            rw [all_idS]
            exact q H' s
      | _ => cases hT
abbrev s_is_right : Stmt := topS 32
theorem sc_is_right : FnScope ["way", "lists", "found", "rows", "wanting", "row", "many", "place", "other"] ["way", "lists", "found"] (defScope s_is_right) := ⟨rfl, rfl, rfl, by decide +kernel, rfl, by decide +kernel, by decide +kernel⟩
structure IsRightP (K : PySem.W.Frag) (vs : List V) (H : Hp) (Q : VK) (E : XK) : Prop where
  h : ∃ (v1 v2 v3 : V) (dw dl df : PyData), vs = [v1, v2, v3] ∧ Dz K H v1 dw ∧ Dz K H v2 dl ∧ Dz K H v3 df ∧
  (isWay dw = false → ∀ H', Same H H' → E (.ref (He.ga K "BadWay")) none H') ∧
  (isWay dw = true → areListsD dl = false → ∀ H', Same H H' → E (.ref (He.ga K "BadLists")) none H') ∧
  (∀ (w : Str) (rs : List Row), w ∈ ways → dw = .str w → dl = rowsD rs → Good rs → ∀ H', Same H H' → Q (.bl (isRightD w rs df)) H')
def sp_is_right (K : PySem.W.Frag) : Sp := fun vs H Q E => IsRightP K vs H Q E
theorem is_right_good {K : PySem.W.Frag} {H : Hp} {Q : VK} {E : XK} {wy : Str} {p : Addr} {xs : List V} {rs : List Row} {v : V} {d : PyData} (hw : wy ∈ ways) (hR : Rws K H p xs rs) (hg : Good rs) (hd : Dz K H v d)
    (q : ∀ H', Same H H' → Q (.bl (isRightD wy rs d)) H') : sp_is_right K [.str wy, .ref p, v] H Q E := by
  have isw : isWay (.str wy) = true := decide_eq_true hw
  have isl := areListsD_rows hg
  refine ⟨_, _, _, .str wy, rowsD rs, d, rfl, .inl (.str _), .inl hR.dp, hd, fun z => absurd (isw.symm.trans z) (by decide), fun _ z => absurd (isl.symm.trans z) (by decide), fun w' rs' hw' e1 e2 hg' => ?_⟩
  cases e1
  obtain rfl := rowsD_inj e2
  exact q
theorem any_idS {α : Type} (f : α → Bool) : ∀ l : List α, (l.map f).any id = l.any f
  | [] => rfl
  | x :: r => by
    rw [List.map_cons, List.any_cons, List.any_cons, any_idS f r]
    rfl
theorem okB_gt {w : Str} {rs : List Row} {f : List Int} {k : Nat} (h : (rowAt rs k).2.1 < f.getD k 0) : okB w rs f k = !((opens rs f).any fun j => above (nxt w rs f j) (lst w rs f k)) := by
  unfold okB
  rw [decide_eq_false (by omega), Bool.false_or, List.not_any_eq_all_not]
theorem ok_is_right (Z : BZ mg) (O_need_way : OkF P w K mg base 1 "need_way" ["way"] (sp_need_way K)) (O_need_lists : OkF P w K mg base 4 "need_lists" ["thing"] (sp_need_lists K)) (O_are_seats : OkF P w K mg base 2 "are_seats" ["rows", "found"] (sp_are_seats K)) (O_open_places : OkF P w K mg base 1 "open_places" ["rows", "found"] (sp_open_places K)) (O_claim : OkF P w K mg base 2 "claim" ["way", "row", "count"] (sp_claim K)) (O_is_above : OkF P w K mg base 1 "is_above" ["one", "other"] (sp_is_above K)) (D : DefAt K mg "is_right" s_is_right) : OkF P w K mg base 5 "is_right" ["way", "lists", "found"] (sp_is_right K) := by
  refine OkF.mk' D sc_is_right (fun _ _ _ _ _ _ us hl => match us, hl with | [_, _, _], _ => rfl) (fun vs H Q E h => ?_) (fun f cdv A outer s H vs Q E hr h => ?_)
  · first | (obtain ⟨_, rfl, _⟩ := h; rfl) | (obtain ⟨_, _, rfl, _⟩ := h; rfl) | (obtain ⟨_, _, _, rfl, _⟩ := h; rfl) | (obtain ⟨_, _, _, _, rfl, _⟩ := h; rfl) | (obtain ⟨_, _, _, _, _, rfl, _⟩ := h; rfl) | (obtain ⟨_, _, _, _, _, _, rfl, _⟩ := h; rfl) | (obtain ⟨_, _, _, _, _, _, _, rfl, _⟩ := h; rfl) | (obtain ⟨_, _, _, _, _, _, _, _, rfl, _⟩ := h; rfl) | (obtain ⟨_, _, _, _, _, _, _, _, _, rfl, _⟩ := h; rfl) | (obtain ⟨_, _, _, _, _, _, _, _, _, _, rfl, _⟩ := h; rfl) | (obtain ⟨_, _, _, _, _, _, _, _, _, _, _, rfl, _⟩ := h; rfl) | (obtain ⟨_, _, _, _, _, _, _, _, _, _, _, _, rfl, _⟩ := h; rfl) | (obtain ⟨_, _, _, _, _, _, _, _, _, _, _, _, _, rfl, _⟩ := h; rfl) | (obtain ⟨_, _, _, _, _, _, _, _, _, _, _, _, _, _, rfl, _⟩ := h; rfl)
  · refine ⟨_, id ((pss_cons (ps_expr (pc O_need_way (hr.mono (by decide)) (passes_call (takes_of rfl rfl rfl rfl) (fun _ _ _ _ h => h)) (pa_cons (pv 0) pa_nil)))
      (pss_cons (ps_set (i := 3) sc_is_right.nd rfl (Or.inr rfl) (pc O_need_lists (hr.mono (by decide)) (passes_call (takes_of rfl rfl rfl rfl) (fun _ _ _ _ h => h)) (pa_cons (pv 1) pa_nil)))
      (Evl.pss_cut (ps_if (pt_not (pt_val (pc O_are_seats (hr.mono (by decide)) passL (pa_cons (pv 3) (pa_cons (pv 2) pa_nil))))) (pss_one (ps_ret pe_bl)) pss_nil)
      (pss_cons (ps_setLc (i := 4) (own := [("place", 7)]) (g := gName 7) (tt := tYes) rfl sc_is_right.nd rfl rfl (sw_true rfl rfl rfl (by decide +kernel)) (pi_list (pc O_open_places (hr.mono (by decide)) passL (pa_cons (pv 3) (pa_cons (pv 2) pa_nil)))) (blkOk_by (N := ["way", "lists", "found", "rows", "wanting", "row", "many", "place", "other"]) (sc := defScope s_is_right) (own := [("place", 7)]) (by decide +kernel)) (fun _ _ _ _ _ => pg_name (i := 7) sc_is_right.nd rfl (Or.inl rfl)) (fun _ _ _ _ _ => pts_nil) (fun _ _ _ _ _ => (pc O_claim (hr.mono (by decide)) passL (pa_cons (pv 0) (pa_cons (pe_ix (ix_listK (K := K) rfl) (pv 3) (pv 7) (fun _ _ => rfl)) (pa_cons (pe_op op_add (pe_ix (ix_listK (K := K) rfl) (pv 2) (pv 7) (fun _ _ => rfl)) pe_int) pa_nil))))))
      (pss_cons (ps_for (passes_of rfl) rfl (pi_zip (by rfl) Z.zip (pa_cons (pv 3) (pa_cons (pv 2) pa_nil))) (pg_tup rfl (pgs_cons (pg_name (i := 5) sc_is_right.nd rfl (Or.inr rfl)) (pgs_cons (pg_name (i := 6) sc_is_right.nd rfl (Or.inr rfl)) pgs_nil))) (pss_one (ps_if (PW.pt (pw_and (pt_cmpR op_gt (pv 6) (pe_ix (ix_tupK (K := K) rfl) (pv 5) pe_int (fun _ _ => rfl)) (nomark _)) (pw_and1 (pt_val (pe_callB (cr_anyK (K := K) rfl rfl) (by rfl) Z.any bt_any (pa_cons (pe_lc (own := [("other", 8)]) (g := gName 8) (tt := tYes) rfl sc_is_right.nd (pi_list (pv 4)) (blkOk_by (N := ["way", "lists", "found", "rows", "wanting", "row", "many", "place", "other"]) (sc := defScope s_is_right) (own := [("other", 8)]) (by decide +kernel)) (fun _ _ _ _ _ => pg_name (i := 8) sc_is_right.nd rfl (Or.inl rfl)) (fun _ _ _ _ _ => pts_nil) (fun _ _ _ _ _ => (pc O_is_above (hr.mono (by decide)) passL (pa_cons (pv 8) (pa_cons (pc O_claim (hr.mono (by decide)) passL (pa_cons (pv 0) (pa_cons (pv 5) (pa_cons (pv 6) pa_nil)))) pa_nil))))) pa_nil)))))) (pss_one (ps_ret pe_bl)) pss_nil)))
      (pss_one (ps_ret pe_bl)))))))), ?_⟩
    obtain ⟨⟨v1, v2, v3, dw, dl, df, rfl, h1, h2, h3, q1, q2, q3⟩⟩ := h
    refine ⟨_, rfl, v1, dw, rfl, h1, fun e1 => ?_, fun e1 => q1 e1 H (Same.refl H)⟩
    obtain ⟨wy, rfl, hw⟩ := isWay_is e1
    obtain rfl := dz_str h1
    refine ⟨_, rfl, v2, dl, rfl, h2, fun e2 => q2 e1 e2, fun rs p xs hd hg hv hR H1 p1 s1 np1 ep1 => ?_⟩
    subst hd hv
    have q4 := q3 wy rs hw rfl rfl hg
    have hR1 : Rws K H1 p1 xs rs := ⟨sqL ep1, hR.n, fun i x r hx hr => rw_same s1 (hR.at_ i x r hx hr)⟩
    have hl1 : rs.length ≤ 1000 := Nat.le_trans hg.2.1 (by decide)
    refine ⟨fun σ' H' => ∃ (fp : Addr) (fs : List Int), v3 = .ref fp ∧ df = .list (fs.map PyData.int) ∧ σ' = [some (V.str wy), some (V.ref p), some v3, some (V.ref p1), none, none, none, none, none] ∧ Same H1 H' ∧ SqL K H1 fp (fs.map V.int) ∧ areSeatsD rs df = true ∧ fs.length = rs.length ∧ ∀ i < rs.length, (rowAt rs i).2.1 ≤ fs.getD i 0 ∧ fs.getD i 0 ≤ (rowAt rs i).2.2, ?_, ?_⟩
    · refine ⟨_, rfl, _, rfl, p1, v3, df, xs, rs, rfl, hR1, hl1, dz_same s1 h3, fun H2 s2 => ⟨_, rfl, iteNB (fun e => ?_) (fun e => ?_)⟩⟩
      · rw [isRightD_no e] at q4
        exact q4 H2 (s1.trans s2)
      · obtain ⟨fs, rfl, hfl, hfb⟩ := areSeatsD_is e
        obtain ⟨fp, us, rfl, hS, hA⟩ : ∃ a us, v3 = .ref a ∧ SqL K H a us ∧ DpAll K H us (fs.map PyData.int) := by
          rcases h3 with hd | ⟨hd, _⟩
          · cases hd with
            | lst h1 h2 => exact ⟨_, _, rfl, h1, h2⟩
          · cases hd
        have hus : us = fs.map V.int := by
          have hlen := dpa_len hA
          rw [List.length_map] at hlen
          refine List.ext_getElem? fun i => ?_
          by_cases hi : i < fs.length
          · obtain ⟨v, hv, hdp⟩ := dpa_get hA (i := i) (d := .int (fs.getD i 0)) (by rw [List.getElem?_map, List.getD_eq_getElem?_getD, List.getElem?_eq_getElem hi]; rfl)
            rw [hv, map_get hi]
            cases hdp
            rfl
          · rw [List.getElem?_eq_none (by omega), List.getElem?_eq_none (by rw [List.length_map]; omega)]
        rw [hus] at hS
        exact ⟨fp, fs, rfl, rfl, rfl, s2, same_seq s1 hS, e, hfl, hfb⟩
    rintro σ' H2 ⟨fp, fs, rfl, rfl, rfl, s2, hF, hAS, hfl, hfb⟩
    rw [isRightD_ints hAS] at q4
    have hR2 := hR1.same s2
    have hF2 := same_seq s2 hF
    have cnt : ∀ i < rs.length, 0 ≤ fs.getD i 0 ∧ fs.getD i 0 ≤ 200 := fun i hi => by
      have b := hfb i hi
      obtain ⟨_, _, g0, _, g2⟩ := row_good hg.2.2 hi
      omega
    refine ⟨_, rfl, _, rfl, p1, fp, xs, rs, fs, rfl, hR2, hl1, hF2, hfl, fun H3 D3 s3 n3 e3 => ?_⟩
    refine ⟨D3, rfl, ⟨_, sqL e3⟩, fun M nM => lc_list (K := K) (a := D3) (xs := natsV (opens rs fs)) (fun j H' => Same H3 H' ∧ ∃ ys, H' M = some (.lst ys) ∧ Prs K H' M ys (((opens rs fs).take j).map (nxt wy rs fs))) ⟨same_new nM, [], upd_same, prs_nil upd_same⟩ (fun j H' _ ⟨s, _⟩ => sqL (s _ _ e3)) (fun j x H' hx ⟨s4, ys, em, hP⟩ => ?_) (fun H4 ⟨s4, ys, e4, hP⟩ => ?_)⟩
    · obtain ⟨k, hk, rfl⟩ := natsV_at hx
      have kl := opens_lt (List.mem_of_getElem? hk)
      have hR4 := (hR2.same s3).same s4
      obtain ⟨b, hb, hTb⟩ := hR4.get (row_get kl)
      have hF4 := same_seq (s3.trans s4) hF2
      refine ⟨rfl, _, rfl, _, rfl, _, rfl, p1, _, (k : Int), .ref b, rfl, rfl, hR4.l, atI_nat hb, _, rfl, _, rfl, fp, _, (k : Int), _, rfl, rfl, hF4, int_ix (by rw [hfl]; exact kl), _, 1, rfl, rfl, wy, b, fs.getD k 0 + 1, rowAt rs k, rfl, hTb, fun H5 t s5 nt et => ?_⟩
      have hl := hP.n
      rw [List.length_map, List.length_take] at hl
      have ol := opens_len (rs := rs) (f := fs)
      refine ⟨ys, s5 _ _ em, szl (by omega), same_mut (s4.trans s5) nM, _, upd_same, ?_⟩
      rw [List.take_add_one, hk, List.map_append]
      exact prs_snoc (c := nxt wy rs fs k) (hP.same s5) (s5 _ _ em) (sqT et)
    rw [natsV_len, List.take_length] at hP
    have s24 := s3.trans s4
    have hR4 := hR2.same s24
    have hF4 := same_seq s24 hF2
    have hmin : min xs.length (fs.map V.int).length = rs.length := by
      rw [List.length_map, hfl, hR2.n, Nat.min_self]
    refine ⟨_, rfl, _, rfl, p1, fp, xs, fs.map V.int, rfl, hR4.l, hF4, for_it (walk_zip (xs := xs) (ys := fs.map V.int) (n := min xs.length (fs.map V.int).length) rfl) (fun i σ H' => ∃ x5 x6, σ = [some (V.str wy), some (V.ref p), some (V.ref fp), some (V.ref p1), some (V.ref M), x5, x6, none, none] ∧ Same H4 H' ∧ ∀ k < i, okB wy rs fs k = true)
      ⟨none, none, rfl, Same.refl _, fun k hk => absurd hk (Nat.not_lt_zero _)⟩ (fun i σ H' _ ⟨_, _, _, s, _⟩ => ⟨(hR4.same s).l, same_seq s hF4⟩) (fun i x σ H5 H' hi ⟨x5, x6, hσ, s5, hok⟩ hy => ?_) (fun σ H' ⟨x5, x6, hσ, s5, hok⟩ => ?_)⟩
    · subst hσ
      obtain ⟨T, v1, v2, rfl, nT, rfl, e1, e2⟩ := hy
      obtain ⟨r, b, hr, rfl, hb⟩ := (hR4.same s5).getV e1
      obtain ⟨m, rfl, hm⟩ := int_at e2
      have hmg : m = fs.getD i 0 := by rw [List.getD_eq_getElem?_getD, hm]; rfl
      have er := rowAt_of hr
      have hir := (List.getElem?_eq_some_iff.mp hr).1
      have gr := row_good hg.2.2 hir
      have sT := same_new (o := .tup [V.ref b, .int m]) nT
      have s5T := s5.trans sT
      have hbT := same_tup sT hb
      refine ⟨T, _, rfl, sqT upd_same, rfl, _, _, rfl, _, _, rfl, rfl, ?_⟩
      refine ⟨_, rfl, _, rfl, b, _, 1, _, rfl, rfl, hbT, atI_nat (j := 1) rfl, _, _, rfl, rfl, _, rfl, ifD (fun hgt => ?_) (fun hgt => iteF ⟨_, _, rfl, s5T, fun k hk => ?_⟩)⟩
      · have hgt2 : (rowAt rs i).2.1 < fs.getD i 0 := by rw [er, ← hmg]; exact hgt
        have hlo := gr.2.2.1
        have hc := cnt i hir
        have hP5 := hP.same s5T
        refine ⟨.ref M, rfl, M, rfl, ⟨_, hP5.l⟩, fun B nB => lc_list (K := K) (a := M) (xs := ys) (fun j H'' => Same (upd H5 T (.tup [V.ref b, .int m])) H'' ∧ H'' B = some (.lst ((((opens rs fs).take j).map fun k => above (nxt wy rs fs k) (lst wy rs fs i)).map V.bl))) ⟨same_new nB, upd_same⟩ (fun j H'' _ ⟨s, _⟩ => (hP5.same s).l) (fun j x H'' hx ⟨s6, e6⟩ => ?_) (fun H6 ⟨s6, e6⟩ => ?_)⟩
        · obtain ⟨c, b2, hc2, rfl, hb2⟩ := (hP5.same s6).getV hx
          rw [List.getElem?_map] at hc2
          cases hok2 : (opens rs fs)[j]? with
          | none => rw [hok2] at hc2; cases hc2
          | some k =>
            rw [hok2] at hc2
            cases hc2
            have kl := opens_lt (List.mem_of_getElem? hok2)
            have ck := cnt k kl
            refine ⟨rfl, _, rfl, _, rfl, _, rfl, _, rfl, wy, b, m, r, rfl, same_tup s6 hbT, fun H7 t7 s7 n7 e7 => ?_⟩
            have eL : cl wy r m = lst wy rs fs i := by
              unfold lst
              rw [er, ← hmg]
            rw [eL] at e7
            refine ⟨b2, t7, nxt wy rs fs k, lst wy rs fs i, rfl, same_tup s7 hb2, sqT e7, cb_cl hw (row_good hg.2.2 kl) (by omega) (by omega), cb_cl hw gr (by omega) (by omega), _, s7 _ _ e6, szl ?_, same_mut (s6.trans s7) nB, ?_⟩
            · rw [List.length_map, List.length_map, List.length_take]
              have := opens_len (rs := rs) (f := fs)
              omega
            · rw [upd_same, List.take_add_one, hok2, List.map_append, List.map_append]
              rfl
        · have hyl := hP.n
          rw [List.length_map] at hyl
          rw [hyl, List.take_length] at e6
          refine ⟨B, _, rfl, sqL e6, ?_⟩
          rw [any_idS]
          have eo := okB_gt (w := wy) hgt2
          refine ⟨_, rfl, iteB (fun ht => ?_) (fun hf => ⟨_, _, rfl, s5T.trans s6, fun k hk => ?_⟩)⟩
          · rw [ht] at eo
            rw [rightB_false hir eo] at q4
            exact q4 _ (((s1.trans s2).trans s24).trans (s5T.trans s6))
          · by_cases ek : k < i
            · exact hok k ek
            · have : k = i := by omega
              rw [this, eo, hf]
              rfl
      · by_cases ek : k < i
        · exact hok k ek
        · have : k = i := by omega
          rw [this]
          refine okB_iff.mpr fun z => ?_
          rw [er, ← hmg] at z
          exact absurd z hgt
    · subst hσ
      rw [hmin] at hok
      have e : rightB wy rs fs = true := by
        unfold rightB
        rw [List.all_eq_true]
        exact fun k hk => hok k (List.mem_range.mp hk)
      rw [e] at q4
      exact q4 _ (((s1.trans s2).trans s24).trans s5)
end
end SS

namespace SS
open PySem PySem.Spec PyProof.Rows L2 LamX
section
variable {P : Program} {w : World} {K : PySem.W.Frag} {mg : Str → Option Value} {base : Heap}
abbrev s__law_divisor : Stmt := topS 39
theorem sc__law_divisor : FnScope ["_law_way", "_law_count"] ["_law_way", "_law_count"] (defScope s__law_divisor) := ⟨rfl, rfl, rfl, by decide +kernel, rfl, by decide +kernel, by decide +kernel⟩
def sp__law_divisor (K : PySem.W.Frag) : Sp := fun vs H Q _ => ∃ (wy : Str) (c : Int), vs = [.str wy, .int c] ∧ wy ∈ ways ∧ ∀ H', Same H H' → Q (.int (dv wy c)) H'
def dvK (c : Int) : List (Key × V) := [(.inr "whole", .int c), (.inr "odd", .int (2 * c - 1)), (.inr "third", .int (3 * c - 2)), (.inr "early", .int (c - 1))]
theorem dvK_at {w : Str} (h : w ∈ ways) (hb : ¬ w = "bent") (c : Int) : valV (mergeK [] (dvK c)) (Sum.inr w) = some (.int (dv w c)) := by
  rcases ways_cases h with rfl | rfl | rfl | rfl | rfl
  · rw [dv_whole]; rfl
  · rw [dv_odd]; rfl
  · rw [dv_third]; rfl
  · rw [dv_early]; rfl
  · exact absurd rfl hb
theorem ok__law_divisor (Z : BZ mg) (D : DefAt K mg "_law_divisor" s__law_divisor) : OkF P w K mg base 1 "_law_divisor" ["_law_way", "_law_count"] (sp__law_divisor K) := by
  refine OkF.mk' D sc__law_divisor (fun _ _ _ _ _ _ us hl => match us, hl with | [_, _], _ => rfl) (fun vs H Q E h => ?_) (fun f cdv A outer s H vs Q E hr h => ?_)
  · first | (obtain ⟨_, rfl, _⟩ := h; rfl) | (obtain ⟨_, _, rfl, _⟩ := h; rfl) | (obtain ⟨_, _, _, rfl, _⟩ := h; rfl) | (obtain ⟨_, _, _, _, rfl, _⟩ := h; rfl) | (obtain ⟨_, _, _, _, _, rfl, _⟩ := h; rfl) | (obtain ⟨_, _, _, _, _, _, rfl, _⟩ := h; rfl) | (obtain ⟨_, _, _, _, _, _, _, rfl, _⟩ := h; rfl) | (obtain ⟨_, _, _, _, _, _, _, _, rfl, _⟩ := h; rfl) | (obtain ⟨_, _, _, _, _, _, _, _, _, rfl, _⟩ := h; rfl) | (obtain ⟨_, _, _, _, _, _, _, _, _, _, rfl, _⟩ := h; rfl) | (obtain ⟨_, _, _, _, _, _, _, _, _, _, _, rfl, _⟩ := h; rfl) | (obtain ⟨_, _, _, _, _, _, _, _, _, _, _, _, rfl, _⟩ := h; rfl) | (obtain ⟨_, _, _, _, _, _, _, _, _, _, _, _, _, rfl, _⟩ := h; rfl) | (obtain ⟨_, _, _, _, _, _, _, _, _, _, _, _, _, _, rfl, _⟩ := h; rfl)
  · refine ⟨_, PSs.nox ((pss_cons (ps_if (pt_cmpR op_eq (pv 0) pe_str (nomark _)) (pss_one (ps_ret (pe_ix (ix_listK (K := K) rfl) (pe_lst (pa_cons (pe_op op_sub (pe_op op_mul pe_int (pv 1)) pe_int) (pa_cons pe_int pa_nil))) (pe_callTy call_int1 (by rfl) Z.int bt_int (pa_cons (pe_cmpR op_eq (pv 1) pe_int (nomark _)) pa_nil)) (fun _ _ => rfl)))) pss_nil)
      (pss_one (ps_ret (pe_dget (hu_of hr) (pe_disp (pps_cons pe_str (pv 1) (pps_cons pe_str (pe_op op_sub (pe_op op_mul pe_int (pv 1)) pe_int) (pps_cons pe_str (pe_op op_sub (pe_op op_mul pe_int (pv 1)) pe_int) (pps_cons pe_str (pe_op op_sub (pv 1) pe_int) pps_nil)))) (by rfl) (by rfl) (fun z => by cases z) (by decide)) (pv 0) (fun _ _ => rfl)))))), ?_⟩
    obtain ⟨wy, c, rfl, hw, q⟩ := h
    refine ⟨_, rfl, rfl, _, rfl, ifS (fun e => ?_) (fun e => ?_)⟩
    · subst e
      refine ⟨_, rfl, 10, c, rfl, rfl, small_l (by decide), _, 5, rfl, rfl, sz (show 2 ≤ 100000 by decide), fun p np => ?_⟩
      refine ⟨_, rfl, rfl, .inr ⟨_, rfl, ?_⟩⟩
      have s := same_new (o := .lst [V.int (10 * c - 5), .int 7]) np
      have hq := q _ s
      rw [dv_bent] at hq
      by_cases e : c = 1
      · rw [if_pos e] at hq
        refine ⟨p, _, _, _, rfl, rfl, sqL upd_same, ?_, hq⟩
        rw [if_pos (by rw [decI]; exact e)]
        rfl
      · rw [if_neg e] at hq
        refine ⟨p, _, _, _, rfl, rfl, sqL upd_same, ?_, hq⟩
        rw [if_neg (by rw [decI]; exact e)]
        rfl
    · refine fun p np => ⟨_, rfl, _, rfl, 2, c, rfl, rfl, small_l (by decide), _, 1, rfl, rfl, _, rfl, 3, c, rfl, rfl, small_l (by decide), _, 2, rfl, rfl, _, rfl, _, 1, rfl, rfl, upd_same, dvK c, rfl, (show 4 ≤ 15 by decide), ?_⟩
      rw [upd_upd]
      exact ⟨_, rfl, p, .int (dv wy c), rfl, .inl ⟨_, .inr wy, .inl upd_same, rfl, (dvK_at hw e c).symm⟩, q _ (same_new np)⟩
abbrev s__law_rank : Stmt := topS 40
theorem sc__law_rank : FnScope ["_law_way", "_law_one", "_law_other", "_law_mine", "_law_yours"] ["_law_way", "_law_one", "_law_other"] (defScope s__law_rank) := ⟨rfl, rfl, rfl, by decide +kernel, rfl, by decide +kernel, by decide +kernel⟩
def sp__law_rank (K : PySem.W.Frag) : Sp := fun vs H Q _ => ∃ (wy : Str) (p q : Addr) (a b : Int × Int), vs = [.str wy, .ref p, .ref q] ∧ wy ∈ ways ∧ SqT K H p [.int a.1, .int a.2] ∧ SqT K H q [.int b.1, .int b.2] ∧ 1 ≤ a.2 ∧ a.2 ≤ 1000 ∧ 1 ≤ b.2 ∧ b.2 ≤ 1000 ∧ ∀ H', Same H H' → Q (.int (rank wy a b)) H'
theorem ok__law_rank (Z : BZ mg) (O__law_divisor : OkF P w K mg base 1 "_law_divisor" ["_law_way", "_law_count"] (sp__law_divisor K)) (D : DefAt K mg "_law_rank" s__law_rank) : OkF P w K mg base 2 "_law_rank" ["_law_way", "_law_one", "_law_other"] (sp__law_rank K) := by
  refine OkF.mk' D sc__law_rank (fun _ _ _ _ _ _ us hl => match us, hl with | [_, _, _], _ => rfl) (fun vs H Q E h => ?_) (fun f cdv A outer s H vs Q E hr h => ?_)
  · first | (obtain ⟨_, rfl, _⟩ := h; rfl) | (obtain ⟨_, _, rfl, _⟩ := h; rfl) | (obtain ⟨_, _, _, rfl, _⟩ := h; rfl) | (obtain ⟨_, _, _, _, rfl, _⟩ := h; rfl) | (obtain ⟨_, _, _, _, _, rfl, _⟩ := h; rfl) | (obtain ⟨_, _, _, _, _, _, rfl, _⟩ := h; rfl) | (obtain ⟨_, _, _, _, _, _, _, rfl, _⟩ := h; rfl) | (obtain ⟨_, _, _, _, _, _, _, _, rfl, _⟩ := h; rfl) | (obtain ⟨_, _, _, _, _, _, _, _, _, rfl, _⟩ := h; rfl) | (obtain ⟨_, _, _, _, _, _, _, _, _, _, rfl, _⟩ := h; rfl) | (obtain ⟨_, _, _, _, _, _, _, _, _, _, _, rfl, _⟩ := h; rfl) | (obtain ⟨_, _, _, _, _, _, _, _, _, _, _, _, rfl, _⟩ := h; rfl) | (obtain ⟨_, _, _, _, _, _, _, _, _, _, _, _, _, rfl, _⟩ := h; rfl) | (obtain ⟨_, _, _, _, _, _, _, _, _, _, _, _, _, _, rfl, _⟩ := h; rfl)
  · refine ⟨_, PSs.nox ((pss_cons (ps_set (i := 3) sc__law_rank.nd rfl (Or.inl rfl) (pe_op op_mul (pe_ix (ix_tupK (K := K) rfl) (pv 1) pe_int (fun _ _ => rfl)) (pc O__law_divisor (hr.mono (by decide)) passL (pa_cons (pv 0) (pa_cons (pe_ix (ix_tupK (K := K) rfl) (pv 2) pe_int (fun _ _ => rfl)) pa_nil)))))
      (pss_cons (ps_set (i := 4) sc__law_rank.nd rfl (Or.inl rfl) (pe_op op_mul (pe_ix (ix_tupK (K := K) rfl) (pv 2) pe_int (fun _ _ => rfl)) (pc O__law_divisor (hr.mono (by decide)) passL (pa_cons (pv 0) (pa_cons (pe_ix (ix_tupK (K := K) rfl) (pv 1) pe_int (fun _ _ => rfl)) pa_nil)))))
      (pss_one (ps_ret (pe_op op_sub (pe_callTy call_int1 (by rfl) Z.int bt_int (pa_cons (pe_cmpR op_gt (pv 3) (pv 4) (nomark _)) pa_nil)) (pe_callTy call_int1 (by rfl) Z.int bt_int (pa_cons (pe_cmpR op_lt (pv 3) (pv 4) (nomark _)) pa_nil)))))))), ?_⟩
    obtain ⟨wy, p, q', a, b, rfl, hw, ha, hb, a1, a2, b1, b2, q⟩ := h
    refine ⟨_, rfl, p, _, 0, _, rfl, rfl, ha, atI_nat (j := 0) rfl, _, rfl, _, rfl, q', _, 1, _, rfl, rfl, hb, atI_nat (j := 1) rfl, wy, b.2, rfl, hw, fun H1 s1 => ⟨_, _, rfl, rfl, dv_small hw b1 b2 _, ?_⟩⟩
    refine ⟨_, rfl, q', _, 0, _, rfl, rfl, same_tup s1 hb, atI_nat (j := 0) rfl, _, rfl, _, rfl, p, _, 1, _, rfl, rfl, same_tup s1 ha, atI_nat (j := 1) rfl, wy, a.2, rfl, hw, fun H2 s2 => ⟨_, _, rfl, rfl, dv_small hw a1 a2 _, ?_⟩⟩
    exact ⟨_, rfl, _, rfl, _, _, rfl, rfl, .inr ⟨_, rfl, _, rfl, _, rfl, _, _, rfl, rfl, .inr ⟨_, rfl, _, _, rfl, rfl, q H2 (s1.trans s2)⟩⟩⟩
abbrev s__law_is_right : Stmt := topS 42
theorem sc__law_is_right : FnScope ["_law_way", "_law_rows", "_law_found", "_law_row", "_law_many", "_law_k", "_law_j", "_law_other"] ["_law_way", "_law_rows", "_law_found"] (defScope s__law_is_right) := ⟨rfl, rfl, rfl, by decide +kernel, rfl, by decide +kernel, by decide +kernel⟩
def sp__law_is_right (K : PySem.W.Frag) : Sp := fun vs H Q _ => ∃ (wy : Str) (p : Addr) (v : V) (d : PyData) (xs : List V) (rs : List Row), vs = [.str wy, .ref p, v] ∧ wy ∈ ways ∧ Rws K H p xs rs ∧ Good rs ∧ Dz K H v d ∧ ∀ H', Same H H' → Q (.bl (isRightD wy rs d)) H'
theorem zip_false {ds : List PyData} {rs : List Row} {i : Nat} {dx : PyData} {r : Row} (h1 : ds[i]? = some dx) (h2 : rs[i]? = some r) (h : seatB (dx, r) = false) : areSeatsD rs (.list ds) = false := by
  rw [areSeatsD_def, ← Bool.not_eq_true, Bool.and_eq_true]
  rintro ⟨_, z⟩
  rw [List.all_eq_true] at z
  have hz : (List.zip ds rs)[i]? = some (dx, r) := List.getElem?_zip_eq_some.mpr ⟨h1, h2⟩
  rw [z _ (List.mem_of_getElem? hz)] at h
  cases h
theorem ok__law_is_right (Z : BZ mg) (O__law_rank : OkF P w K mg base 2 "_law_rank" ["_law_way", "_law_one", "_law_other"] (sp__law_rank K)) (D : DefAt K mg "_law_is_right" s__law_is_right) : OkF P w K mg base 3 "_law_is_right" ["_law_way", "_law_rows", "_law_found"] (sp__law_is_right K) := by
  refine OkF.mk' D sc__law_is_right (fun _ _ _ _ _ _ us hl => match us, hl with | [_, _, _], _ => rfl) (fun vs H Q E h => ?_) (fun f cdv A outer s H vs Q E hr h => ?_)
  · first | (obtain ⟨_, rfl, _⟩ := h; rfl) | (obtain ⟨_, _, rfl, _⟩ := h; rfl) | (obtain ⟨_, _, _, rfl, _⟩ := h; rfl) | (obtain ⟨_, _, _, _, rfl, _⟩ := h; rfl) | (obtain ⟨_, _, _, _, _, rfl, _⟩ := h; rfl) | (obtain ⟨_, _, _, _, _, _, rfl, _⟩ := h; rfl) | (obtain ⟨_, _, _, _, _, _, _, rfl, _⟩ := h; rfl) | (obtain ⟨_, _, _, _, _, _, _, _, rfl, _⟩ := h; rfl) | (obtain ⟨_, _, _, _, _, _, _, _, _, rfl, _⟩ := h; rfl) | (obtain ⟨_, _, _, _, _, _, _, _, _, _, rfl, _⟩ := h; rfl) | (obtain ⟨_, _, _, _, _, _, _, _, _, _, _, rfl, _⟩ := h; rfl) | (obtain ⟨_, _, _, _, _, _, _, _, _, _, _, _, rfl, _⟩ := h; rfl) | (obtain ⟨_, _, _, _, _, _, _, _, _, _, _, _, _, rfl, _⟩ := h; rfl) | (obtain ⟨_, _, _, _, _, _, _, _, _, _, _, _, _, _, rfl, _⟩ := h; rfl)
  · refine ⟨_, PSs.nox ((Evl.pss_cut (ps_if (PW.pt (pw_or (pt_not (pt_val (pe_callB (call_isAK (K := K) rfl) (by rfl) Z.isinstance bt_isinstance (pa_cons (pv 2) (pa_cons (pe_bltn (v := .ty "list") (by rfl) Z.list bt_list rfl) pa_nil))))) (pw_or1 (pt_cmpR op_ne (pe_callB (call_len_seqK (K := K) rfl) (by rfl) Z.len bt_len (pa_cons (pv 2) pa_nil)) (pe_callB (call_len_seqK (K := K) rfl) (by rfl) Z.len bt_len (pa_cons (pv 1) pa_nil)) (nomark _))))) (pss_one (ps_ret pe_bl)) pss_nil)
      (Evl.pss_cut (ps_for PassesOwn.never rfl (pi_zip (by rfl) Z.zip (pa_cons (pv 1) (pa_cons (pv 2) pa_nil))) (pg_tup rfl (pgs_cons (pg_name (i := 3) sc__law_is_right.nd rfl (Or.inl rfl)) (pgs_cons (pg_name (i := 4) sc__law_is_right.nd rfl (Or.inl rfl)) pgs_nil))) (pss_one (ps_if (PW.pt (pw_or (pt_not (pt_val (pe_callB (call_isAK (K := K) rfl) (by rfl) Z.isinstance bt_isinstance (pa_cons (pv 4) (pa_cons (pe_bltn (v := .ty "int") (by rfl) Z.int bt_int rfl) pa_nil))))) (pw_or (pt_val (pe_callB (call_isAK (K := K) rfl) (by rfl) Z.isinstance bt_isinstance (pa_cons (pv 4) (pa_cons (pe_bltn (v := .ty "bool") (by rfl) Z.bool bt_bool rfl) pa_nil)))) (pw_or1 (pt_not (pt_chain op_le op_le (pe_ix (ix_tupK (K := K) rfl) (pv 3) pe_int (fun _ _ => rfl)) (pv 4) (pe_ix (ix_tupK (K := K) rfl) (pv 3) pe_int (fun _ _ => rfl)))))))) (pss_one (ps_ret pe_bl)) pss_nil)))
      (Evl.pss_cut (ps_for PassesOwn.never rfl (pi_enum (by rfl) Z.enumerate (pa_cons (pv 1) pa_nil)) (pg_tup rfl (pgs_cons (pg_name (i := 5) sc__law_is_right.nd rfl (Or.inl rfl)) (pgs_cons (pg_name (i := 3) sc__law_is_right.nd rfl (Or.inl rfl)) pgs_nil))) (pss_one (ps_for PassesOwn.never rfl (pi_enum (by rfl) Z.enumerate (pa_cons (pv 1) pa_nil)) (pg_tup rfl (pgs_cons (pg_name (i := 6) sc__law_is_right.nd rfl (Or.inl rfl)) (pgs_cons (pg_name (i := 7) sc__law_is_right.nd rfl (Or.inl rfl)) pgs_nil))) (pss_one (ps_if (PW.pt (pw_and (pt_cmpR op_gt (pe_ix (ix_listK (K := K) rfl) (pv 2) (pv 5) (fun _ _ => rfl)) (pe_ix (ix_tupK (K := K) rfl) (pv 3) pe_int (fun _ _ => rfl)) (nomark _)) (pw_and1 (pt_cmpR op_lt (pe_ix (ix_listK (K := K) rfl) (pv 2) (pv 6) (fun _ _ => rfl)) (pe_ix (ix_tupK (K := K) rfl) (pv 7) pe_int (fun _ _ => rfl)) (nomark _))))) (pss_one (ps_if (pt_cmpR op_lt (pc O__law_rank (hr.mono (by decide)) passL (pa_cons (pv 0) (pa_cons (pe_tup (pa_cons (pe_ix (ix_tupK (K := K) rfl) (pv 3) pe_int (fun _ _ => rfl)) (pa_cons (pe_ix (ix_listK (K := K) rfl) (pv 2) (pv 5) (fun _ _ => rfl)) pa_nil))) (pa_cons (pe_tup (pa_cons (pe_ix (ix_tupK (K := K) rfl) (pv 7) pe_int (fun _ _ => rfl)) (pa_cons (pe_op op_add (pe_ix (ix_listK (K := K) rfl) (pv 2) (pv 6) (fun _ _ => rfl)) pe_int) pa_nil))) pa_nil)))) pe_int (nomark _)) (pss_one (ps_ret pe_bl)) pss_nil)) pss_nil)))))
      (pss_one (ps_ret pe_bl)))))), ?_⟩
    obtain ⟨wy, p, v, df, xs, rs, rfl, hw, hR, hg, hd, q⟩ := h
    have hn := hR.n
    refine ⟨fun σ' H' => ∃ (fp : Addr) (us : List V) (ds : List PyData), v = .ref fp ∧ df = .list ds ∧ σ' = [some (V.str wy), some (V.ref p), some v, none, none, none, none, none] ∧ H' = H ∧ SqL K H fp us ∧ DpAll K H us ds ∧ ds.length = rs.length, ?_, ?_⟩
    · refine ⟨_, rfl, isi_lst hd ⟨_, rfl, ?_⟩⟩
      cases hT : isLstD df with
      | false =>
        rw [isRightD_no (areSeatsD_other hT)] at q
        exact iteT (q H (Same.refl H))
      | true =>
        refine iteF ?_
        cases df with
        | list ds =>
          obtain ⟨a, us, rfl, hS, hA⟩ : ∃ a us, v = .ref a ∧ SqL K H a us ∧ DpAll K H us ds := by
            rcases hd with hd | ⟨hd, _⟩
            · cases hd with
              | lst h1 h2 => exact ⟨_, _, rfl, h1, h2⟩
            · cases hd
          have hlen := dpa_len hA
          refine ⟨_, rfl, a, us, rfl, .inl hS, _, rfl, p, xs, rfl, .inl hR.l, rfl, _, rfl, ifNI (fun e => ?_) (fun e => ?_)⟩
          · have e0 : areSeatsD rs (.list ds) = false := by
              rw [areSeatsD_def, decide_eq_false (fun z => e (by omega)), Bool.false_and]
            rw [isRightD_no e0] at q
            exact q H (Same.refl H)
          · exact ⟨a, us, ds, rfl, rfl, rfl, rfl, hS, hA, by omega⟩
        | _ => cases hT
    rintro σ' H' ⟨fp, us, ds, rfl, rfl, rfl, rfl, hF, hA, hdl⟩
    have hul := dpa_len hA
    have hmin : min xs.length us.length = rs.length := by omega
    refine ⟨fun σ' H'' => ∃ (fs : List Int) (x3 x4 : Option V), ds = fs.map PyData.int ∧ us = fs.map V.int ∧ σ' = [some (V.str wy), some (V.ref p), some (V.ref fp), x3, x4, none, none, none] ∧ Same H' H'' ∧ areSeatsD rs (.list (fs.map PyData.int)) = true ∧ fs.length = rs.length ∧ ∀ i < rs.length, (rowAt rs i).2.1 ≤ fs.getD i 0 ∧ fs.getD i 0 ≤ (rowAt rs i).2.2, ?_, ?_⟩
    · refine ⟨_, rfl, _, rfl, p, fp, xs, us, rfl, hR.l, hF, for_it (walk_zip (xs := xs) (ys := us) (n := min xs.length us.length) rfl) (fun i σ H'' => ∃ x3 x4, σ = [some (V.str wy), some (V.ref p), some (V.ref fp), x3, x4, none, none, none] ∧ Same H' H'' ∧ ∀ k < i, ∀ dx r, ds[k]? = some dx → rs[k]? = some r → seatB (dx, r) = true)
        ⟨none, none, rfl, Same.refl _, fun k hk => absurd hk (Nat.not_lt_zero _)⟩ (fun i σ H'' _ ⟨_, _, _, s, _⟩ => ⟨(hR.same s).l, same_seq s hF⟩) (fun i x σ H5 H'' hi ⟨x3, x4, hσ, s5, hok⟩ hy => ?_) (fun σ H'' ⟨x3, x4, hσ, s5, hok⟩ => ?_)⟩
      · subst hσ
        obtain ⟨T, v1, v2, rfl, nT, rfl, e1, e2⟩ := hy
        obtain ⟨r, b, hr, rfl, hb⟩ := (hR.same s5).getV e1
        obtain ⟨dx, ex, hdx⟩ := dpa_getV (dpa_ext (ext_of s5) hA) e2
        have sT := same_new (o := .tup [V.ref b, v2]) nT
        have hbT := same_tup sT hb
        have hdT := dp_same sT hdx
        have bad : seatB (dx, r) = false → ∀ Hx, Same H' Hx → Q (.bl false) Hx := fun hb Hx hs => by
          rw [isRightD_no (zip_false ex hr hb)] at q
          exact q Hx hs
        refine ⟨T, _, rfl, sqT upd_same, rfl, _, _, rfl, _, _, rfl, rfl, ?_⟩
        refine ⟨v2, rfl, isi_int (.inl hdT) ⟨_, rfl, ?_⟩⟩
        have go : seatB (dx, r) = true → ∃ x3 x4, [some (V.str wy), some (V.ref p), some (V.ref fp), some (V.ref b), some v2, none, none, none] = [some (V.str wy), some (V.ref p), some (V.ref fp), x3, x4, none, none, none] ∧ Same H' (upd H5 T (.tup [V.ref b, v2])) ∧ ∀ k < i + 1, ∀ dx r, ds[k]? = some dx → rs[k]? = some r → seatB (dx, r) = true := fun hb => ⟨_, _, rfl, s5.trans sT, fun k hk dx' r' h1 h2 => by
          by_cases ek : k < i
          · exact hok k ek dx' r' h1 h2
          · have ek2 : k = i := by omega
            rw [ek2, ex] at h1
            rw [ek2, hr] at h2
            cases h1
            cases h2
            exact hb⟩
        cases dx with
        | int m =>
          obtain rfl : v2 = .int m := by
            cases hdT
            rfl
          refine iteF ⟨_, rfl, isi_bool (d := .int m) (.inl (.int _)) ⟨_, rfl, iteF ?_⟩⟩
          refine ⟨_, rfl, b, _, 1, _, rfl, rfl, hbT, atI_nat (j := 1) rfl, _, rfl, _, _, rfl, rfl, _, rfl, ifD (fun c1 => ?_) (fun c1 => ?_)⟩
          · refine ⟨_, rfl, b, _, 2, _, rfl, rfl, hbT, atI_nat (j := 2) rfl, _, _, rfl, rfl, _, rfl, ifND (fun c2 => ?_) (fun c2 => ?_)⟩
            · exact bad (by
                show (decide (r.2.1 ≤ m) && decide (m ≤ r.2.2)) = false
                rw [decide_eq_false c2, Bool.and_false]) _ (s5.trans sT)
            · exact go (wh_of c1 c2)
          · refine ⟨_, rfl, iteT ?_⟩
            exact bad (by
                show (decide (r.2.1 ≤ m) && decide (m ≤ r.2.2)) = false
                rw [decide_eq_false c1, Bool.false_and]) _ (s5.trans sT)
        | bool m => exact iteF ⟨_, rfl, isi_bool (.inl hdT) ⟨_, rfl, iteT (bad rfl _ (s5.trans sT))⟩⟩
        | none => exact iteT (bad rfl _ (s5.trans sT))
        | str m => exact iteT (bad rfl _ (s5.trans sT))
        | list m => exact iteT (bad rfl _ (s5.trans sT))
        | tuple m => exact iteT (bad rfl _ (s5.trans sT))
        | dict m => exact iteT (bad rfl _ (s5.trans sT))
      · subst hσ
        rw [hmin] at hok
        have hAS : areSeatsD rs (.list ds) = true := by
          rw [areSeatsD_def, decide_eq_true hdl, Bool.true_and, List.all_eq_true]
          intro pr hp
          obtain ⟨k, hk⟩ := List.mem_iff_getElem?.mp hp
          obtain ⟨h1, h2⟩ := List.getElem?_zip_eq_some.mp hk
          have hkl := (List.getElem?_eq_some_iff.mp h2).1
          exact hok k hkl _ _ h1 h2
        obtain ⟨fs, hfs, hfl, hfb⟩ := areSeatsD_is hAS
        injection hfs with hfs
        subst hfs
        have hus : us = fs.map V.int := by
          refine List.ext_getElem? fun i => ?_
          by_cases hi : i < fs.length
          · obtain ⟨v, hv, hdp⟩ := dpa_get hA (i := i) (d := .int (fs.getD i 0)) (by rw [List.getElem?_map, List.getD_eq_getElem?_getD, List.getElem?_eq_getElem hi]; rfl)
            rw [hv, map_get hi]
            cases hdp
            rfl
          · rw [List.getElem?_eq_none (by omega), List.getElem?_eq_none (by rw [List.length_map]; omega)]
        exact ⟨fs, _, _, rfl, hus, rfl, s5, hAS, hfl, hfb⟩
    rintro σ' H2 ⟨fs, x3, x4, rfl, rfl, rfl, s2, hAS, hfl, hfb⟩
    rw [isRightD_ints hAS] at q
    have hR2 := hR.same s2
    have hF2 := same_seq s2 hF
    have cnt : ∀ i < rs.length, 0 ≤ fs.getD i 0 ∧ fs.getD i 0 ≤ 200 := fun i hi => by
      have b := hfb i hi
      obtain ⟨_, _, g0, _, g2⟩ := row_good hg.2.2 hi
      omega
    refine ⟨fun σ' H' => σ'.length = 8 ∧ Same H2 H' ∧ ∀ k < rs.length, okB wy rs fs k = true, ?_, ?_⟩
    · refine ⟨.ref p, rfl, p, _, rfl, hR2.l, for_it (walk_enum (xs := xs)) (fun i σ H'' => ∃ x3 x5 x6 x7, σ = [some (V.str wy), some (V.ref p), some (V.ref fp), x3, x4, x5, x6, x7] ∧ Same H2 H'' ∧ ∀ k < i, okB wy rs fs k = true)
        ⟨_, none, none, none, rfl, Same.refl _, fun k hk => absurd hk (Nat.not_lt_zero _)⟩ (fun i σ H'' _ ⟨_, _, _, _, _, s, _⟩ => (hR2.same s).l) (fun i x σ H5 H'' hi ⟨x3, x5, x6, x7, hσ, s5, hok⟩ hy => ?_) (fun σ H'' ⟨x3, x5, x6, x7, hσ, s5, hok⟩ => ?_)⟩
      · subst hσ
        obtain ⟨T, v1, v2, rfl, nT, rfl, e1, e2⟩ := hy
        cases e1
        obtain ⟨r, b, hr, rfl, hb⟩ := (hR2.same s5).getV e2
        have er := rowAt_of hr
        have hir := (List.getElem?_eq_some_iff.mp hr).1
        have hif : i < fs.length := by rw [hfl]; exact hir
        have gr := row_good hg.2.2 hir
        have ci := cnt i hir
        have sT := s5.trans (same_new (o := .tup [.int (i : Nat), .ref b]) nT)
        have hbT := same_tup (same_new (o := .tup [.int (i : Nat), .ref b]) nT) hb
        refine ⟨T, _, rfl, sqT upd_same, rfl, _, _, rfl, _, _, rfl, rfl, ?_⟩
        generalize hHT : upd H5 T (.tup [.int (i : Nat), .ref b]) = HT at *
        refine ⟨.ref p, rfl, p, _, rfl, (hR2.same sT).l, for_it (walk_enum (xs := xs)) (fun j σ H'' => ∃ x6 x7, σ = [some (V.str wy), some (V.ref p), some (V.ref fp), some (V.ref b), x4, some (V.int (i : Nat)), x6, x7] ∧ Same HT H'' ∧ ((rowAt rs i).2.1 < fs.getD i 0 → ∀ k < j, k ∈ opens rs fs → Le (nxt wy rs fs k) (lst wy rs fs i)))
          ⟨_, _, rfl, Same.refl _, fun _ k hk => absurd hk (Nat.not_lt_zero _)⟩ (fun j σ H'' _ ⟨_, _, _, s, _⟩ => (hR2.same (sT.trans s)).l) (fun j x σ H6 H'' hj ⟨x6, x7, hσ, s6, hle⟩ hy => ?_) (fun σ H'' ⟨x6, x7, hσ, s6, hle⟩ => ?_)⟩
        · subst hσ
          obtain ⟨U, v1, v2, rfl, nU, rfl, e1', e2'⟩ := hy
          cases e1'
          obtain ⟨r2, b2, hr2, rfl, hb2⟩ := (hR2.same (sT.trans s6)).getV e2'
          have er2 := rowAt_of hr2
          have hjr := (List.getElem?_eq_some_iff.mp hr2).1
          have hjf : j < fs.length := by rw [hfl]; exact hjr
          have gr2 := row_good hg.2.2 hjr
          have cj := cnt j hjr
          have sU := same_new (o := .tup [.int (j : Nat), .ref b2]) nU
          have s6U := s6.trans sU
          have hb2U := same_tup sU hb2
          have hbU := same_tup s6U hbT
          have hFU := same_seq (sT.trans s6U) hF2
          refine ⟨U, _, rfl, sqT upd_same, rfl, _, _, rfl, _, _, rfl, rfl, ?_⟩
          have next : ((rowAt rs i).2.1 < fs.getD i 0 → j ∈ opens rs fs → Le (nxt wy rs fs j) (lst wy rs fs i)) → ((rowAt rs i).2.1 < fs.getD i 0 → ∀ k < j + 1, k ∈ opens rs fs → Le (nxt wy rs fs k) (lst wy rs fs i)) := fun h hu k hk ho => by
            by_cases ek : k < j
            · exact hle hu k ek ho
            · have : k = j := by omega
              rw [this] at ho ⊢
              exact h hu ho
          refine ⟨_, rfl, _, rfl, fp, _, (i : Int), _, rfl, rfl, hFU, int_ix hif, _, rfl, b, _, 1, _, rfl, rfl, hbU, atI_nat (j := 1) rfl, _, _, rfl, rfl, _, rfl, ifD (fun c1 => ?_) (fun c1 => ?_)⟩
          · refine ⟨_, rfl, _, rfl, fp, _, (j : Int), _, rfl, rfl, hFU, int_ix hjf, _, rfl, b2, _, 2, _, rfl, rfl, hb2U, atI_nat (j := 2) rfl, _, _, rfl, rfl, _, rfl, ifD (fun c2 => ?_) (fun c2 => ?_)⟩
            · refine ⟨_, rfl, _, rfl, b, _, 0, _, rfl, rfl, hbU, atI_nat (j := 0) rfl, _, rfl, _, rfl, fp, _, (i : Int), _, rfl, rfl, hFU, int_ix hif, sz (show 2 ≤ 100000 by decide), fun t1 n1 => ?_⟩
              have y1 := same_new (o := .tup [V.int r.1, .int (fs.getD i 0)]) n1
              refine ⟨_, rfl, b2, _, 0, _, rfl, rfl, same_tup y1 hb2U, atI_nat (j := 0) rfl, _, rfl, _, rfl, fp, _, (j : Int), _, rfl, rfl, same_seq y1 hFU, int_ix hjf, _, 1, rfl, rfl, sz (show 2 ≤ 100000 by decide), fun t2 n2 => ?_⟩
              have y2 := same_new (o := .tup [V.int r2.1, .int (fs.getD j 0 + 1)]) n2
              have c1' : r.2.1 < fs.getD i 0 := c1
              have c2' : fs.getD j 0 < r2.2.2 := c2
              have lo0 := gr.2.2.1
              rw [er] at lo0
              refine ⟨wy, t1, t2, (r.1, fs.getD i 0), (r2.1, fs.getD j 0 + 1), rfl, hw, sqT (y2 _ _ upd_same), sqT upd_same, by show 1 ≤ fs.getD i 0; omega, by show fs.getD i 0 ≤ 1000; omega, by show 1 ≤ fs.getD j 0 + 1; omega, by show fs.getD j 0 + 1 ≤ 1000; omega, fun H7 s7 => ⟨_, 0, rfl, rfl, _, rfl, ifD (fun h => ?_) (fun h => ?_)⟩⟩
              · have hlt := rank_neg.mp h
                have jo : j ∈ opens rs fs := opens_mem.mpr ⟨hjr, by rw [er2]; exact c2'⟩
                have e0 : okB wy rs fs i = false := by
                  rw [← Bool.not_eq_true, okB_iff]
                  intro z
                  have z2 := z (by rw [er]; exact c1') j jo
                  unfold lst nxt at z2
                  rw [er, er2] at z2
                  exact absurd hlt (not_lt.mpr z2)
                rw [rightB_false hir e0] at q
                exact q _ ((s2.trans sT).trans ((s6U.trans (y1.trans y2)).trans s7))
              · refine ⟨_, _, rfl, (s6U.trans (y1.trans y2)).trans s7, next fun _ _ => ?_⟩
                have z2 := not_lt.mp (fun z => h (rank_neg.mpr z))
                unfold lst nxt
                rw [er, er2]
                exact z2
            · refine ⟨_, _, rfl, s6U, next fun _ ho => ?_⟩
              have := (opens_mem.mp ho).2
              rw [er2] at this
              exact absurd this c2
          · refine iteF ⟨_, _, rfl, s6U, next fun hu _ => ?_⟩
            rw [er] at hu
            exact absurd hu c1
        · subst hσ
          refine ⟨_, _, _, _, rfl, sT.trans s6, fun k hk => ?_⟩
          by_cases ek : k < i
          · exact hok k ek
          · have : k = i := by omega
            rw [this]
            refine okB_iff.mpr fun hu k2 hk2 => hle hu k2 (by rw [hR2.n]; exact opens_lt hk2) hk2
      · subst hσ
        rw [hR2.n] at hok
        exact ⟨rfl, s5, hok⟩
    rintro σ' H3 ⟨_, s3, hok⟩
    have e : rightB wy rs fs = true := by
      unfold rightB
      rw [List.all_eq_true]
      exact fun k hk => hok k (List.mem_range.mp hk)
    rw [e] at q
    exact q _ (s2.trans s3)
abbrev s__law_moved : Stmt := topS 43
theorem sc__law_moved : FnScope ["_law_found", "_law_number", "_law_one", "_law_other", "_law_more"] ["_law_found", "_law_number"] (defScope s__law_moved) := ⟨rfl, rfl, rfl, by decide +kernel, rfl, by decide +kernel, by decide +kernel⟩
def sp__law_moved (K : PySem.W.Frag) : Sp := fun vs H Q _ => ∃ (fp : Addr) (fs : List Int) (n : Int), vs = [.ref fp, .int n] ∧ SqL K H fp (fs.map V.int) ∧ 1 ≤ fs.length ∧ fs.length ≤ 1000 ∧ ∀ H' D (gs : List Int), Same H H' → H D = none → H' D = some (.lst (gs.map V.int)) → gs.length = fs.length → Q (.ref D) H'
theorem ok__law_moved (Z : BZ mg) (D : DefAt K mg "_law_moved" s__law_moved) : OkF P w K mg base 1 "_law_moved" ["_law_found", "_law_number"] (sp__law_moved K) := by
  refine OkF.mk' D sc__law_moved (fun _ _ _ _ _ _ us hl => match us, hl with | [_, _], _ => rfl) (fun vs H Q E h => ?_) (fun f cdv A outer s H vs Q E hr h => ?_)
  · first | (obtain ⟨_, rfl, _⟩ := h; rfl) | (obtain ⟨_, _, rfl, _⟩ := h; rfl) | (obtain ⟨_, _, _, rfl, _⟩ := h; rfl) | (obtain ⟨_, _, _, _, rfl, _⟩ := h; rfl) | (obtain ⟨_, _, _, _, _, rfl, _⟩ := h; rfl) | (obtain ⟨_, _, _, _, _, _, rfl, _⟩ := h; rfl) | (obtain ⟨_, _, _, _, _, _, _, rfl, _⟩ := h; rfl) | (obtain ⟨_, _, _, _, _, _, _, _, rfl, _⟩ := h; rfl) | (obtain ⟨_, _, _, _, _, _, _, _, _, rfl, _⟩ := h; rfl) | (obtain ⟨_, _, _, _, _, _, _, _, _, _, rfl, _⟩ := h; rfl) | (obtain ⟨_, _, _, _, _, _, _, _, _, _, _, rfl, _⟩ := h; rfl) | (obtain ⟨_, _, _, _, _, _, _, _, _, _, _, _, rfl, _⟩ := h; rfl) | (obtain ⟨_, _, _, _, _, _, _, _, _, _, _, _, _, rfl, _⟩ := h; rfl) | (obtain ⟨_, _, _, _, _, _, _, _, _, _, _, _, _, _, rfl, _⟩ := h; rfl)
  · refine ⟨_, PSs.nox ((pss_cons (ps_set (i := 2) sc__law_moved.nd rfl (Or.inl rfl) (pe_op op_mod (pv 1) (pe_callB (call_len_seqK (K := K) rfl) (by rfl) Z.len bt_len (pa_cons (pv 0) pa_nil))))
      (pss_cons (ps_set (i := 3) sc__law_moved.nd rfl (Or.inl rfl) (pe_op op_mod (pe_op op_fdiv (pv 1) pe_int) (pe_callB (call_len_seqK (K := K) rfl) (by rfl) Z.len bt_len (pa_cons (pv 0) pa_nil))))
      (pss_cons (ps_set (i := 4) sc__law_moved.nd rfl (Or.inl rfl) (pe_op op_add pe_int (pe_op op_mod (pe_op op_fdiv (pv 1) pe_int) pe_int)))
      (pss_cons (ps_set (i := 0) sc__law_moved.nd rfl (Or.inl rfl) (pe_callTy (call_list_ofK (K := K) rfl) (by rfl) Z.list bt_list (pa_cons (pv 0) pa_nil)))
      (pss_cons (ps_asg (pe_op op_sub (pe_ix (ix_listK (K := K) rfl) (pv 0) (pv 2) (fun _ _ => rfl)) (pv 4)) (pg_sub (pv 0) (pv 2) set_list))
      (pss_cons (ps_asg (pe_op op_add (pe_ix (ix_listK (K := K) rfl) (pv 0) (pv 3) (fun _ _ => rfl)) (pv 4)) (pg_sub (pv 0) (pv 3) set_list))
      (pss_one (ps_ret (pv 0)))))))))), ?_⟩
    obtain ⟨fp, fs, n, rfl, hF, h1, h2, q⟩ := h
    have hl : ((fs.map V.int).length : Int) = (fs.length : Int) := by rw [List.length_map]
    have a0 := Int.emod_nonneg n (show (fs.length : Int) ≠ 0 by omega)
    have a1 := Int.emod_lt_of_pos n (show (0 : Int) < (fs.length : Int) by omega)
    have b0 := Int.emod_nonneg (n / 7) (show (fs.length : Int) ≠ 0 by omega)
    have b1 := Int.emod_lt_of_pos (n / 7) (show (0 : Int) < (fs.length : Int) by omega)
    refine ⟨_, rfl, _, rfl, fp, _, rfl, .inl hF, _, _, rfl, rfl, (show (0 : Int) < ((fs.map V.int).length : Int) by omega), ?_⟩
    refine ⟨_, rfl, _, 7, rfl, rfl, ⟨by decide, by decide⟩, _, rfl, fp, _, rfl, .inl hF, _, _, rfl, rfl, (show (0 : Int) < ((fs.map V.int).length : Int) by omega), ?_⟩
    refine ⟨_, rfl, _, 49, rfl, rfl, ⟨by decide, by decide⟩, _, 2, rfl, rfl, (show (0 : Int) < 2 by decide), 1, _, rfl, rfl, ?_⟩
    refine ⟨_, rfl, fp, _, rfl, .inl hF, fun D nD => ?_⟩
    have s1 := same_new (o := .lst (fs.map V.int)) nD
    have ixx : ∀ {k : Int} {m : Nat}, 0 ≤ k → k < (m : Int) → ixN m k = some k.toNat := fun {k m} h0 h1 => by
      have h := ixN_n (n := m) (j := k.toNat) (by omega)
      rw [Int.toNat_of_nonneg h0] at h
      exact h
    rw [hl]
    refine ⟨_, rfl, _, rfl, D, _, _, _, rfl, rfl, sqL upd_same, int_ixI a0 a1, _, rfl, _, _, rfl, rfl, _, rfl, _, rfl, D, _, _, _, rfl, rfl, upd_same, ixx a0 (by rw [List.length_map]; exact a1), ?_⟩
    rw [map_set_int, upd_upd]
    refine ⟨_, rfl, _, rfl, D, _, _, _, rfl, rfl, sqL upd_same, int_ixI b0 (by rw [List.length_set]; exact b1), _, rfl, _, _, rfl, rfl, _, rfl, _, rfl, D, _, _, _, rfl, rfl, upd_same, ixx b0 (by rw [List.length_map, List.length_set]; exact b1), ?_⟩
    rw [map_set_int, upd_upd]
    exact ⟨_, rfl, q _ D _ (same_new nD) nD upd_same (by rw [List.length_set, List.length_set])⟩
end
end SS

namespace SS
open PySem PySem.Spec PyProof.Rows L2 LamX
section
variable {P : Program} {w : World} {K : PySem.W.Frag} {mg : Str → Option Value} {base : Heap}
abbrev s__law_thing : Stmt := topS 44
theorem sc__law_thing : FnScope ["_law_rows", "_law_found", "_law_number", "_law_some", "_law_many"] ["_law_rows", "_law_found", "_law_number"] (defScope s__law_thing) := ⟨rfl, rfl, rfl, by decide +kernel, rfl, by decide +kernel, by decide +kernel⟩
theorem menuT {K : PySem.W.Frag} {H : Hp} {l : Addr} {xs : List V} {n m : Int} {Q : VK} (h : H l = some (.lst xs)) (hm : (xs.length : Int) = m) (h0 : 0 < m) (q : ∀ v, v ∈ xs → Q v H) :
    rIxL K (.ref l) (.int (n % m)) H Q := by
  have a0 := Int.emod_nonneg n (show m ≠ 0 by omega)
  have a1 := Int.emod_lt_of_pos n h0
  have hj : (n % m).toNat < xs.length := by omega
  exact ⟨l, xs, n % m, xs[(n % m).toNat], rfl, rfl, sqL h, at_of (j := (n % m).toNat) (by omega) (List.getElem?_eq_getElem hj), q _ (List.getElem_mem hj)⟩
theorem dpa_rep {K : PySem.W.Frag} {H : Hp} {v : V} {d : PyData} (h : Dp K H v d) : ∀ n : Nat, DpAll K H (List.replicate n [v]).flatten (List.replicate n d)
  | 0 => .nil
  | n + 1 => by
    rw [List.replicate_succ, List.flatten_cons, List.replicate_succ]
    exact .cons h (dpa_rep h n)
theorem small_log {c : Int} (h0 : 0 ≤ c) (h1 : c ≤ 1000) : c.natAbs.log2 < 1920 := by
  by_cases e : c.natAbs = 0
  · rw [e]
    decide
  · refine (Nat.log2_lt e).mpr (Nat.lt_of_lt_of_le (show c.natAbs < 2 ^ 10 by omega) (Nat.pow_le_pow_right (by decide) (by decide)))
def sp__law_thing (K : PySem.W.Frag) : Sp := fun vs H Q _ => ∃ (p fp : Addr) (fs : List Int) (n : Int) (xs : List V) (rs : List Row), vs = [.ref p, .ref fp, .int n] ∧ Rws K H p xs rs ∧ H fp = some (.lst (fs.map V.int)) ∧ rs.length ≤ 1000 ∧ fs.length ≤ 1000 ∧ (∀ x ∈ fs, 0 ≤ x ∧ x ≤ 1000) ∧ ∀ H' v d, Same H H' → Dz K H' v d → Q v H'
theorem ok__law_thing (Z : BZ mg) (D : DefAt K mg "_law_thing" s__law_thing) : OkF P w K mg base 1 "_law_thing" ["_law_rows", "_law_found", "_law_number"] (sp__law_thing K) := by
  refine OkF.mk' D sc__law_thing (fun _ _ _ _ _ _ us hl => match us, hl with | [_, _, _], _ => rfl) (fun vs H Q E h => ?_) (fun f cdv A outer s H vs Q E hr h => ?_)
  · first | (obtain ⟨_, rfl, _⟩ := h; rfl) | (obtain ⟨_, _, rfl, _⟩ := h; rfl) | (obtain ⟨_, _, _, rfl, _⟩ := h; rfl) | (obtain ⟨_, _, _, _, rfl, _⟩ := h; rfl) | (obtain ⟨_, _, _, _, _, rfl, _⟩ := h; rfl) | (obtain ⟨_, _, _, _, _, _, rfl, _⟩ := h; rfl) | (obtain ⟨_, _, _, _, _, _, _, rfl, _⟩ := h; rfl) | (obtain ⟨_, _, _, _, _, _, _, _, rfl, _⟩ := h; rfl) | (obtain ⟨_, _, _, _, _, _, _, _, _, rfl, _⟩ := h; rfl) | (obtain ⟨_, _, _, _, _, _, _, _, _, _, rfl, _⟩ := h; rfl) | (obtain ⟨_, _, _, _, _, _, _, _, _, _, _, rfl, _⟩ := h; rfl) | (obtain ⟨_, _, _, _, _, _, _, _, _, _, _, _, rfl, _⟩ := h; rfl) | (obtain ⟨_, _, _, _, _, _, _, _, _, _, _, _, _, rfl, _⟩ := h; rfl) | (obtain ⟨_, _, _, _, _, _, _, _, _, _, _, _, _, _, rfl, _⟩ := h; rfl)
  · refine ⟨_, PSs.nox ((pss_cons (ps_set (i := 3) sc__law_thing.nd rfl (Or.inl rfl) (pe_lst (pa_cons pe_non (pa_cons pe_bl (pa_cons pe_int (pa_cons (pe_callTy (call_tuple_ofK (K := K) rfl) (by rfl) Z.tuple bt_tuple (pa_cons (pv 1) pa_nil)) (pa_cons (pe_op op_cat (pv 1) (pe_lst (pa_cons pe_int pa_nil))) (pa_cons (pe_slice (sl_listK (K := K) rfl) (pv 1) (po_some pe_int) po_none) (pa_cons pe_dnewK (pa_cons pe_str (pa_cons (pe_op op_rep (pe_lst (pa_cons pe_bl pa_nil)) (pe_callB (call_len_seqK (K := K) rfl) (by rfl) Z.len bt_len (pa_cons (pv 0) pa_nil))) (pa_cons (pe_op op_rep (pe_lst (pa_cons pe_non pa_nil)) (pe_callB (call_len_seqK (K := K) rfl) (by rfl) Z.len bt_len (pa_cons (pv 0) pa_nil))) (pa_cons (pe_lst pa_nil) pa_nil)))))))))))))
      (pss_one (ps_ret (pe_ix (ix_listK (K := K) rfl) (pe_op op_cat (pv 3) (pe_lst (pa_cons (pe_op op_rep (pe_lst (pa_cons (pe_un un_neg pe_int) pa_nil)) (pe_callB (call_len_seqK (K := K) rfl) (by rfl) Z.len bt_len (pa_cons (pv 0) pa_nil))) (pa_cons (pe_op op_rep (pe_lst (pa_cons (pe_op op_pow pe_int pe_int) pa_nil)) (pe_callB (call_len_seqK (K := K) rfl) (by rfl) Z.len bt_len (pa_cons (pv 0) pa_nil))) (pa_cons (pe_lc (own := [("_law_many", 4)]) (g := gName 4) (tt := tYes) rfl sc__law_thing.nd (pi_list (pv 1)) (blkOk_by (N := ["_law_rows", "_law_found", "_law_number", "_law_some", "_law_many"]) (sc := defScope s__law_thing) (own := [("_law_many", 4)]) (by decide +kernel)) (fun _ _ _ _ _ => pg_name (i := 4) sc__law_thing.nd rfl (Or.inl rfl)) (fun _ _ _ _ _ => pts_nil) (fun _ _ _ _ _ => (pe_callTy call_str_int (by rfl) Z.str bt_str (pa_cons (pv 4) pa_nil)))) pa_nil))))) (pe_op op_mod (pv 2) pe_int) (fun _ _ => rfl)))))), ?_⟩
    obtain ⟨p, fp, fs, n, xs, rs, rfl, hR, hF, h1, h2, hb, q⟩ := h
    have hn := hR.n
    refine ⟨_, rfl, fp, _, rfl, .inl ⟨sqL hF, fun p1 n1 => ?_⟩⟩
    have t1 := same_new (o := HO.tup (fs.map V.int)) n1
    refine ⟨_, rfl, sz (show 1 ≤ 100000 by decide), fun p2 n2 => ?_⟩
    have t2 := same_new (o := HO.lst [V.int 0]) n2
    refine ⟨fp, p2, _, _, rfl, rfl, (t1.trans t2) _ _ hF, upd_same, sz (by rw [List.length_map]; show fs.length + 1 ≤ 100000; omega), fun p3 n3 => ?_⟩
    have t3 := same_new (o := HO.lst ((fs.map V.int) ++ [V.int 0])) n3
    refine ⟨_, rfl, 1, rfl, fp, _, rfl, sqL (((t1.trans t2).trans t3) _ _ hF), fun p4 n4 => ?_⟩
    have t4 := same_new (o := HO.lst (cutV (fs.map V.int) (some 1) none)) n4
    refine fun p5 n5 => ?_
    have t5 := same_new (o := HO.dK []) n5
    refine ⟨sz (show 1 ≤ 100000 by decide), fun p6 n6 => ?_⟩
    have t6 := same_new (o := HO.lst [V.bl true]) n6
    refine ⟨_, rfl, p, xs, rfl, .inl (hR.same (((((t1.trans t2).trans t3).trans t4).trans t5).trans t6)).l, p6, (xs.length : Int), [V.bl true], rfl, rfl, upd_same, by omega, by omega, sz (by show 1 * ((xs.length : Int)).toNat ≤ 100000; omega), fun p7 n7 => ?_⟩
    have t7 := same_new (o := HO.lst (List.replicate ((xs.length : Int)).toNat [V.bl true]).flatten) n7
    refine ⟨sz (show 1 ≤ 100000 by decide), fun p8 n8 => ?_⟩
    have t8 := same_new (o := HO.lst [V.non]) n8
    refine ⟨_, rfl, p, xs, rfl, .inl (hR.same (((((((t1.trans t2).trans t3).trans t4).trans t5).trans t6).trans t7).trans t8)).l, p8, (xs.length : Int), [V.non], rfl, rfl, upd_same, by omega, by omega, sz (by show 1 * ((xs.length : Int)).toNat ≤ 100000; omega), fun p9 n9 => ?_⟩
    have t9 := same_new (o := HO.lst (List.replicate ((xs.length : Int)).toNat [V.non]).flatten) n9
    refine ⟨sz (show 0 ≤ 100000 by decide), fun p10 n10 => ?_⟩
    have t10 := same_new (o := HO.lst []) n10
    refine ⟨sz (show 11 ≤ 100000 by decide), fun p11 n11 => ?_⟩
    have t11 := same_new (o := HO.lst [V.non, V.bl true, V.int 5, V.ref p1, V.ref p3, V.ref p4, V.ref p5, V.str "deal", V.ref p7, V.ref p9, V.ref p10]) n11
    refine ⟨_, rfl, 1, rfl, sz (show 1 ≤ 100000 by decide), fun p12 n12 => ?_⟩
    have t12 := same_new (o := HO.lst [V.int (-1)]) n12
    refine ⟨_, rfl, p, xs, rfl, .inl (hR.same (((((((((((t1.trans t2).trans t3).trans t4).trans t5).trans t6).trans t7).trans t8).trans t9).trans t10).trans t11).trans t12)).l, p12, (xs.length : Int), [V.int (-1)], rfl, rfl, upd_same, by omega, by omega, sz (by show 1 * ((xs.length : Int)).toNat ≤ 100000; omega), fun p13 n13 => ?_⟩
    have t13 := same_new (o := HO.lst (List.replicate ((xs.length : Int)).toNat [V.int (-1)]).flatten) n13
    refine ⟨10, 20, rfl, rfl, ⟨by decide, by decide, by decide⟩, sz (show 1 ≤ 100000 by decide), fun p14 n14 => ?_⟩
    have t14 := same_new (o := HO.lst [V.int (10 ^ (20 : Int).toNat)]) n14
    refine ⟨_, rfl, p, xs, rfl, .inl (hR.same (((((((((((((t1.trans t2).trans t3).trans t4).trans t5).trans t6).trans t7).trans t8).trans t9).trans t10).trans t11).trans t12).trans t13).trans t14)).l, p14, (xs.length : Int), [V.int (10 ^ (20 : Int).toNat)], rfl, rfl, upd_same, by omega, by omega, sz (by show 1 * ((xs.length : Int)).toNat ≤ 100000; omega), fun p15 n15 => ?_⟩
    have t15 := same_new (o := HO.lst (List.replicate ((xs.length : Int)).toNat [V.int (10 ^ (20 : Int).toNat)]).flatten) n15
    refine ⟨_, rfl, fp, rfl, ⟨_, sqL (((((((((((((((t1.trans t2).trans t3).trans t4).trans t5).trans t6).trans t7).trans t8).trans t9).trans t10).trans t11).trans t12).trans t13).trans t14).trans t15) _ _ hF)⟩, fun p16 n16 => lc_list (K := K) (a := fp) (xs := (fs.map V.int)) (fun j H' => Same _ H' ∧ H' p16 = some (.lst (((fs.take j).map fun i => (toString i : Str)).map V.str))) ⟨same_new n16, upd_same⟩ (fun j H' _ ⟨s, _⟩ => sqL (s _ _ (((((((((((((((t1.trans t2).trans t3).trans t4).trans t5).trans t6).trans t7).trans t8).trans t9).trans t10).trans t11).trans t12).trans t13).trans t14).trans t15) _ _ hF))) (fun j x H' hx ⟨s, e⟩ => ?_) (fun H16 ⟨t16, e16⟩ => ?_)⟩
    · obtain ⟨c, rfl, hc⟩ := int_at hx
      have hcb := hb c (List.mem_of_getElem? hc)
      refine ⟨rfl, _, rfl, c, rfl, small_log hcb.1 hcb.2, _, e, szl ?_, same_mut s n16, ?_⟩
      · rw [List.length_map, List.length_map, List.length_take]
        omega
      · rw [upd_same, List.take_add_one, hc, List.map_append, List.map_append]
        rfl
    rw [List.length_map, List.take_length] at e16
    refine ⟨sz (show 3 ≤ 100000 by decide), fun p17 n17 => ?_⟩
    have t17 := same_new (o := HO.lst [V.ref p13, V.ref p15, V.ref p16]) n17
    refine ⟨p11, p17, _, _, rfl, rfl, (t17 _ _ (t16 _ _ (t15 _ _ (t14 _ _ (t13 _ _ (t12 _ _ upd_same)))))), upd_same, sz (show 14 ≤ 100000 by decide), fun p18 n18 => ?_⟩
    have t18 := same_new (o := HO.lst ([V.non, V.bl true, V.int 5, V.ref p1, V.ref p3, V.ref p4, V.ref p5, V.str "deal", V.ref p7, V.ref p9, V.ref p10] ++ [V.ref p13, V.ref p15, V.ref p16])) n18
    refine ⟨_, rfl, n, 14, rfl, rfl, (show (0 : Int) < 14 by decide), menuT upd_same rfl (by decide) fun v hv => ?_⟩
    have sa := (((((((((((((((((t1.trans t2).trans t3).trans t4).trans t5).trans t6).trans t7).trans t8).trans t9).trans t10).trans t11).trans t12).trans t13).trans t14).trans t15).trans t16).trans t17).trans t18)
    simp only [List.cons_append, List.nil_append, List.mem_cons, List.not_mem_nil, or_false] at hv
    rcases hv with rfl | rfl | rfl | rfl | rfl | rfl | rfl | rfl | rfl | rfl | rfl | rfl | rfl | rfl
    · exact q _ _ .none sa (.inl .non)
    · exact q _ _ (.bool true) sa (.inl (.bl _))
    · exact q _ _ (.int 5) sa (.inl (.int _))
    · exact q _ _ (.tuple (fs.map PyData.int)) sa (.inl (.tup (sqT (t18 _ _ (t17 _ _ (t16 _ _ (t15 _ _ (t14 _ _ (t13 _ _ (t12 _ _ (t11 _ _ (t10 _ _ (t9 _ _ (t8 _ _ (t7 _ _ (t6 _ _ (t5 _ _ (t4 _ _ (t3 _ _ (t2 _ _ upd_same)))))))))))))))))) (dpa_ints _)))
    · exact q _ _ (.list (fs.map PyData.int ++ [.int 0])) sa (.inl (.lst (sqL (t18 _ _ (t17 _ _ (t16 _ _ (t15 _ _ (t14 _ _ (t13 _ _ (t12 _ _ (t11 _ _ (t10 _ _ (t9 _ _ (t8 _ _ (t7 _ _ (t6 _ _ (t5 _ _ (t4 _ _ upd_same)))))))))))))))) (dpa_app (dpa_ints _) (.cons (.int _) .nil))))
    · exact q _ _ (.list (((fs.map PyData.int).drop _).take _)) sa (.inl (.lst (sqL (t18 _ _ (t17 _ _ (t16 _ _ (t15 _ _ (t14 _ _ (t13 _ _ (t12 _ _ (t11 _ _ (t10 _ _ (t9 _ _ (t8 _ _ (t7 _ _ (t6 _ _ (t5 _ _ upd_same))))))))))))))) (dpa_take _ (dpa_drop _ (dpa_ints fs)))))
    · exact q _ _ (.dict []) sa (.inr ⟨rfl, _, rfl, (t18 _ _ (t17 _ _ (t16 _ _ (t15 _ _ (t14 _ _ (t13 _ _ (t12 _ _ (t11 _ _ (t10 _ _ (t9 _ _ (t8 _ _ (t7 _ _ (t6 _ _ upd_same)))))))))))))⟩)
    · exact q _ _ (.str "deal") sa (.inl (.str _))
    · exact q _ _ (.list (List.replicate _ (.bool true))) sa (.inl (.lst (sqL (t18 _ _ (t17 _ _ (t16 _ _ (t15 _ _ (t14 _ _ (t13 _ _ (t12 _ _ (t11 _ _ (t10 _ _ (t9 _ _ (t8 _ _ upd_same)))))))))))) (dpa_rep (.bl _) _)))
    · exact q _ _ (.list (List.replicate _ .none)) sa (.inl (.lst (sqL (t18 _ _ (t17 _ _ (t16 _ _ (t15 _ _ (t14 _ _ (t13 _ _ (t12 _ _ (t11 _ _ (t10 _ _ upd_same)))))))))) (dpa_rep .non _)))
    · exact q _ _ (.list []) sa (.inl (.lst (sqL (t18 _ _ (t17 _ _ (t16 _ _ (t15 _ _ (t14 _ _ (t13 _ _ (t12 _ _ (t11 _ _ upd_same))))))))) .nil))
    · exact q _ _ (.list (List.replicate _ (.int (-1)))) sa (.inl (.lst (sqL (t18 _ _ (t17 _ _ (t16 _ _ (t15 _ _ (t14 _ _ upd_same)))))) (dpa_rep (.int _) _)))
    · exact q _ _ (.list (List.replicate _ (.int (10 ^ (20 : Int).toNat)))) sa (.inl (.lst (sqL (t18 _ _ (t17 _ _ (t16 _ _ upd_same)))) (dpa_rep (.int _) _)))
    · exact q _ _ (.list ((fs.map fun i => (toString i : Str)).map PyData.str)) sa (.inl (.lst (sqL (t18 _ _ (t17 _ _ e16))) (dpa_strs _)))
end
end SS

namespace SS
open PySem PySem.Spec PyProof.Rows L2 LamX
section
variable {P : Program} {w : World} {K : PySem.W.Frag} {mg : Str → Option Value} {base : Heap}
abbrev s__law_word : Stmt := topS 41
theorem sc__law_word : FnScope ["_law_deed", "_law_caught", "error", "_law_some", "_law_found", "_law_name", "_law_fits"] ["_law_deed"] (defScope s__law_word) := ⟨rfl, rfl, rfl, by decide +kernel, rfl, by decide +kernel, by decide +kernel⟩
theorem wd_filter (o : Option Str) (i : Nat) {nm x : Str} (h : exWords[i]? = some (nm, x)) :
    ((exWords.take (i + 1)).filter fun q => decide (o = some q.2)).map (·.1) = ((exWords.take i).filter fun q => decide (o = some q.2)).map (·.1) ++ if decide (o = some x) = true then [nm] else [] := by
  rw [List.take_add_one, h, List.filter_append, List.map_append]
  congr 1
  show ((List.filter _ [(nm, x)]).map (·.1)) = _
  rw [List.filter_cons, List.filter_nil]
  by_cases e : decide (o = some x) = true
  · rw [if_pos e, if_pos (show decide (o = some (nm, x).2) = true from e)]
    rfl
  · rw [if_neg e, if_neg (show ¬ decide (o = some (nm, x).2) = true from e)]
    rfl
theorem word_gives {X : Cx} (Z : BZ X.mg) (EA : ExAll X.K) (EG : ∀ x ∈ exNames, X.mg x = some (.ref (He.ga X.K x))) (gS : X.mg "ShareError" = some (.ref (He.ga X.K "ShareError")))
    (g : Addr) (cdg : Value) (q : Str) : GivesTo X ["_law_deed", "_law_caught", "error", "_law_some", "_law_found", "_law_name", "_law_fits"] "_law_word" (defScope s__law_word) g cdg (defBody s__law_word) "_law_deed" q (TTword X.K) := by
  intro f c' s H Q tl act hco h
  have E_BadWay : ExG X.K X.mg "BadWay" := ⟨EG _ (by decide)⟩
  have E_BadCount : ExG X.K X.mg "BadCount" := ⟨EG _ (by decide)⟩
  have E_BadLists : ExG X.K X.mg "BadLists" := ⟨EG _ (by decide)⟩
  have E_BadSeats : ExG X.K X.mg "BadSeats" := ⟨EG _ (by decide)⟩
  have E_BadPrice : ExG X.K X.mg "BadPrice" := ⟨EG _ (by decide)⟩
  have E_BadPlace : ExG X.K X.mg "BadPlace" := ⟨EG _ (by decide)⟩
  have E_BadGroups : ExG X.K X.mg "BadGroups" := ⟨EG _ (by decide)⟩
  have E_Tied : ExG X.K X.mg "Tied" := ⟨EG _ (by decide)⟩
  have E_BadText : ExG X.K X.mg "BadText" := ⟨EG _ (by decide)⟩
  have hrest : ∃ tr, PSs (cxOf C8.CX0 X.prog X.w X.K X.mg X.base ["_law_deed", "_law_caught", "error", "_law_some", "_law_found", "_law_name", "_law_fits"] "_law_word" (defScope s__law_word) g cdg X.A X.stack s H C8.E0).nox ((defBody s__law_word).drop 2) tr ∧
      ∀ (σ : L2.St) (H2 : Hp) (v : V) (o : Option Str), σ.length = 7 → σ[1]? = some (some v) → Caught X.K H2 v o →
        (∀ H3 p, Same H2 H3 → H2 p = none → H3 p = some (.lst ((wordsOf o).map V.str)) → Q (.ref p) H3) → tr { nx := fun _ H' => Q .non H', rt := Q } σ H2 := by
    refine ⟨_, (pss_cons (ps_set (i := 3) sc__law_word.nd rfl (Or.inl rfl) (pe_lst (pa_cons (pe_tup (pa_cons pe_str (pa_cons (pe_callB (call_isAK (K := X.K) rfl) (by rfl) Z.isinstance bt_isinstance (pa_cons (pv 1) (pa_cons (pe_glob (v := .ref (He.ga X.K "BadWay")) rfl E_BadWay.g rfl) pa_nil))) pa_nil))) (pa_cons (pe_tup (pa_cons pe_str (pa_cons (pe_callB (call_isAK (K := X.K) rfl) (by rfl) Z.isinstance bt_isinstance (pa_cons (pv 1) (pa_cons (pe_glob (v := .ref (He.ga X.K "BadCount")) rfl E_BadCount.g rfl) pa_nil))) pa_nil))) pa_nil))))
      (pss_cons (ps_set (i := 3) sc__law_word.nd rfl (Or.inl rfl) (pe_op op_cat (pv 3) (pe_lst (pa_cons (pe_tup (pa_cons pe_str (pa_cons (pe_callB (call_isAK (K := X.K) rfl) (by rfl) Z.isinstance bt_isinstance (pa_cons (pv 1) (pa_cons (pe_glob (v := .ref (He.ga X.K "BadLists")) rfl E_BadLists.g rfl) pa_nil))) pa_nil))) (pa_cons (pe_tup (pa_cons pe_str (pa_cons (pe_callB (call_isAK (K := X.K) rfl) (by rfl) Z.isinstance bt_isinstance (pa_cons (pv 1) (pa_cons (pe_glob (v := .ref (He.ga X.K "BadSeats")) rfl E_BadSeats.g rfl) pa_nil))) pa_nil))) pa_nil)))))
      (pss_cons (ps_set (i := 3) sc__law_word.nd rfl (Or.inl rfl) (pe_op op_cat (pv 3) (pe_lst (pa_cons (pe_tup (pa_cons pe_str (pa_cons (pe_callB (call_isAK (K := X.K) rfl) (by rfl) Z.isinstance bt_isinstance (pa_cons (pv 1) (pa_cons (pe_glob (v := .ref (He.ga X.K "BadPrice")) rfl E_BadPrice.g rfl) pa_nil))) pa_nil))) (pa_cons (pe_tup (pa_cons pe_str (pa_cons (pe_callB (call_isAK (K := X.K) rfl) (by rfl) Z.isinstance bt_isinstance (pa_cons (pv 1) (pa_cons (pe_glob (v := .ref (He.ga X.K "BadPlace")) rfl E_BadPlace.g rfl) pa_nil))) pa_nil))) pa_nil)))))
      (pss_cons (ps_set (i := 3) sc__law_word.nd rfl (Or.inl rfl) (pe_op op_cat (pv 3) (pe_lst (pa_cons (pe_tup (pa_cons pe_str (pa_cons (pe_callB (call_isAK (K := X.K) rfl) (by rfl) Z.isinstance bt_isinstance (pa_cons (pv 1) (pa_cons (pe_glob (v := .ref (He.ga X.K "BadGroups")) rfl E_BadGroups.g rfl) pa_nil))) pa_nil))) (pa_cons (pe_tup (pa_cons pe_str (pa_cons (pe_callB (call_isAK (K := X.K) rfl) (by rfl) Z.isinstance bt_isinstance (pa_cons (pv 1) (pa_cons (pe_glob (v := .ref (He.ga X.K "Tied")) rfl E_Tied.g rfl) pa_nil))) pa_nil))) pa_nil)))))
      (pss_cons (ps_set (i := 3) sc__law_word.nd rfl (Or.inl rfl) (pe_op op_cat (pv 3) (pe_lst (pa_cons (pe_tup (pa_cons pe_str (pa_cons (pe_callB (call_isAK (K := X.K) rfl) (by rfl) Z.isinstance bt_isinstance (pa_cons (pv 1) (pa_cons (pe_glob (v := .ref (He.ga X.K "BadText")) rfl E_BadText.g rfl) pa_nil))) pa_nil))) pa_nil))))
      (pss_cons (ps_setLc (i := 4) (own := [("_law_name", 5), ("_law_fits", 6)]) (g := gTup _ 2 (gCons (gName 5) (gCons (gName 6) gNil))) rfl sc__law_word.nd rfl rfl (sw_true rfl rfl rfl (by decide +kernel)) (pi_list (pv 3)) (blkOk_by (N := ["_law_deed", "_law_caught", "error", "_law_some", "_law_found", "_law_name", "_law_fits"]) (sc := defScope s__law_word) (own := [("_law_name", 5), ("_law_fits", 6)]) (by decide +kernel)) (fun _ _ _ _ _ => pg_tup rfl (pgs_cons (pg_name (i := 5) sc__law_word.nd rfl (Or.inl rfl)) (pgs_cons (pg_name (i := 6) sc__law_word.nd rfl (Or.inl rfl)) pgs_nil))) (fun _ _ _ _ _ => by exact (pts_one (pt_val (pv 6)))) (fun _ _ _ _ _ => (pv 5)))
      (pss_cons (ps_if (PW.pt (pw_and (pt_cmpR op_notN (pv 1) pe_non (nomark _)) (pw_and1 (pt_not (pt_val (pe_callB (call_isAK (K := X.K) rfl) (by rfl) Z.isinstance bt_isinstance (pa_cons (pv 1) (pa_cons (pe_bltn (v := .ty "ValueError") (by rfl) Z.valueError bt_ValueError rfl) pa_nil)))))))) (pss_one (ps_expr (pe_bm PySem.F.plainAttrs_list PySem.F.slot_list_append PySem.F.type_list_append mt_append (pv 4) (pa_cons pe_str pa_nil)))) pss_nil)
      (pss_one (ps_ret (pv 4)))))))))), ?_⟩
    intro σ H2 v o hl hv hc k
    match σ, hl with
    | [a0, a1, a2, a3, a4, a5, a6], _ =>
    obtain rfl : a1 = some v := Option.some.inj hv
    refine ⟨v, rfl, isA_word EA hc (by decide) ⟨sz (show 2 ≤ 100000 by decide), fun t1 n1 => ?_⟩⟩
    have s1 := same_new (o := .tup [.str "way", .bl (decide (o = some ("BadWay" : Str)))]) n1
    refine ⟨v, rfl, isA_word EA (caught_same s1 hc) (by decide) ⟨sz (show 2 ≤ 100000 by decide), fun t2 n2 => ?_⟩⟩
    have s2 := same_new (o := .tup [.str "count", .bl (decide (o = some ("BadCount" : Str)))]) n2
    refine ⟨sz (show 2 ≤ 100000 by decide), fun l1 m1 => ?_⟩
    have s3 := same_new (o := .lst [V.ref t1, V.ref t2]) m1
    refine ⟨_, rfl, ?_⟩
    refine ⟨v, rfl, isA_word EA (caught_same ((s1.trans s2).trans s3) hc) (by decide) ⟨sz (show 2 ≤ 100000 by decide), fun t3 n3 => ?_⟩⟩
    have s4 := same_new (o := .tup [.str "lists", .bl (decide (o = some ("BadLists" : Str)))]) n3
    refine ⟨v, rfl, isA_word EA (caught_same (((s1.trans s2).trans s3).trans s4) hc) (by decide) ⟨sz (show 2 ≤ 100000 by decide), fun t4 n4 => ?_⟩⟩
    have s5 := same_new (o := .tup [.str "seats", .bl (decide (o = some ("BadSeats" : Str)))]) n4
    refine ⟨sz (show 2 ≤ 100000 by decide), fun l2 m2 => ?_⟩
    have s6 := same_new (o := .lst [V.ref t3, V.ref t4]) m2
    refine ⟨l1, l2, [V.ref t1, V.ref t2], [V.ref t3, V.ref t4], rfl, rfl, ((s4.trans s5).trans s6) _ _ upd_same, upd_same, sz (show 4 ≤ 100000 by decide), fun l3 m3 => ?_⟩
    have s7 := same_new (o := .lst ([V.ref t1, V.ref t2] ++ [V.ref t3, V.ref t4])) m3
    refine ⟨_, rfl, ?_⟩
    refine ⟨v, rfl, isA_word EA (caught_same ((((((s1.trans s2).trans s3).trans s4).trans s5).trans s6).trans s7) hc) (by decide) ⟨sz (show 2 ≤ 100000 by decide), fun t5 n5 => ?_⟩⟩
    have s8 := same_new (o := .tup [.str "price", .bl (decide (o = some ("BadPrice" : Str)))]) n5
    refine ⟨v, rfl, isA_word EA (caught_same (((((((s1.trans s2).trans s3).trans s4).trans s5).trans s6).trans s7).trans s8) hc) (by decide) ⟨sz (show 2 ≤ 100000 by decide), fun t6 n6 => ?_⟩⟩
    have s9 := same_new (o := .tup [.str "place", .bl (decide (o = some ("BadPlace" : Str)))]) n6
    refine ⟨sz (show 2 ≤ 100000 by decide), fun l4 m4 => ?_⟩
    have s10 := same_new (o := .lst [V.ref t5, V.ref t6]) m4
    refine ⟨l3, l4, ([V.ref t1, V.ref t2] ++ [V.ref t3, V.ref t4]), [V.ref t5, V.ref t6], rfl, rfl, ((s8.trans s9).trans s10) _ _ upd_same, upd_same, sz (show 6 ≤ 100000 by decide), fun l5 m5 => ?_⟩
    have s11 := same_new (o := .lst (([V.ref t1, V.ref t2] ++ [V.ref t3, V.ref t4]) ++ [V.ref t5, V.ref t6])) m5
    refine ⟨_, rfl, ?_⟩
    refine ⟨v, rfl, isA_word EA (caught_same ((((((((((s1.trans s2).trans s3).trans s4).trans s5).trans s6).trans s7).trans s8).trans s9).trans s10).trans s11) hc) (by decide) ⟨sz (show 2 ≤ 100000 by decide), fun t7 n7 => ?_⟩⟩
    have s12 := same_new (o := .tup [.str "groups", .bl (decide (o = some ("BadGroups" : Str)))]) n7
    refine ⟨v, rfl, isA_word EA (caught_same (((((((((((s1.trans s2).trans s3).trans s4).trans s5).trans s6).trans s7).trans s8).trans s9).trans s10).trans s11).trans s12) hc) (by decide) ⟨sz (show 2 ≤ 100000 by decide), fun t8 n8 => ?_⟩⟩
    have s13 := same_new (o := .tup [.str "tied", .bl (decide (o = some ("Tied" : Str)))]) n8
    refine ⟨sz (show 2 ≤ 100000 by decide), fun l6 m6 => ?_⟩
    have s14 := same_new (o := .lst [V.ref t7, V.ref t8]) m6
    refine ⟨l5, l6, (([V.ref t1, V.ref t2] ++ [V.ref t3, V.ref t4]) ++ [V.ref t5, V.ref t6]), [V.ref t7, V.ref t8], rfl, rfl, ((s12.trans s13).trans s14) _ _ upd_same, upd_same, sz (show 8 ≤ 100000 by decide), fun l7 m7 => ?_⟩
    have s15 := same_new (o := .lst ((([V.ref t1, V.ref t2] ++ [V.ref t3, V.ref t4]) ++ [V.ref t5, V.ref t6]) ++ [V.ref t7, V.ref t8])) m7
    refine ⟨_, rfl, ?_⟩
    refine ⟨v, rfl, isA_word EA (caught_same ((((((((((((((s1.trans s2).trans s3).trans s4).trans s5).trans s6).trans s7).trans s8).trans s9).trans s10).trans s11).trans s12).trans s13).trans s14).trans s15) hc) (by decide) ⟨sz (show 2 ≤ 100000 by decide), fun t9 n9 => ?_⟩⟩
    have s16 := same_new (o := .tup [.str "text", .bl (decide (o = some ("BadText" : Str)))]) n9
    refine ⟨sz (show 1 ≤ 100000 by decide), fun l8 m8 => ?_⟩
    have s17 := same_new (o := .lst [V.ref t9]) m8
    refine ⟨l7, l8, ((([V.ref t1, V.ref t2] ++ [V.ref t3, V.ref t4]) ++ [V.ref t5, V.ref t6]) ++ [V.ref t7, V.ref t8]), [V.ref t9], rfl, rfl, (s16.trans s17) _ _ upd_same, upd_same, sz (show 9 ≤ 100000 by decide), fun l9 m9 => ?_⟩
    have s18 := same_new (o := .lst (((([V.ref t1, V.ref t2] ++ [V.ref t3, V.ref t4]) ++ [V.ref t5, V.ref t6]) ++ [V.ref t7, V.ref t8]) ++ [V.ref t9])) m9
    have sF := (((((((((((((((((s1.trans s2).trans s3).trans s4).trans s5).trans s6).trans s7).trans s8).trans s9).trans s10).trans s11).trans s12).trans s13).trans s14).trans s15).trans s16).trans s17).trans s18)
    have e1 := ((((((((((((((((s2.trans s3).trans s4).trans s5).trans s6).trans s7).trans s8).trans s9).trans s10).trans s11).trans s12).trans s13).trans s14).trans s15).trans s16).trans s17).trans s18) _ _ upd_same
    have e2 := (((((((((((((((s3.trans s4).trans s5).trans s6).trans s7).trans s8).trans s9).trans s10).trans s11).trans s12).trans s13).trans s14).trans s15).trans s16).trans s17).trans s18) _ _ upd_same
    have e3 := (((((((((((((s5.trans s6).trans s7).trans s8).trans s9).trans s10).trans s11).trans s12).trans s13).trans s14).trans s15).trans s16).trans s17).trans s18) _ _ upd_same
    have e4 := ((((((((((((s6.trans s7).trans s8).trans s9).trans s10).trans s11).trans s12).trans s13).trans s14).trans s15).trans s16).trans s17).trans s18) _ _ upd_same
    have e5 := (((((((((s9.trans s10).trans s11).trans s12).trans s13).trans s14).trans s15).trans s16).trans s17).trans s18) _ _ upd_same
    have e6 := ((((((((s10.trans s11).trans s12).trans s13).trans s14).trans s15).trans s16).trans s17).trans s18) _ _ upd_same
    have e7 := (((((s13.trans s14).trans s15).trans s16).trans s17).trans s18) _ _ upd_same
    have e8 := ((((s14.trans s15).trans s16).trans s17).trans s18) _ _ upd_same
    have e9 := (s17.trans s18) _ _ upd_same
    have eF : (upd (upd (upd (upd (upd (upd (upd (upd (upd (upd (upd (upd (upd (upd (upd (upd (upd (upd H2 t1 (.tup [.str "way", .bl (decide (o = some ("BadWay" : Str)))])) t2 (.tup [.str "count", .bl (decide (o = some ("BadCount" : Str)))])) l1 (.lst [V.ref t1, V.ref t2])) t3 (.tup [.str "lists", .bl (decide (o = some ("BadLists" : Str)))])) t4 (.tup [.str "seats", .bl (decide (o = some ("BadSeats" : Str)))])) l2 (.lst [V.ref t3, V.ref t4])) l3 (.lst ([V.ref t1, V.ref t2] ++ [V.ref t3, V.ref t4]))) t5 (.tup [.str "price", .bl (decide (o = some ("BadPrice" : Str)))])) t6 (.tup [.str "place", .bl (decide (o = some ("BadPlace" : Str)))])) l4 (.lst [V.ref t5, V.ref t6])) l5 (.lst (([V.ref t1, V.ref t2] ++ [V.ref t3, V.ref t4]) ++ [V.ref t5, V.ref t6]))) t7 (.tup [.str "groups", .bl (decide (o = some ("BadGroups" : Str)))])) t8 (.tup [.str "tied", .bl (decide (o = some ("Tied" : Str)))])) l6 (.lst [V.ref t7, V.ref t8])) l7 (.lst ((([V.ref t1, V.ref t2] ++ [V.ref t3, V.ref t4]) ++ [V.ref t5, V.ref t6]) ++ [V.ref t7, V.ref t8]))) t9 (.tup [.str "text", .bl (decide (o = some ("BadText" : Str)))])) l8 (.lst [V.ref t9])) l9 (.lst (((([V.ref t1, V.ref t2] ++ [V.ref t3, V.ref t4]) ++ [V.ref t5, V.ref t6]) ++ [V.ref t7, V.ref t8]) ++ [V.ref t9]))) l9 = some (.lst (((([V.ref t1, V.ref t2] ++ [V.ref t3, V.ref t4]) ++ [V.ref t5, V.ref t6]) ++ [V.ref t7, V.ref t8]) ++ [V.ref t9])) := upd_same
    generalize (upd (upd (upd (upd (upd (upd (upd (upd (upd (upd (upd (upd (upd (upd (upd (upd (upd (upd H2 t1 (.tup [.str "way", .bl (decide (o = some ("BadWay" : Str)))])) t2 (.tup [.str "count", .bl (decide (o = some ("BadCount" : Str)))])) l1 (.lst [V.ref t1, V.ref t2])) t3 (.tup [.str "lists", .bl (decide (o = some ("BadLists" : Str)))])) t4 (.tup [.str "seats", .bl (decide (o = some ("BadSeats" : Str)))])) l2 (.lst [V.ref t3, V.ref t4])) l3 (.lst ([V.ref t1, V.ref t2] ++ [V.ref t3, V.ref t4]))) t5 (.tup [.str "price", .bl (decide (o = some ("BadPrice" : Str)))])) t6 (.tup [.str "place", .bl (decide (o = some ("BadPlace" : Str)))])) l4 (.lst [V.ref t5, V.ref t6])) l5 (.lst (([V.ref t1, V.ref t2] ++ [V.ref t3, V.ref t4]) ++ [V.ref t5, V.ref t6]))) t7 (.tup [.str "groups", .bl (decide (o = some ("BadGroups" : Str)))])) t8 (.tup [.str "tied", .bl (decide (o = some ("Tied" : Str)))])) l6 (.lst [V.ref t7, V.ref t8])) l7 (.lst ((([V.ref t1, V.ref t2] ++ [V.ref t3, V.ref t4]) ++ [V.ref t5, V.ref t6]) ++ [V.ref t7, V.ref t8]))) t9 (.tup [.str "text", .bl (decide (o = some ("BadText" : Str)))])) l8 (.lst [V.ref t9])) l9 (.lst (((([V.ref t1, V.ref t2] ++ [V.ref t3, V.ref t4]) ++ [V.ref t5, V.ref t6]) ++ [V.ref t7, V.ref t8]) ++ [V.ref t9]))) = HF at sF e1 e2 e3 e4 e5 e6 e7 e8 e9 eF ⊢
    have cF : Caught X.K HF v o := caught_same sF hc
    have items : ∀ (i : Nat) (x : V) (qq : Str × Str), [V.ref t1, V.ref t2, V.ref t3, V.ref t4, V.ref t5, V.ref t6, V.ref t7, V.ref t8, V.ref t9][i]? = some x → exWords[i]? = some qq → pairV o HF x qq := by
      have z1 : pairV o HF (V.ref t1) ("way", "BadWay") := ⟨t1, rfl, e1⟩
      have z2 : pairV o HF (V.ref t2) ("count", "BadCount") := ⟨t2, rfl, e2⟩
      have z3 : pairV o HF (V.ref t3) ("lists", "BadLists") := ⟨t3, rfl, e3⟩
      have z4 : pairV o HF (V.ref t4) ("seats", "BadSeats") := ⟨t4, rfl, e4⟩
      have z5 : pairV o HF (V.ref t5) ("price", "BadPrice") := ⟨t5, rfl, e5⟩
      have z6 : pairV o HF (V.ref t6) ("place", "BadPlace") := ⟨t6, rfl, e6⟩
      have z7 : pairV o HF (V.ref t7) ("groups", "BadGroups") := ⟨t7, rfl, e7⟩
      have z8 : pairV o HF (V.ref t8) ("tied", "Tied") := ⟨t8, rfl, e8⟩
      have z9 : pairV o HF (V.ref t9) ("text", "BadText") := ⟨t9, rfl, e9⟩
      intro i x qq h1 h2
      match i with
      | 0 => cases h1; cases h2; exact z1
      | 1 => cases h1; cases h2; exact z2
      | 2 => cases h1; cases h2; exact z3
      | 3 => cases h1; cases h2; exact z4
      | 4 => cases h1; cases h2; exact z5
      | 5 => cases h1; cases h2; exact z6
      | 6 => cases h1; cases h2; exact z7
      | 7 => cases h1; cases h2; exact z8
      | 8 => cases h1; cases h2; exact z9
      | n + 9 => simp at h1
    -- the comprehension
    refine ⟨_, rfl, l9, rfl, ⟨_, sqL eF⟩, fun D nD => lc_list (K := X.K) (a := l9) (xs := [V.ref t1, V.ref t2, V.ref t3, V.ref t4, V.ref t5, V.ref t6, V.ref t7, V.ref t8, V.ref t9])
      (fun i H' => Same HF H' ∧ H' D = some (.lst ((((exWords.take i).filter fun q => decide (o = some q.2)).map (·.1)).map V.str))) ⟨same_new nD, upd_same⟩ (fun i H' _ ⟨s, _⟩ => sqL (s _ _ eF)) (fun i x H' hx ⟨sS, eD⟩ => ?_) (fun H' ⟨sS, eD⟩ => ?_)⟩
    · have hi : i < 9 := (List.getElem?_eq_some_iff.mp hx).1
      have hq : exWords[i]? = some exWords[i] := List.getElem?_eq_getElem hi
      obtain ⟨a, rfl, ha⟩ := pairV_same sS (items i x _ hx hq)
      have step := wd_filter o i (nm := exWords[i].1) (x := exWords[i].2) hq
      refine ⟨a, _, rfl, sqT ha, rfl, _, _, rfl, _, _, rfl, rfl, rfl, ⟨_, rfl, _, rfl, iteB (fun e => ?_) (fun e => ?_)⟩⟩
      · rw [if_pos e] at step
        refine ⟨_, rfl, _, eD, szl ?_, same_mut sS nD, ?_⟩
        · rw [List.length_map, List.length_map]
          exact Nat.lt_of_le_of_lt (List.length_filter_le _ _) (by rw [List.length_take]; omega)
        · rw [upd_same, step, List.map_append]
          rfl
      · rw [if_neg (by rw [e]; decide), List.append_nil] at step
        exact ⟨sS, by rw [step]; exact eD⟩
    · have e9 : exWords.take 9 = exWords := rfl
      have eD : H' D = some (.lst ((((exWords.take 9).filter fun q => decide (o = some q.2)).map (·.1)).map V.str)) := eD
      rw [e9] at eD
      have cE := caught_same sS cF
      have nD2 : H2 D = none := sF.free nD
      have fin : ∀ {H4 : Hp}, H4 = H' → Q (.ref D) H' := fun _ => k H' D (sF.trans sS) nD2 eD
      refine ⟨v, rfl, rfl, ?_⟩
      by_cases hn : v = .non
      · rw [show (!decide (v = V.non)) = false by rw [decide_eq_true hn]; rfl]
        refine ⟨_, rfl, iteF (iteF ⟨_, rfl, fin rfl⟩)⟩
      · rw [show (!decide (v = V.non)) = true by rw [decide_eq_false hn]; rfl]
        refine ⟨_, rfl, iteT ⟨v, rfl, isA_ve EA cE hn ⟨_, rfl, ?_⟩⟩⟩
        exact iteF ⟨_, rfl, fin rfl⟩
  obtain ⟨tr, pr, tail⟩ := hrest
  refine ⟨_, pss_cons (ps_set (i := 1) sc__law_word.nd rfl (Or.inl rfl) pe_non)
    (pss_cons (ps_try_trk (i := 2) (j := 1) (X := (cxOf C8.CX0 X.prog X.w X.K X.mg X.base ["_law_deed", "_law_caught", "error", "_law_some", "_law_found", "_law_name", "_law_fits"] "_law_word" (defScope s__law_word) g cdg X.A X.stack s H C8.E0).nox) (c := .ref (He.ga X.K "ShareError"))
      (tb := fun W D σ H => ∃ Ech : XK, (∀ cls d σ' H', Ech cls d H' → W cls d σ' H') ∧ σ[0]? = some (some (.ref f)) ∧ H c' = some (CodeO c' q) ∧ tl Ech H (fun _ H' => D.nx σ H'))
      rfl rfl sc__law_word.nd rfl rfl rfl rfl (by decide) ⟨rfl, rfl, .inl gS⟩ LamX.takes0 rfl rfl rfl (fun _ _ => rfl) (fun W pn xe tk _ => ?body))
    pr), ?_⟩
  case body =>
    refine ⟨fun pins s' σ H' D I h' => ?_⟩
    obtain ⟨Ech, hW, h1, h2, h3⟩ := h'
    exact (pss_one (ps_expr (act W pn xe Ech _ _ tk hW))).run pins s' σ H' D I ⟨h1, h2, h3⟩
  refine ⟨fun cls d H' => d = none ∧ ∃ x ∈ exNames, cls = .ref (He.ga X.K x) ∧ (∀ H2 p, Same H' H2 → H' p = none → H2 p = some (.lst [.str (wordOf x)]) → Q (.ref p) H2), fun cls d σ' H' z => ?_, rfl, hco, ?_⟩
  · obtain ⟨rfl, x, hx, rfl, k⟩ := z
    refine ⟨true, EA.m x hx, fun _ => ⟨rfl, _, rfl, fun a na σ2 hl hv => ?_⟩, fun z => by cases z⟩
    refine tail σ2 _ (.ref a) (some x) hl hv (.inr ⟨a, x, rfl, rfl, hx, upd_same⟩) fun H3 p s3 n3 e3 => k H3 p ((same_new na).trans s3) (Same.free (same_new na) n3) ?_
    rw [e3, words_some hx]
    rfl
  · refine h _ _ (fun x hx H' k => ⟨rfl, x, hx, rfl, k⟩) (fun v H' k => tail _ H' .non none rfl rfl (.inl ⟨rfl, rfl⟩) fun H3 p s3 n3 e3 => k H3 p s3 n3 ?_)
    rw [e3, words_none]
    rfl
theorem word_ok {P : Program} {w : World} {K : PySem.W.Frag} {mg : Str → Option Value} {base : Heap} (Z : BZ mg) (EA : ExAll K) (EG : ∀ x ∈ exNames, mg x = some (.ref (He.ga K x))) (gS : mg "ShareError" = some (.ref (He.ga K "ShareError")))
    (D : DefAt K mg "_law_word" s__law_word) : WordOk P w K mg base := by
  refine ⟨fun {X} hP hw hK hm hb => ?_⟩
  subst hP hw hK hm hb
  obtain ⟨hmg, fd, F⟩ := D
  have hb := F.bindsN (ps := ["_law_deed"]) (fun _ _ _ _ _ _ us hl => match us, hl with | [_], _ => rfl)
  obtain ⟨oc, od, dV, kV, doc, pm, an, cdv, ct, osl, rfl, lk, hcd, hD, hK⟩ := F.ex
  exact ⟨_, _, _, _, dV, kV, doc, pm, cdv, ct, oc, an, od, osl, ["_law_deed", "_law_caught", "error", "_law_some", "_law_found", "_law_name", "_law_fits"], hmg, F.kp, lk, hcd, hb, sc__law_word, rfl, .inl rfl, word_gives Z EA EG gS _ cdv _⟩

abbrev s_law : Stmt := topS 45
theorem sc_law : FnScope ["_law_script", "_law_way", "_law_sure", "_law_tied", "_law_left", "_law_number", "_law_some", "_law_thing_here", "_law_due", "_law_found", "_law_good", "_law_rows", "_law_k", "_law_many"] ["_law_script"] (defScope s_law) := ⟨rfl, rfl, rfl, by decide +kernel, rfl, by decide +kernel, by decide +kernel⟩
def tabs1 (K : PySem.W.Frag) : List (Addr × Str) := [(tbl K "law", lamQ "law" s_law)]
theorem hm_law (K : PySem.W.Frag) : (tbl K "law", lamQ "law" s_law) ∈ tabs1 K ∧ (∀ p ∈ tabs1 K, p.1 = tbl K "law" → p.2 = lamQ "law" s_law) :=
  ⟨List.mem_singleton.mpr rfl, fun p hp _ => by rw [List.mem_singleton.mp hp]⟩
def sp_law (K : PySem.W.Frag) : Sp := fun vs H Q _ => ∃ (a : Addr) (ns : List Int), vs = [.ref a] ∧ SqL K H a (ns.map V.int) ∧ ns.length ≤ 63 ∧ Tabs (tabs1 K) H ∧ ∀ H', Q (.bl true) H'
theorem ok_law (Z : BZ mg) (O__law_mixed : OkF P w K mg base 1 "_law_mixed" ["_law_cell", "_law_k"] (sp__law_mixed K)) (O__law_cell_at : OkF P w K mg base 1 "_law_cell_at" ["_law_script", "_law_k"] (sp__law_cell_at K)) (O__law_lists : OkF P w K mg base 3 "_law_lists" ["_law_script", "_law_most"] (sp__law_lists K)) (O_deal : OkF P w K mg base 5 "deal" ["way", "lists", "seats"] (sp_deal K)) (O__law_seats : OkF P w K mg base 2 "_law_seats" ["_law_script", "_law_rows"] (sp__law_seats K)) (O__law_moved : OkF P w K mg base 1 "_law_moved" ["_law_found", "_law_number"] (sp__law_moved K)) (O__law_thing : OkF P w K mg base 1 "_law_thing" ["_law_rows", "_law_found", "_law_number"] (sp__law_thing K)) (O__law_is_right : OkF P w K mg base 3 "_law_is_right" ["_law_way", "_law_rows", "_law_found"] (sp__law_is_right K)) (O_is_right : OkF P w K mg base 5 "is_right" ["way", "lists", "found"] (sp_is_right K)) (W : WordOk P w K mg base) (TB : TabB base mg (He.codeOf K ("law", none)) (tbl K "law")) (D : DefAt K mg "law" s_law) : OkF P w K mg base 8 "law" ["_law_script"] (sp_law K) := by
  refine OkF.mkL D sc_law (fun _ _ _ _ _ _ us hl => match us, hl with | [_], _ => rfl) (fun vs H Q E h => ?_) (fun f cdv A outer s H vs Q E hcd hr h => ?_)
  · first | (obtain ⟨_, rfl, _⟩ := h; rfl) | (obtain ⟨_, _, rfl, _⟩ := h; rfl) | (obtain ⟨_, _, _, rfl, _⟩ := h; rfl) | (obtain ⟨_, _, _, _, rfl, _⟩ := h; rfl) | (obtain ⟨_, _, _, _, _, rfl, _⟩ := h; rfl) | (obtain ⟨_, _, _, _, _, _, rfl, _⟩ := h; rfl) | (obtain ⟨_, _, _, _, _, _, _, rfl, _⟩ := h; rfl) | (obtain ⟨_, _, _, _, _, _, _, _, rfl, _⟩ := h; rfl) | (obtain ⟨_, _, _, _, _, _, _, _, _, rfl, _⟩ := h; rfl) | (obtain ⟨_, _, _, _, _, _, _, _, _, _, rfl, _⟩ := h; rfl) | (obtain ⟨_, _, _, _, _, _, _, _, _, _, _, rfl, _⟩ := h; rfl) | (obtain ⟨_, _, _, _, _, _, _, _, _, _, _, _, rfl, _⟩ := h; rfl) | (obtain ⟨_, _, _, _, _, _, _, _, _, _, _, _, _, rfl, _⟩ := h; rfl) | (obtain ⟨_, _, _, _, _, _, _, _, _, _, _, _, _, _, rfl, _⟩ := h; rfl)
  · have HM := hm_law K
    refine ⟨_, PSs.nox ((pss_cons (ps_set (i := 1) sc_law.nd rfl (Or.inl rfl) (pe_ix (ix_listK (K := K) rfl) (pe_lst (pa_cons pe_str (pa_cons pe_str (pa_cons pe_str (pa_cons pe_str (pa_cons pe_str pa_nil)))))) (pe_op op_mod (pc O__law_mixed (hr.mono (by decide)) passL (pa_cons (pc O__law_cell_at (hr.mono (by decide)) passL (pa_cons (pv 0) (pa_cons pe_int pa_nil))) (pa_cons pe_int pa_nil))) pe_int) (fun _ _ => rfl)))
      (pss_cons (ps_set (i := 11) sc_law.nd rfl (Or.inr rfl) (pc O__law_lists (hr.mono (by decide)) passL (pa_cons (pv 0) (pa_cons pe_int pa_nil))))
      (pss_cons (ps_asg (pc O_deal (hr.mono (by decide)) passL (pa_cons (pv 1) (pa_cons (pv 11) (pa_cons (pc O__law_seats (hr.mono (by decide)) passL (pa_cons (pv 0) (pa_cons (pv 11) pa_nil))) pa_nil)))) (pg_tup rfl (pgs_cons (pg_name (i := 2) sc_law.nd rfl (Or.inl rfl)) (pgs_cons (pg_name (i := 3) sc_law.nd rfl (Or.inr rfl)) (pgs_cons (pg_name (i := 4) sc_law.nd rfl (Or.inr rfl)) pgs_nil)))))
      (pss_cons (ps_set (i := 10) sc_law.nd rfl (Or.inr rfl) (pe_lc (own := [("_law_k", 12), ("_law_many", 13)]) (g := gTup _ 2 (gCons (gName 12) (gCons (gName 13) gNil))) (tt := tYes) rfl sc_law.nd (pi_enum (by rfl) Z.enumerate (pa_cons (pv 2) pa_nil)) (blkOk_by (N := ["_law_script", "_law_way", "_law_sure", "_law_tied", "_law_left", "_law_number", "_law_some", "_law_thing_here", "_law_due", "_law_found", "_law_good", "_law_rows", "_law_k", "_law_many"]) (sc := defScope s_law) (own := [("_law_k", 12), ("_law_many", 13)]) (by decide +kernel)) (fun _ _ _ _ _ => pg_tup rfl (pgs_cons (pg_name (i := 12) sc_law.nd rfl (Or.inl rfl)) (pgs_cons (pg_name (i := 13) sc_law.nd rfl (Or.inl rfl)) pgs_nil))) (fun _ _ _ _ _ => pts_nil) (fun _ _ _ _ _ => (pe_op op_add (pv 13) (pe_callTy call_int1 (by rfl) Z.int bt_int (pa_cons (pe_cmpR (op_in_seqK (K := K) rfl) (pv 12) (pe_slice (sl_listK (K := K) rfl) (pv 3) po_none (po_some (pv 4))) (by rfl)) pa_nil))))))
      (pss_cons (ps_set (i := 5) sc_law.nd rfl (Or.inr rfl) (pc O__law_mixed (hr.mono (by decide)) passL (pa_cons (pe_op op_mod (pe_callB (cr_sumK (K := K) rfl rfl) (by rfl) Z.sum bt_sum (pa_cons (pv 0) pa_nil)) (pe_op op_pow pe_int pe_int)) (pa_cons pe_int pa_nil))))
      (pss_cons (ps_set (i := 6) sc_law.nd rfl (Or.inl rfl) (pe_lst (pa_cons (pv 10) (pa_cons (pc O__law_moved (hr.mono (by decide)) passL (pa_cons (pv 10) (pa_cons (pv 5) pa_nil))) (pa_cons (pc O__law_moved (hr.mono (by decide)) passL (pa_cons (pc O__law_moved (hr.mono (by decide)) passL (pa_cons (pv 10) (pa_cons (pe_op op_fdiv (pv 5) pe_int) pa_nil))) (pa_cons (pe_op op_fdiv (pv 5) pe_int) pa_nil))) pa_nil)))))
      (pss_cons (ps_set (i := 6) sc_law.nd rfl (Or.inl rfl) (pe_op op_cat (pv 6) (pe_lst (pa_cons (pe_lc (own := [("_law_k", 12)]) (g := gName 12) (tt := tYes) rfl sc_law.nd (pi_range1 (by rfl) Z.range (pa_cons (pe_callB (call_len_seqK (K := K) rfl) (by rfl) Z.len bt_len (pa_cons (pv 11) pa_nil)) pa_nil)) (blkOk_by (N := ["_law_script", "_law_way", "_law_sure", "_law_tied", "_law_left", "_law_number", "_law_some", "_law_thing_here", "_law_due", "_law_found", "_law_good", "_law_rows", "_law_k", "_law_many"]) (sc := defScope s_law) (own := [("_law_k", 12)]) (by decide +kernel)) (fun _ _ _ _ _ => pg_name (i := 12) sc_law.nd rfl (Or.inl rfl)) (fun _ _ _ _ _ => pts_nil) (fun _ _ _ _ _ => (pe_op op_mod (pe_op op_fdiv (pv 5) (pe_op op_add (pv 12) pe_int)) pe_int))) (pa_cons (pc O__law_thing (hr.mono (by decide)) passL (pa_cons (pv 11) (pa_cons (pv 10) (pa_cons (pv 5) pa_nil)))) pa_nil)))))
      (pss_cons (ps_for PassesOwn.never rfl (pi_list (pv 6)) (pg_name (i := 7) sc_law.nd rfl (Or.inl rfl)) (pss_cons (ps_set (i := 8) sc_law.nd rfl (Or.inl rfl) (pc O__law_is_right (hr.mono (by decide)) passL (pa_cons (pv 1) (pa_cons (pv 11) (pa_cons (pv 7) pa_nil)))))
      (pss_cons (ps_set (i := 9) sc_law.nd rfl (Or.inl rfl) (pc O_is_right (hr.mono (by decide)) passL (pa_cons (pv 1) (pa_cons (pv 11) (pa_cons (pv 7) pa_nil)))))
      (pss_one (ps_if (PW.pt (pw_or (pt_not (pt_val (pe_callB (call_isAK (K := K) rfl) (by rfl) Z.isinstance bt_isinstance (pa_cons (pv 9) (pa_cons (pe_bltn (v := .ty "bool") (by rfl) Z.bool bt_bool rfl) pa_nil))))) (pw_or1 (pt_cmpR op_ne (pv 9) (pv 8) (nomark _))))) (pss_one (ps_ret pe_bl)) pss_nil)))))
      (pss_one (ps_ret (pe_and (pe_cmpR (op_eqDK (K := K) rfl hr.units) (pl_word (k := 5) W HM TB (by exact hcd) (hr.mono (by decide)) (fun A outer s H E f c' hr => by exact (pc O_is_right (hr.mono (by decide)) (passes_call (takes_of rfl rfl rfl rfl) (fun _ _ _ _ h => h)) (pa_cons (pe_lst (pa_cons pe_str pa_nil)) (pa_cons (pv 11) (pa_cons (pv 10) pa_nil))))) rfl (lamS_by (sc := defScope s_law) (by decide +kernel)) rfl (fun _ _ _ _ _ => rfl)) (pe_lst (pa_cons pe_str pa_nil)) (nomark _)) (pe_one (pe_cmpR op_isBl (pc O_is_right (hr.mono (by decide)) passL (pa_cons (pv 1) (pa_cons (pv 11) (pa_cons (pv 10) pa_nil)))) pe_bl (nomark _))))))))))))))), ?_⟩
    obtain ⟨a, ns, rfl, hS, hlen, hT, q⟩ := h
    refine ⟨sz (show 5 ≤ 100000 by decide), fun p0 np0 => ⟨_, rfl, a, ns, 1, rfl, same_seq (same_new np0) hS, fun c => ⟨c, 58, rfl, by decide, by decide, ?_⟩⟩⟩
    have s1 := same_new (o := .lst (ways.map V.str)) np0
    obtain ⟨wy, hw, hwa⟩ := ways_at (mixed c 58)
    refine ⟨_, 5, rfl, rfl, (show (0 : Int) < 5 by decide), p0, _, _, _, rfl, rfl, sqL upd_same, hwa, ?_⟩
    refine ⟨_, rfl, a, ns, 7, rfl, same_seq s1 hS, by decide, by decide, fun H2 p xs rs s2 np ep hR hg hm => ?_⟩
    have s12 := s1.trans s2
    have hl1 : rs.length ≤ 1000 := Nat.le_trans hg.2.1 (by decide)
    refine ⟨_, rfl, _, rfl, _, rfl, _, rfl, a, p, ns, xs, rs, rfl, same_seq s12 hS, hR, hg, fun H4 n s4 hlo hhi _ => deal_good hw (hR.same s4) hg hlo hhi fun H5 t s5 nt hTo => ?_⟩
    have hR4 := hR.same s4
    obtain ⟨s, e, et, es, ee, _⟩ := hTo
    have O := deal_ok hw hg.2.2 hlo hhi
    generalize dealM wy rs n = d at *
    refine ⟨t, _, rfl, sqT et, rfl, _, _, rfl, _, _, rfl, _, _, rfl, rfl, ?_⟩
    have hR5 := hR4.same s5
    have l0 := O.di.p
    have dn := O.di.n
    have dl12 : d.sure.length ≤ 12 := by rw [dn]; exact hg.2.1
    have s15 := (s12.trans s4).trans s5
    refine ⟨_, rfl, s, _, rfl, sqL es, fun M nM => lc_it (walk_enum (xs := d.sure.map V.int)) (fun i H'' => Same H5 H'' ∧ H'' M = some (.lst (((List.range i).map (goodN d)).map V.int))) ⟨same_new nM, upd_same⟩ (fun i H'' _ ⟨sm, _⟩ => sqL (sm _ _ es)) (fun k x H1 H'' hk ⟨sm, em⟩ hy => ?_) (fun H6 ⟨s6, eM⟩ => ?_)⟩
    · obtain ⟨T, v1, v2, rfl, nT, rfl, e1, e2⟩ := hy
      cases e1
      obtain ⟨c, rfl, hcc⟩ := int_at e2
      have hcd : c = d.sure.getD k 0 := by rw [List.getD_eq_getElem?_getD, hcc]; rfl
      have sT := same_new (o := .tup [.int (k : Nat), .int c]) nT
      have smT := sm.trans sT
      rw [List.length_map] at hk
      refine ⟨T, _, rfl, sqT upd_same, rfl, _, _, rfl, _, _, rfl, rfl, rfl, ?_⟩
      refine ⟨_, rfl, _, rfl, _, rfl, _, rfl, _, rfl, e, _, rfl, sqL (smT _ _ ee), fun z nz => ⟨z, _, rfl, .inl (sqL upd_same), rfl, by rw [cut_take l0, natsV_take]; exact flat_nats _, .inr ⟨_, rfl, _, _, rfl, rfl, _, same_new nz _ _ (sT _ _ em), szl ?_, same_mut (smT.trans (same_new nz)) nM, ?_⟩⟩⟩
      · rw [List.length_map, List.length_map, List.length_range]
        omega
      · rw [upd_same, cut_take l0, natsV_take, int_in, List.range_succ, List.map_append, List.map_append, hcd]
        rfl
    rw [List.length_map] at eM
    have eG : H6 M = some (.lst ((goodL d).map V.int)) := eM
    have hgr := good_isRight hw hg.2.2 O
    obtain ⟨gl, gb⟩ := pick_seats O (fun k hk => List.mem_of_mem_take hk) (good_pick O)
    have gbd : ∀ x ∈ goodL d, 0 ≤ x ∧ x ≤ 1000 := fun x hx => by
      obtain ⟨k, hk⟩ := List.mem_iff_getElem?.mp hx
      have hkl := (List.getElem?_eq_some_iff.mp hk).1
      have hkr : k < rs.length := by rw [← gl]; exact hkl
      have b := gb k hkr
      have ex : (goodL d).getD k 0 = x := by rw [List.getD_eq_getElem?_getD, hk]; rfl
      rw [ex] at b
      obtain ⟨_, _, g0, _, g2⟩ := row_good hg.2.2 hkr
      omega
    generalize goodL d = gs at *
    have gs1 : 1 ≤ gs.length := by rw [gl]; exact hg.1
    have gs2 : gs.length ≤ 1000 := by rw [gl]; exact hl1
    have hR6 := hR5.same s6
    have s16 := s15.trans s6
    refine ⟨_, rfl, a, ns, rfl, same_seq s16 hS, 10, 40, rfl, rfl, ⟨by decide, by decide, by decide⟩, _, _, rfl, rfl, (show (0 : Int) < 10 ^ 40 by decide), _, 61, rfl, by decide, by decide, ?_⟩
    generalize hnum : mixed (ns.sum % 10 ^ (40 : Int).toNat) 61 = num
    -- three of them
    refine ⟨_, rfl, _, rfl, _, rfl, M, gs, num, rfl, sqL eG, gs1, gs2, fun H7 A1 g1 s7 nA1 eA1 l1 => ?_⟩
    refine ⟨_, rfl, _, rfl, _, 5, rfl, rfl, ⟨by decide, by decide⟩, M, gs, _, rfl, sqL (s7 _ _ eG), gs1, gs2, fun H8 A2 g2 s8 nA2 eA2 l2 => ?_⟩
    refine ⟨_, rfl, _, 11, rfl, rfl, ⟨by decide, by decide⟩, A2, g2, _, rfl, sqL eA2, by omega, by omega, fun H9 A3 g3 s9 nA3 eA3 l3 => ⟨sz (show 3 ≤ 100000 by decide), fun l nl => ?_⟩⟩
    have s89 := s8.trans s9
    have s79 := s7.trans s89
    have tl := same_new (o := .lst [V.ref M, .ref A1, .ref A3]) nl
    have sL := s79.trans tl
    have hRL := hR6.same sL
    -- the fourth
    refine ⟨_, rfl, _, rfl, p, _, rfl, .inl hRL.l, _, rfl, by have := hRL.n; omega, by have := hRL.n; omega, fun B nB => lc_range (lo := 0) (n := ((xs.length : Int)).toNat) (fun i H'' => Same _ H'' ∧ ∃ bs : List Int, H'' B = some (.lst (bs.map V.int)) ∧ bs.length = i)
      ⟨same_new nB, [], upd_same, rfl⟩ (fun i H'' hi ⟨sm, bs, em, hb⟩ => ?_) (fun H10 ⟨s10, bs, eB, hb⟩ => ?_)⟩
    · have nx : ((xs.length : Int)).toNat = rs.length := by have := hRL.n; omega
      refine ⟨rfl, _, rfl, _, rfl, _, 1, rfl, rfl, _, _, rfl, rfl, ⟨by omega, by omega⟩, _, 5, rfl, rfl, (show (0 : Int) < 5 by decide), bs.map V.int, em, szl (by rw [List.length_map]; omega), same_mut sm nB, bs ++ [num / (0 + (i : Int) + 1) % 5], ?_, by rw [List.length_append, hb]; rfl⟩
      rw [upd_same, List.map_append]
      rfl
    have sL10 := sL.trans s10
    have hR10 := hR6.same sL10
    refine ⟨_, rfl, _, rfl, _, rfl, p, M, gs, num, xs, rs, rfl, hR10, sL10 _ _ eG, hl1, gs2, gbd, fun H11 vt dt s11 hdt => ⟨sz (show 2 ≤ 100000 by decide), fun l2 nl2 => ?_⟩⟩
    have tl2 := same_new (o := .lst [V.ref B, vt]) nl2
    refine ⟨l, l2, _, _, rfl, rfl, (tl2 _ _ (s11 _ _ (s10 _ _ upd_same))), upd_same, sz (show 5 ≤ 100000 by decide), fun l3 nl3 => ?_⟩
    have tl3 := same_new (o := .lst ([V.ref M, .ref A1, .ref A3] ++ [V.ref B, vt])) nl3
    have sF := s11.trans (tl2.trans tl3)
    have s610 := sL10.trans sF
    have hRF := hR6.same s610
    have eGF := s610 _ _ eG
    have things : ∀ x ∈ [V.ref M, V.ref A1, V.ref A3] ++ [V.ref B, vt], ∃ dx, Dz K (upd (upd H11 l2 (.lst [V.ref B, vt])) l3 (.lst ([V.ref M, .ref A1, .ref A3] ++ [V.ref B, vt]))) x dx := fun x hx => by
      simp only [List.cons_append, List.nil_append, List.mem_cons, List.not_mem_nil, or_false] at hx
      rcases hx with rfl | rfl | rfl | rfl | rfl
      · exact ⟨_, .inl (.lst (sqL eGF) (dpa_ints _))⟩
      · exact ⟨_, .inl (.lst (sqL (sF _ _ (s10 _ _ (tl _ _ (s89 _ _ eA1))))) (dpa_ints _))⟩
      · exact ⟨_, .inl (.lst (sqL (sF _ _ (s10 _ _ (tl _ _ eA3)))) (dpa_ints _))⟩
      · exact ⟨_, .inl (.lst (sqL (sF _ _ eB)) (dpa_ints _))⟩
      · exact ⟨dt, dz_same (tl2.trans tl3) hdt⟩
    have eL3 := upd_same (H := upd H11 l2 (.lst [V.ref B, vt])) (a := l3) (o := .lst ([V.ref M, .ref A1, .ref A3] ++ [V.ref B, vt]))
    have s1F := s16.trans s610
    generalize hHF : upd (upd H11 l2 (.lst [V.ref B, vt])) l3 (.lst ([V.ref M, .ref A1, .ref A3] ++ [V.ref B, vt])) = HF at *
    refine ⟨_, rfl, l3, rfl, ⟨_, sqL eL3⟩, for_list (xs := [V.ref M, V.ref A1, V.ref A3] ++ [V.ref B, vt]) (K := K) (fun j σ H' => ∃ x7 x8 x9, σ = [some (V.ref a), some (V.str wy), some (V.ref s), some (V.ref e), some (V.int d.left), some (V.int num), some (V.ref l3), x7, x8, x9, some (V.ref M), some (V.ref p), none, none] ∧ Same HF H')
      ⟨none, none, none, rfl, Same.refl _⟩ (fun j σ H' _ ⟨_, _, _, _, sQ⟩ => sqL (sQ _ _ eL3)) (fun j x σ H' hx ⟨x7, x8, x9, hσ, sQ⟩ => ?_) (fun σ H' ⟨x7, x8, x9, hσ, sQ⟩ => ?_)⟩
    · subst hσ
      obtain ⟨dx, hdx⟩ := things x (List.mem_of_getElem? hx)
      have hdx1 := dz_same sQ hdx
      refine ⟨_, rfl, _, rfl, _, rfl, wy, p, x, dx, xs, rs, rfl, hw, hRF.same sQ, hg, hdx1, fun H12 s12' => ?_⟩
      refine ⟨_, rfl, _, rfl, _, rfl, is_right_good hw ((hRF.same sQ).same s12') hg (dz_same s12' hdx1) fun H13 s13 => ?_⟩
      refine ⟨_, rfl, isi_bool (d := .bool (isRightD wy rs dx)) (.inl (.bl _)) ⟨_, rfl, iteF ⟨_, rfl, _, rfl, rfl, _, rfl, ?_⟩⟩⟩
      show (if (!decide (V.bl (isRightD wy rs dx) = V.bl (isRightD wy rs dx))) = true then _ else _)
      rw [decide_eq_true rfl]
      exact iteF ⟨_, _, _, rfl, (sQ.trans s12').trans s13⟩
    · subst hσ
      have hTF := hT.ext (s1F.trans sQ)
      have hRE := hRF.same sQ
      refine lam_word hTF fun H14 x14 hT14 E1 Q1 hE hQ => ⟨sz (show 1 ≤ 100000 by decide), fun b1 nb1 => ⟨_, rfl, _, rfl, .ref b1, .ref p, .ref M, .list [.str "odd"], rowsD rs, .list (gs.map PyData.int), rfl, .inl (.lst (sqL upd_same) (.cons (.str _) .nil)), .inl ((hRE.ext x14).same (same_new nb1)).dp, .inl (.lst (same_seq (same_new nb1) (ext_seq x14 (sqL (sQ _ _ eGF)))) (dpa_ints _)), fun _ H7' s7' => hE "BadWay" (by decide) _ fun H15 p15 s15' n15 e15 => ?_, fun z => absurd z (by decide), fun _ _ _ e1 => by cases e1⟩⟩
      refine ⟨sz (show 1 ≤ 100000 by decide), fun l9 nl9 => ?_⟩
      have sl := same_new (o := .lst [V.str "way"]) nl9
      refine ⟨.list [.str "way"], .list [.str "way"], .lst (sqL (sl _ _ e15)) (.cons (.str _) .nil), .lst (sqL upd_same) (.cons (.str _) .nil), by decide +kernel, by decide +kernel, _, rfl, ?_⟩
      rw [show PyData.eqv (.list [.str "way"]) (.list [.str "way"]) = true by decide +kernel]
      have x8 := x14.trans (ext_of (((same_new (o := .lst [V.str "odd"]) nb1).trans (s7'.trans s15')).trans sl))
      refine iteT ⟨_, rfl, _, rfl, _, rfl, is_right_good hw (hRE.ext x8) hg (.inl (.lst (ext_seq x8 (sqL (sQ _ _ eGF))) (dpa_ints gs))) fun H16 s16' => ?_⟩
      rw [hgr]
      exact ⟨true, true, rfl, rfl, q _⟩
end
end SS

namespace SS
open PySem PySem.Spec PyProof.Rows L2 LamX
def d_is_whole : He.DefD := ⟨("is_whole", none), "is_whole", "is_whole", defArgs s_is_whole, defBody s_is_whole, defScope s_is_whole, [], []⟩
def d_need_way : He.DefD := ⟨("need_way", none), "need_way", "need_way", defArgs s_need_way, defBody s_need_way, defScope s_need_way, [], []⟩
def d_by_way : He.DefD := ⟨("by_way", none), "by_way", "by_way", defArgs s_by_way, defBody s_by_way, defScope s_by_way, [], []⟩
def d__law_mixed : He.DefD := ⟨("_law_mixed", none), "_law_mixed", "_law_mixed", defArgs s__law_mixed, defBody s__law_mixed, defScope s__law_mixed, [], []⟩
def d_is_list : He.DefD := ⟨("is_list", none), "is_list", "is_list", defArgs s_is_list, defBody s_is_list, defScope s_is_list, [], []⟩
def d_are_lists : He.DefD := ⟨("are_lists", none), "are_lists", "are_lists", defArgs s_are_lists, defBody s_are_lists, defScope s_are_lists, [], []⟩
def d_need_lists : He.DefD := ⟨("need_lists", none), "need_lists", "need_lists", defArgs s_need_lists, defBody s_need_lists, defScope s_need_lists, [], []⟩
def d_need_seats : He.DefD := ⟨("need_seats", none), "need_seats", "need_seats", defArgs s_need_seats, defBody s_need_seats, defScope s_need_seats, [], []⟩
def d_claim : He.DefD := ⟨("claim", none), "claim", "claim", defArgs s_claim, defBody s_claim, defScope s_claim, [], []⟩
def d_is_above : He.DefD := ⟨("is_above", none), "is_above", "is_above", defArgs s_is_above, defBody s_is_above, defScope s_is_above, [], []⟩
def d_open_places : He.DefD := ⟨("open_places", none), "open_places", "open_places", defArgs s_open_places, defBody s_open_places, defScope s_open_places, [], []⟩
def d_greatest_places : He.DefD := ⟨("greatest_places", none), "greatest_places", "greatest_places", defArgs s_greatest_places, defBody s_greatest_places, defScope s_greatest_places, [], []⟩
def d_dealt : He.DefD := ⟨("dealt", none), "dealt", "dealt", defArgs s_dealt, defBody s_dealt, defScope s_dealt, [], []⟩
def d_deal : He.DefD := ⟨("deal", none), "deal", "deal", defArgs s_deal, defBody s_deal, defScope s_deal, [], []⟩
def d__law_cell_at : He.DefD := ⟨("_law_cell_at", none), "_law_cell_at", "_law_cell_at", defArgs s__law_cell_at, defBody s__law_cell_at, defScope s__law_cell_at, [], []⟩
def d__law_votes : He.DefD := ⟨("_law_votes", none), "_law_votes", "_law_votes", defArgs s__law_votes, defBody s__law_votes, defScope s__law_votes, [], []⟩
def d__law_lists : He.DefD := ⟨("_law_lists", none), "_law_lists", "_law_lists", defArgs s__law_lists, defBody s__law_lists, defScope s__law_lists, [], []⟩
def d__law_seats : He.DefD := ⟨("_law_seats", none), "_law_seats", "_law_seats", defArgs s__law_seats, defBody s__law_seats, defScope s__law_seats, [], []⟩
def d_are_seats : He.DefD := ⟨("are_seats", none), "are_seats", "are_seats", defArgs s_are_seats, defBody s_are_seats, defScope s_are_seats, [], []⟩
def d_is_right : He.DefD := ⟨("is_right", none), "is_right", "is_right", defArgs s_is_right, defBody s_is_right, defScope s_is_right, [], []⟩
def d__law_divisor : He.DefD := ⟨("_law_divisor", none), "_law_divisor", "_law_divisor", defArgs s__law_divisor, defBody s__law_divisor, defScope s__law_divisor, [], []⟩
def d__law_rank : He.DefD := ⟨("_law_rank", none), "_law_rank", "_law_rank", defArgs s__law_rank, defBody s__law_rank, defScope s__law_rank, [], []⟩
def d__law_is_right : He.DefD := ⟨("_law_is_right", none), "_law_is_right", "_law_is_right", defArgs s__law_is_right, defBody s__law_is_right, defScope s__law_is_right, [], []⟩
def d__law_moved : He.DefD := ⟨("_law_moved", none), "_law_moved", "_law_moved", defArgs s__law_moved, defBody s__law_moved, defScope s__law_moved, [], []⟩
def d__law_thing : He.DefD := ⟨("_law_thing", none), "_law_thing", "_law_thing", defArgs s__law_thing, defBody s__law_thing, defScope s__law_thing, [], []⟩
def d__law_word : He.DefD := ⟨("_law_word", none), "_law_word", "_law_word", defArgs s__law_word, defBody s__law_word, defScope s__law_word, [], []⟩
def d_law : He.DefD := ⟨("law", none), "law", "law", defArgs s_law, defBody s_law, defScope s_law, [], []⟩
def fnL : List He.DefD := [d_is_whole, d_need_way, d_by_way, d__law_mixed, d_is_list, d_are_lists, d_need_lists, d_need_seats, d_claim, d_is_above, d_open_places, d_greatest_places, d_dealt, d_deal, d__law_cell_at, d__law_votes, d__law_lists, d__law_seats, d_are_seats, d_is_right, d__law_divisor, d__law_rank, d__law_is_right, d__law_moved, d__law_thing, d__law_word, d_law]
def faL : List He.Fa := (bzNames.map He.Fa.free) ++ [.glo "is_whole", .glo "need_way", .glo "by_way", .glo "_law_mixed", .glo "is_list", .glo "are_lists", .glo "need_lists", .glo "need_seats", .glo "claim", .glo "is_above", .glo "open_places", .glo "greatest_places", .glo "dealt", .glo "deal", .glo "_law_cell_at", .glo "_law_votes", .glo "_law_lists", .glo "_law_seats", .glo "are_seats", .glo "is_right", .glo "_law_divisor", .glo "_law_rank", .glo "_law_is_right", .glo "_law_moved", .glo "_law_thing", .glo "_law_word", .glo "law", .glo "WAYS", .int "MOST_VOTES" (10 ^ 30), .int "MOST_SEATS" 200, .int "MOST_LISTS" 12, .glo "ShareError"]
def exL (K : PySem.W.Frag) : Bool := ((exFB K "BadWay") && ((exFB K "BadLists") && ((exFB K "BadSeats") && ((He.tupB K "WAYS" (ways.map He.Dv.str)) && ((exAllB K) && ((exNames.all fun x => He.eqO (PySem.W.nsIn K mainGlobals x) (some (some (.ref (He.ga K x)))))))))))
def tfL : List He.Defn := [("law", none)]
abbrev RL : PySem.W.OpenRow := PySem.W.OpenLaw.row PySem.Challenge.rw_seatshares_k04_right_or_not
abbrev hkL : PySem.W.Hook := He.hookX 5 faL fnL [] tfL exL
def obL (s : PySem.W.SharedT) : He.AlX := He.obsX 5 faL fnL [] tfL exL (HandSHeadRun.getT s)
theorem ob_eq (s : PySem.W.SharedT) : obL s = hkL.obs s.abs := He.obsX_eq (HandSHeadRun.getT_eq s)
def looseL : List Str := (["ShareError", "BadWay", "BadCount", "BadLists", "BadSeats", "BadPrice", "BadPlace", "BadGroups", "Tied", "BadText", "WAYS", "MOST_SEATS", "is_whole", "need_way", "by_way", "is_above", "MOST_LISTS", "MOST_VOTES", "is_list", "are_lists", "need_lists", "need_seats", "claim", "open_places", "greatest_places", "dealt", "deal", "are_seats", "is_right", "_law_cell_at"] : List Str) ++ (["_law_mixed", "_law_votes", "_law_lists", "_law_seats", "_law_divisor", "_law_rank", "_law_word", "_law_is_right", "_law_moved", "_law_thing"] : List Str)
theorem runL (w : World) : HandSHeadRun.RunEq RL (PySem.W.view RL.prog [45]) hkL obL 40000 looseL w := by
  intro os
  kernel_rfl
theorem factsL {P : Program} {w : World} {K : PySem.W.Frag} {h : Heap} {mg : Str → Option Value} {fa : Addr} (X : K.In h) (G : h.Ns mainGlobals mg) (hfa : mg ("law" : Str) = some (.ref fa)) (c : He.SaysX faL fnL [] tfL exL w h K) :
    ∃ fd : FuncData, (∀ (s : Shared) (v : Value), BindsTo s fd ⟨[v], []⟩ [("_law_script", v)]) ∧ ∀ base : Heap, K.In base → base.Ns mainGlobals mg → (∀ p ∈ tfL.map (He.cT K), TabB base mg p.1 p.2) → FnOk P w K mg base (L2.CX P w) 8 fa fd ["_law_script"] (sp_law K) := by
  have cd := c.t.d
  have Z : BZ mg := bz_of fun x hx => He.free_ok X G (cd.facts (f := .free x) (List.mem_append_left _ (List.mem_map.mpr ⟨x, hx, rfl⟩)))
  have D_is_whole : DefAt K mg "is_whole" s_is_whole := ⟨He.glo_ok X G (cd.fact 17 (f := .glo "is_whole") rfl), cd.def_ 0 (d := d_is_whole) rfl⟩
  have D_need_way : DefAt K mg "need_way" s_need_way := ⟨He.glo_ok X G (cd.fact 18 (f := .glo "need_way") rfl), cd.def_ 1 (d := d_need_way) rfl⟩
  have D_by_way : DefAt K mg "by_way" s_by_way := ⟨He.glo_ok X G (cd.fact 19 (f := .glo "by_way") rfl), cd.def_ 2 (d := d_by_way) rfl⟩
  have D__law_mixed : DefAt K mg "_law_mixed" s__law_mixed := ⟨He.glo_ok X G (cd.fact 20 (f := .glo "_law_mixed") rfl), cd.def_ 3 (d := d__law_mixed) rfl⟩
  have D_is_list : DefAt K mg "is_list" s_is_list := ⟨He.glo_ok X G (cd.fact 21 (f := .glo "is_list") rfl), cd.def_ 4 (d := d_is_list) rfl⟩
  have D_are_lists : DefAt K mg "are_lists" s_are_lists := ⟨He.glo_ok X G (cd.fact 22 (f := .glo "are_lists") rfl), cd.def_ 5 (d := d_are_lists) rfl⟩
  have D_need_lists : DefAt K mg "need_lists" s_need_lists := ⟨He.glo_ok X G (cd.fact 23 (f := .glo "need_lists") rfl), cd.def_ 6 (d := d_need_lists) rfl⟩
  have D_need_seats : DefAt K mg "need_seats" s_need_seats := ⟨He.glo_ok X G (cd.fact 24 (f := .glo "need_seats") rfl), cd.def_ 7 (d := d_need_seats) rfl⟩
  have D_claim : DefAt K mg "claim" s_claim := ⟨He.glo_ok X G (cd.fact 25 (f := .glo "claim") rfl), cd.def_ 8 (d := d_claim) rfl⟩
  have D_is_above : DefAt K mg "is_above" s_is_above := ⟨He.glo_ok X G (cd.fact 26 (f := .glo "is_above") rfl), cd.def_ 9 (d := d_is_above) rfl⟩
  have D_open_places : DefAt K mg "open_places" s_open_places := ⟨He.glo_ok X G (cd.fact 27 (f := .glo "open_places") rfl), cd.def_ 10 (d := d_open_places) rfl⟩
  have D_greatest_places : DefAt K mg "greatest_places" s_greatest_places := ⟨He.glo_ok X G (cd.fact 28 (f := .glo "greatest_places") rfl), cd.def_ 11 (d := d_greatest_places) rfl⟩
  have D_dealt : DefAt K mg "dealt" s_dealt := ⟨He.glo_ok X G (cd.fact 29 (f := .glo "dealt") rfl), cd.def_ 12 (d := d_dealt) rfl⟩
  have D_deal : DefAt K mg "deal" s_deal := ⟨He.glo_ok X G (cd.fact 30 (f := .glo "deal") rfl), cd.def_ 13 (d := d_deal) rfl⟩
  have D__law_cell_at : DefAt K mg "_law_cell_at" s__law_cell_at := ⟨He.glo_ok X G (cd.fact 31 (f := .glo "_law_cell_at") rfl), cd.def_ 14 (d := d__law_cell_at) rfl⟩
  have D__law_votes : DefAt K mg "_law_votes" s__law_votes := ⟨He.glo_ok X G (cd.fact 32 (f := .glo "_law_votes") rfl), cd.def_ 15 (d := d__law_votes) rfl⟩
  have D__law_lists : DefAt K mg "_law_lists" s__law_lists := ⟨He.glo_ok X G (cd.fact 33 (f := .glo "_law_lists") rfl), cd.def_ 16 (d := d__law_lists) rfl⟩
  have D__law_seats : DefAt K mg "_law_seats" s__law_seats := ⟨He.glo_ok X G (cd.fact 34 (f := .glo "_law_seats") rfl), cd.def_ 17 (d := d__law_seats) rfl⟩
  have D_are_seats : DefAt K mg "are_seats" s_are_seats := ⟨He.glo_ok X G (cd.fact 35 (f := .glo "are_seats") rfl), cd.def_ 18 (d := d_are_seats) rfl⟩
  have D_is_right : DefAt K mg "is_right" s_is_right := ⟨He.glo_ok X G (cd.fact 36 (f := .glo "is_right") rfl), cd.def_ 19 (d := d_is_right) rfl⟩
  have D__law_divisor : DefAt K mg "_law_divisor" s__law_divisor := ⟨He.glo_ok X G (cd.fact 37 (f := .glo "_law_divisor") rfl), cd.def_ 20 (d := d__law_divisor) rfl⟩
  have D__law_rank : DefAt K mg "_law_rank" s__law_rank := ⟨He.glo_ok X G (cd.fact 38 (f := .glo "_law_rank") rfl), cd.def_ 21 (d := d__law_rank) rfl⟩
  have D__law_is_right : DefAt K mg "_law_is_right" s__law_is_right := ⟨He.glo_ok X G (cd.fact 39 (f := .glo "_law_is_right") rfl), cd.def_ 22 (d := d__law_is_right) rfl⟩
  have D__law_moved : DefAt K mg "_law_moved" s__law_moved := ⟨He.glo_ok X G (cd.fact 40 (f := .glo "_law_moved") rfl), cd.def_ 23 (d := d__law_moved) rfl⟩
  have D__law_thing : DefAt K mg "_law_thing" s__law_thing := ⟨He.glo_ok X G (cd.fact 41 (f := .glo "_law_thing") rfl), cd.def_ 24 (d := d__law_thing) rfl⟩
  have D__law_word : DefAt K mg "_law_word" s__law_word := ⟨He.glo_ok X G (cd.fact 42 (f := .glo "_law_word") rfl), cd.def_ 25 (d := d__law_word) rfl⟩
  have D_law : DefAt K mg "law" s_law := ⟨He.glo_ok X G (cd.fact 43 (f := .glo "law") rfl), cd.def_ 26 (d := d_law) rfl⟩
  have G_WAYS : mg "WAYS" = some (.ref (He.ga K "WAYS")) := He.glo_ok X G (cd.fact 44 (f := .glo "WAYS") rfl)
  have G_MOST_VOTES : ∃ t, mg "MOST_VOTES" = some (.int (10 ^ 30) t) := He.int_ok X G (cd.fact 45 (f := .int "MOST_VOTES" (10 ^ 30)) rfl)
  have G_MOST_SEATS : ∃ t, mg "MOST_SEATS" = some (.int 200 t) := He.int_ok X G (cd.fact 46 (f := .int "MOST_SEATS" 200) rfl)
  have G_MOST_LISTS : ∃ t, mg "MOST_LISTS" = some (.int 12 t) := He.int_ok X G (cd.fact 47 (f := .int "MOST_LISTS" 12) rfl)
  have gS : mg "ShareError" = some (.ref (He.ga K "ShareError")) := He.glo_ok X G (cd.fact 48 (f := .glo "ShareError") rfl)
  have m0 := c.more
  unfold exL at m0
  obtain ⟨x0, m0⟩ := He.ba m0
  obtain ⟨x1, m0⟩ := He.ba m0
  obtain ⟨x2, m0⟩ := He.ba m0
  obtain ⟨x3, m0⟩ := He.ba m0
  obtain ⟨x4, m0⟩ := He.ba m0
  have x5 := m0
  have E_BadWay : ExF K mg "BadWay" := exF_of X G x0
  have E_BadLists : ExF K mg "BadLists" := exF_of X G x1
  have E_BadSeats : ExF K mg "BadSeats" := exF_of X G x2
  have S_WAYS : ∀ H : Hp, SqT K H (He.ga K "WAYS") (ways.map V.str) := fun H => He.tupB_ok x3 H
  have EA : ExAll K := exAll_of x4
  have EG : ∀ x ∈ exNames, mg x = some (.ref (He.ga K x)) := fun x hx => PySem.W.mg_of X G (He.eqO_ok (List.all_eq_true.mp x5 x hx))
  obtain ⟨fdl, FD⟩ := D_law.2
  have hfl : fa = He.ga K "law" := Value.ref.inj (Option.some.inj (hfa.symm.trans D_law.1))
  obtain ⟨oc, od, dV, kV, doc, pm, an, cdv, ct, osl, efd, lk, _⟩ := id FD.ex
  refine ⟨fdl, fun s v => FD.bindsA (ps := ["_law_script"]) (fun _ _ _ _ _ _ us hl => match us, hl with | [_], _ => rfl) s [v] rfl, fun base KB GB TB => ?_⟩
  have TB_law : TabB base mg (He.codeOf K ("law", none)) (tbl K "law") := TB _ (List.mem_map.mpr ⟨("law", none), by simp [tfL], rfl⟩)
  have W : WordOk P w K mg base := word_ok Z EA EG gS D__law_word
  have O_is_whole := ok_is_whole (P := P) (w := w) (base := base) Z D_is_whole
  have O_need_way := ok_need_way (P := P) (w := w) (base := base) Z E_BadWay G_WAYS S_WAYS D_need_way
  have O_by_way := ok_by_way (P := P) (w := w) (base := base) Z D_by_way
  have O__law_mixed := ok__law_mixed (P := P) (w := w) (base := base) Z D__law_mixed
  have O_is_list := ok_is_list (P := P) (w := w) (base := base) Z O_is_whole G_MOST_VOTES G_MOST_SEATS D_is_list
  have O_are_lists := ok_are_lists (P := P) (w := w) (base := base) Z O_is_list G_MOST_LISTS D_are_lists
  have O_need_lists := ok_need_lists (P := P) (w := w) (base := base) Z O_are_lists E_BadLists D_need_lists
  have O_need_seats := ok_need_seats (P := P) (w := w) (base := base) Z O_is_whole E_BadSeats D_need_seats
  have O_claim := ok_claim (P := P) (w := w) (base := base) Z O_by_way D_claim
  have O_is_above := ok_is_above (P := P) (w := w) (base := base) Z D_is_above
  have O_open_places := ok_open_places (P := P) (w := w) (base := base) Z D_open_places
  have O_greatest_places := ok_greatest_places (P := P) (w := w) (base := base) Z O_open_places O_claim O_is_above D_greatest_places
  have O_dealt := ok_dealt (P := P) (w := w) (base := base) Z O_greatest_places D_dealt
  have O_deal := ok_deal (P := P) (w := w) (base := base) Z O_need_way O_need_lists O_need_seats O_dealt D_deal
  have O__law_cell_at := ok__law_cell_at (P := P) (w := w) (base := base) Z D__law_cell_at
  have O__law_votes := ok__law_votes (P := P) (w := w) (base := base) Z O__law_mixed D__law_votes
  have O__law_lists := ok__law_lists (P := P) (w := w) (base := base) Z O__law_mixed O__law_cell_at O__law_votes D__law_lists
  have O__law_seats := ok__law_seats (P := P) (w := w) (base := base) Z O__law_mixed D__law_seats
  have O_are_seats := ok_are_seats (P := P) (w := w) (base := base) Z O_is_whole D_are_seats
  have O_is_right := ok_is_right (P := P) (w := w) (base := base) Z O_need_way O_need_lists O_are_seats O_open_places O_claim O_is_above D_is_right
  have O__law_divisor := ok__law_divisor (P := P) (w := w) (base := base) Z D__law_divisor
  have O__law_rank := ok__law_rank (P := P) (w := w) (base := base) Z O__law_divisor D__law_rank
  have O__law_is_right := ok__law_is_right (P := P) (w := w) (base := base) Z O__law_rank D__law_is_right
  have O__law_moved := ok__law_moved (P := P) (w := w) (base := base) Z D__law_moved
  have O__law_thing := ok__law_thing (P := P) (w := w) (base := base) Z D__law_thing
  have O_law := ok_law (P := P) (w := w) (base := base) Z O__law_mixed O__law_cell_at O__law_lists O_deal O__law_seats O__law_moved O__law_thing O__law_is_right O_is_right W TB_law D_law
  refine OkF.law O_law hfa (oc := oc) (od := od) (osl := osl) ?_
  rw [hfl]
  exact lk
end SS
open PySem PySem.W PySem.Calls PyProof.Rows
theorem PySem.Challenge.cw_seatshares_k04_right_or_not_holds : PySem.Challenge.rw_seatshares_k04_right_or_not.Holds := by
  w_on; o_law
  refine HandSHeadRun.head_any (r := OpenLaw.row PySem.Challenge.rw_seatshares_k04_right_or_not) (q := view (OpenLaw.row PySem.Challenge.rw_seatshares_k04_right_or_not).prog [45]) (H := SS.hkL) (ob := SS.obL) (M := 40000) (loose := SS.looseL)
    (d := HandSHeadRun.topDef (OpenLaw.row PySem.Challenge.rw_seatshares_k04_right_or_not).prog 45) (kwd := []) SS.ob_eq
    (by kernel_rfl) (fun s => by kernel_rfl) SS.runL (by kernel_rfl) (by kernel_rfl) (by kernel_rfl) (by rfl) (by first | assumption | decide +kernel) (by decide +kernel) ⟨rfl, rfl, rfl, rfl, rfl, by decide +kernel⟩ ?hw ?hc
  case hw => w_witness2
  case hc =>
    refine LamX.walk_ofTsE (l := PySem.Challenge.rw_seatshares_k04_right_or_not) (n := 63) (k := 8) (x := "_law_script") (CX := fun w => L2.CX (PySem.Challenge.rw_seatshares_k04_right_or_not).prog w) rfl (by decide) (by kernel_rfl) ⟨rfl, by decide, by decide⟩ ?F ?C
    case C =>
      intro w H s e s' z
      obtain ⟨_, _, _, _, _, _, _, _, _, _, _, _, z⟩ := z
      exact z.elim
    case F =>
      intro w mg fa h Y G hmg0
      obtain ⟨K, KX, c⟩ := Y
      have hmg : mg ("law" : PySem.Str) = some (.ref fa) := by
        have e : (HandSHeadRun.topDef (OpenLaw.row PySem.Challenge.rw_seatshares_k04_right_or_not).prog 45).name = ("law" : PySem.Str) := by kernel_rfl
        rw [← e]
        exact hmg0
      obtain ⟨fd, hb, hF⟩ := SS.factsL (P := (PySem.Challenge.rw_seatshares_k04_right_or_not).prog) (w := w) KX G hmg c
      refine ⟨K, KX, fd, SS.tfL.map (He.cT K), SS.sp_law K, fun p hp => ?_, fun p hp => ?_, fun p hp => ?_, hb, fun H a ns hl hbits hT hS => ?_, hF⟩
      · obtain ⟨d, hd, rfl⟩ := List.mem_map.mp hp
        exact c.empty d hd
      · obtain ⟨d, hd, rfl⟩ := List.mem_map.mp hp
        exact c.out d hd
      · obtain ⟨d, hd, rfl⟩ := List.mem_map.mp hp
        exact PySem.W.codeHd_of_K KX (c.hd d hd)
      · refine ⟨a, ns, rfl, hS, hl, ?_, fun _ => rfl⟩
        intro p hp
        rw [List.mem_singleton.mp hp]
        exact LamX.TabS.nil (hT _ (List.mem_map.mpr ⟨("law", none), by simp [SS.tfL], rfl⟩))


