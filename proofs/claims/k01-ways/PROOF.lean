import PyProof.Rows.All
import Wide.All
import OpenK.AllK
import Wide.FinOn
import HandS.ForMost
import HandS.Exc
import HandS.TryOnly
import HandS.ExcOwn
import HandS.ExcIs
import HandS.WordsExc
import HandS.IsInst
import HandS.Wide
import HandS.Defaults
import HandS.Lambda
import HandS.EndTab
import HandS.HeadWalk
import HandS.HeadHook4
import HandS.Head0
import HandS.Head1
import HandS.Head2
import HandS.HeadEnd
import HandS.Walk
import HandS.Zip
import HandS.Deep
import HandS.Conv
import HandS.Flow
import PySem.Challenge.RW_seatshares_k01_ways
set_option Elab.async false
set_option linter.all false
set_option maxRecDepth 100000
set_option maxHeartbeats 4000000
/-! own rules, law-independent -/
namespace SS
open PySem PySem.Spec PyProof.Rows L2

/-! ### a def by its name -/
/-- the def named x keeps the promise sp at level k -/
def OkF (P : Program) (w : World) (K : PySem.W.Frag) (mg : Str → Option Value) (base : Heap) (k : Nat) (x : Str) (ps : List Str) (sp : Sp) : Prop :=
  ∃ (f : Addr) (fd : FuncData), mg x = some (.ref f) ∧ PySem.W.keepIn K (.ref f) = true ∧ L2.Binds K fd ps [] ∧ FnOk P w K mg base (L2.CX P w) k f fd ps sp ∧
    ∃ (oc : Value) (od : Option Addr) (osl : Array (Option Value)), K.lookup f = some ⟨oc, od, .func fd, osl⟩
/-- the def's place and text -/
def DefAt (K : PySem.W.Frag) (mg : Str → Option Value) (x : Str) (st : Stmt) : Prop :=
  mg x = some (.ref (He.ga K x)) ∧ ∃ fd : FuncData, FunD K x x (defArgs st) (defBody st) (defScope st) [] [] (He.ga K x) fd
section
variable {P : Program} {w : World} {K : PySem.W.Frag} {mg : Str → Option Value} {base : Heap}
theorem OkF.mk' {x : Str} {st : Stmt} {N ps : List Str} {k : Nat} {sp : Sp} (D : DefAt K mg x st) (S : FnScope N ps (defScope st))
    (hb : ∀ (kV doc pm : Value) (an : Option Addr) (cdv ct : Value) (us : List Value), us.length = ps.length → bindArgs (PySem.W.fnOf x x (defArgs st) (defBody st) (defScope st) .none kV doc pm an cdv ct) ⟨us, []⟩ = pure (ps.zip us))
    (len : ∀ vs H Q E, sp vs H Q E → vs.length = ps.length)
    (body : ∀ (f : Addr) (cdv : Value) (A : Around) (outer : List Env) (s : Shared) (H : Hp) (vs : List V) (Q : VK) (E : XK), Room k (A.deeper (envOfC x (defScope st) s.heap.objs.size f cdv)) → sp vs H Q E →
      ∃ t, PSs (cxOf (L2.CX P w) P w K mg base N x (defScope st) f cdv A outer s H E) (defBody st) t ∧ t { nx := fun _ H' => Q .non H', rt := Q } (start N vs) H) :
    OkF P w K mg base (k + 1) x ps sp := by
  obtain ⟨hm, fd, F⟩ := D
  refine ⟨_, fd, hm, F.kp, F.bindsN hb, F.ok S len (body _), ?_⟩
  obtain ⟨oc, od, dV, kV, doc, pm, an, cdv, ct, osl, rfl, lk, _⟩ := F.ex
  exact ⟨_, _, _, lk⟩
/-- the same where the def makes lambdas: its code object's address is told -/
theorem OkF.mkL {x : Str} {st : Stmt} {N ps : List Str} {k : Nat} {sp : Sp} (D : DefAt K mg x st) (S : FnScope N ps (defScope st))
    (hb : ∀ (kV doc pm : Value) (an : Option Addr) (cdv ct : Value) (us : List Value), us.length = ps.length → bindArgs (PySem.W.fnOf x x (defArgs st) (defBody st) (defScope st) .none kV doc pm an cdv ct) ⟨us, []⟩ = pure (ps.zip us))
    (len : ∀ vs H Q E, sp vs H Q E → vs.length = ps.length)
    (body : ∀ (f : Addr) (cdv : Value) (A : Around) (outer : List Env) (s : Shared) (H : Hp) (vs : List V) (Q : VK) (E : XK), cdv = .ref (He.codeOf K (x, none)) → Room k (A.deeper (envOfC x (defScope st) s.heap.objs.size f cdv)) → sp vs H Q E →
      ∃ t, PSs (cxOf (L2.CX P w) P w K mg base N x (defScope st) f cdv A outer s H E) (defBody st) t ∧ t { nx := fun _ H' => Q .non H', rt := Q } (start N vs) H) :
    OkF P w K mg base (k + 1) x ps sp := by
  obtain ⟨hm, fd, F⟩ := D
  refine ⟨_, fd, hm, F.kp, F.bindsN hb, ?_, ?_⟩
  rotate_left
  · obtain ⟨oc, od, dV, kV, doc, pm, an, cdv, ct, osl, rfl, lk, _⟩ := F.ex
    exact ⟨_, _, _, lk⟩
  obtain ⟨oc, od, dV, kV, doc, pm, an, cdv, ct, osl, rfl, lk, hcd, _, _⟩ := F.ex
  obtain ⟨c, rfl⟩ := He.codeIn_ref hcd
  have ec : He.codeOf K (x, none) = c := He.codeOf_eq (p := (x, none)) lk rfl
  exact fn_of lk hcd S len fun A outer s H vs Q E hr hsp => body _ _ A outer s H vs Q E (by rw [ec]) hr hsp
theorem OkF.up {x : Str} {ps : List Str} {j k : Nat} {sp : Sp} (O : OkF P w K mg base j x ps sp) (h : j ≤ k) : OkF P w K mg base k x ps sp := by
  obtain ⟨f, fd, a, b, c, d, e⟩ := O
  exact ⟨f, fd, a, b, c, d.mono h, e⟩
/-- the law's own def: its function object is the same over every base -/
theorem OkF.law {x : Str} {ps : List Str} {k : Nat} {sp : Sp} {fa : Addr} {fd : FuncData} {oc : Value} {od : Option Addr} {osl : Array (Option Value)} (O : OkF P w K mg base k x ps sp) (hf : mg x = some (.ref fa)) (lk : K.lookup fa = some ⟨oc, od, .func fd, osl⟩) :
    FnOk P w K mg base (L2.CX P w) k fa fd ps sp := by
  obtain ⟨f1, fd1, a, b, c, d, oc1, od1, osl1, e⟩ := O
  have e1 : fa = f1 := Value.ref.inj (Option.some.inj (hf.symm.trans a))
  subst e1
  have e2 : fd = fd1 := by
    have z := lk.symm.trans e
    cases z
    rfl
  subst e2
  exact d
end
section
variable {X : Cx} {x : Str} {ps : List Str} {k : Nat} {sp : Sp} {E : XK} {p pos : Pos} {e : Expr} {es : List Expr} {t : TA}
theorem pc (O : OkF X.prog X.w X.K X.mg X.base k x ps sp) (hr : Room k X.A) (hx : Passes (L2.CX X.prog X.w) X E) (ha : PA X (e :: es) t) (hg : Gl X x := by rfl)
    (hdb : (x == ("__debug__" : Str)) = false := by decide) (he : starEach (e :: es) X.env = (false, eval e X.env) :: starEach es X.env := by rfl) (hpl : (backTo pos (starEach es X.env)).any (·.1) = false := by rfl) :
    PE X (.Call (.Name x p) (e :: es) [] pos) (tCall sp [] E t) := by
  obtain ⟨f, fd, hm, hk, hb, F, _⟩ := O
  exact pe_call F hr hg hm hk hb .nil hx ha hdb he hpl
end

/-! ### built-in names that the module leaves alone -/
structure BZ (mg : Str → Option Value) : Prop where
  len : mg "len" = none
  sum : mg "sum" = none
  min : mg "min" = none
  max : mg "max" = none
  zip : mg "zip" = none
  enumerate : mg "enumerate" = none
  range : mg "range" = none
  isinstance : mg "isinstance" = none
  sorted : mg "sorted" = none
  list : mg "list" = none
  tuple : mg "tuple" = none
  int : mg "int" = none
  bool : mg "bool" = none
  str : mg "str" = none
  all : mg "all" = none
  any : mg "any" = none
  valueError : mg "ValueError" = none
def bzNames : List Str := ["len", "sum", "min", "max", "zip", "enumerate", "range", "isinstance", "sorted", "list", "tuple", "int", "bool", "str", "all", "any", "ValueError"]
theorem bz_of {mg : Str → Option Value} (h : ∀ x ∈ bzNames, mg x = none) : BZ mg :=
  ⟨h _ (by decide), h _ (by decide), h _ (by decide), h _ (by decide), h _ (by decide), h _ (by decide), h _ (by decide), h _ (by decide), h _ (by decide), h _ (by decide), h _ (by decide), h _ (by decide), h _ (by decide), h _ (by decide), h _ (by decide), h _ (by decide), h _ (by decide)⟩

/-! ### xs[i] op= e of a list -/
def rGetN (K : PySem.W.Frag) : V → V → Hp → VK → Prop := fun x y H Q => ∃ (p : Addr) (xs : List V) (i : Nat) (v : V), x = .ref p ∧ y = .int (i : Int) ∧ SqL K H p xs ∧ xs[i]? = some v ∧ Q v H
theorem get_list {X : Cx} : PGet X (rGetN X.K) := by
  intro pins s σ H o i ov iv Q I r1 r2 h
  obtain ⟨p, xs, j, v, rfl, rfl, hq, he, q⟩ := h
  cases r1
  obtain ⟨t, rfl⟩ := r2
  obtain ⟨its, r, pl, hz⟩ := I.list hq
  obtain ⟨u, eu, ru⟩ := r.get he
  have hl := r.length
  have hn := line63
  have hj : j < xs.length := (List.getElem?_eq_some_iff.mp he).1
  exact PySem.wpAny_getItem_list pl.isList (by omega) (by omega) (by simpa using eu) ⟨v, H, I, ru, q⟩

/-! ### an exception that is kept as a value -/
/-- the caught exception at a, of the class at C -/
def ExV (C a : Addr) : HO := .ext fun h => ∃ (oe : Obj) (vs : Array Value), h.get? a = some oe ∧ oe.cls = .ref C ∧ oe.dict = none ∧ oe.data = .fields vs
section
variable {X : Cx} {pins : List (Addr × Obj)} {σ : L2.St} {H : Hp} {s : Shared}
theorem track {a C : Addr} {oe : Obj} {vs : Array Value} (I : Inv X ((a, oe) :: pins) σ H s) (n0 : X.s_0.heap.get? a = none) (hp : ∀ p ∈ X.pn ++ pins, p.1 ≠ a)
    (h1 : oe.cls = .ref C) (h2 : oe.dict = none) (h3 : oe.data = .fields vs) : Inv X pins σ (upd H a (ExV C a)) s := by
  have mem : (a, oe) ∈ X.pn ++ (a, oe) :: pins := List.mem_append_right _ List.mem_cons_self
  obtain ⟨ha, na, nL, nF, nd⟩ := I.pin _ mem
  have old : ∀ b o, X.s_0.heap.get? b = some o → b ≠ a := fun b o e z => by
    rw [z, n0] at e
    cases e
  have tr : ∀ b o, H b = some o → upd H a (ExV C a) b = some o := fun b o e => by
    rw [upd_ne (ne_of_none e na)]
    exact e
  have un : Un X.fs X.ex X.H_0 (upd H a (ExV C a)) X.s_0.heap s.heap := by
    refine ⟨I.base.keep, I.base.slot, fun b o e n hx => ?_, I.base.there, fun b xs e => tr _ _ (I.base.tups b xs e), fun b o u e => tr _ _ (I.base.frzs b o u e), fun b ps e => ?_⟩
    · rw [upd_ne (old b o e)]
      exact I.base.free b o e n hx
    · obtain ⟨m, z⟩ := I.base.tbls b ps e
      exact ⟨m, tr _ _ z⟩
  refine ⟨I.ok, I.os, I.bare, un, I.loc, I.cell, ?_, fun y c e => ?_, fun p q => ?_, fun b u e => ?_, I.len⟩
  · rw [upd_ne (Ne.symm nL)]
    exact I.free
  · have nc : c ≠ a := fun z => by
      obtain ⟨v, o, ho, hd⟩ := I.cell y c e
      rw [z] at ho
      have e2 : oe = o := Option.some.inj (ha.symm.trans ho)
      exact nd v (by rw [← hd, ← e2])
    rw [upd_ne nc]
    exact I.freeC y c e
  · have q' : p ∈ X.pn ++ (a, oe) :: pins := by
      rcases List.mem_append.mp q with z | z
      · exact List.mem_append_left _ z
      · exact List.mem_append_right _ (List.mem_cons_of_mem _ z)
    obtain ⟨e, n, r⟩ := I.pin p q'
    exact ⟨e, by rw [upd_ne (hp p q)]; exact n, r⟩
  · by_cases hb : b = a
    · rw [hb, upd_same] at e
      cases e
      rw [hb]
      exact ⟨⟨oe, vs, ha, h1, h2, h3⟩, ⟨oe, ha⟩, fun g1 g2 ⟨o, v, z1, z2⟩ k => ⟨o, v, k o z1, z2⟩⟩
    · rw [upd_ne hb] at e
      exact (I.hok b u e).stay (fun c v _ q => q) (fun c q => tr _ _ q) fun c xs q => tr _ _ q
end
/-- what the clause «except x as n: y = n» wishes: slot j of y alone is known behind it -/
def wTrk (K : PySem.W.Frag) (c : Value) (j m : Nat) (Wout : WX) (D : Ends) : WX := fun cls d σ H =>
  ∃ b, PySem.W.exmOne K cls c = some b ∧ (b = true → d = none ∧ ∃ C, cls = .ref C ∧ ∀ a, H a = none → ∀ σ2 : L2.St, σ2.length = m → σ2[j]? = some (some (.ref a)) → D.nx σ2 (upd H a (ExV C a))) ∧
    (b = false → Wout cls d σ H)
section
variable {X : Cx} {x n y : Str} {c : Value} {i j : Nat} {body : List Stmt} {np pos pos' p1 p2 p3 : Pos} {tb : WX → TS} {Wout : WX}
theorem ps_try_trk (hs : X.stack = X.env :: X.outer) (hf : X.env.frame = some X.env.locals) (hN : X.N.Nodup) (hi : X.N[i]? = some n) (hln : X.env.kindOf n = some .local)
    (hj : X.N[j]? = some y) (hlj : X.env.scope.names.lookup y = some .local) (hij : i ≠ j) (hc : Names X x c) (tk : Takes X Wout) (hex : X.ex = [])
    (hd1 : (n == ("__debug__" : Str)) = false) (hd2 : (n == ("__classdict__" : Str)) = false)
    (hsw : ∀ a pn, swapsWith (.Name n p2) (some (.Name y p1)) p3.line (X.suite a pn).env = pure false)
    (hb : ∀ (W : WX) (pn : List (Addr × Obj)) (xe : Value → Shared → Prop), Takes (X.tr pn xe) W → PassesOwn (model X.prog X.w) X.A X.env xe → PSs (X.tr pn xe) body (tb W)) :
    PS X (.Try body [.ExceptHandler (some (.Name x np)) (some n) [.Assign [.Name y p1] (.Name n p2) p3] pos'] [] [] pos) (fun D σ H => tb (wTrk X.K c j X.N.length Wout D) D σ H) := by
  refine ⟨fun pins s σ H D I h => ?_⟩
  have ok := I.ok
  have hfr : X.A.frames = some (X.env :: X.outer) := by rw [ok.frames, hs]
  refine wpAny_Try_except ?_
  have hbody := hb (wTrk X.K c j X.N.length Wout D) (X.pn ++ pins)
    (fun e s1 => wpAny (model X.prog X.w) X.A (noteFrame e X.env) (fun _ s2 => wpAny (model X.prog X.w) X.A (setFlight e none) (fun _ s3 =>
      wpAny (model X.prog X.w) X.A (handleBy e X.env [.ExceptHandler (some (.Name x np)) (some n) [.Assign [.Name y p1] (.Name n p2) p3] pos']) (SP X pins D) X.xe s3) X.xe s2) X.xe s1)
    (fun u s' xx => ?_) PassesOwn.looking
  · refine wpAny_mono (hbody.run [] s σ H D (I.toTry _) h) (fun f s1 hsp => ?_) (fun e s1 he => he)
    cases f with
    | next =>
      obtain ⟨σ1, H1, J1, q1⟩ := hsp
      exact wpAny_execs_nil ⟨σ1, H1, J1.ofTry ok, q1⟩
    | brk =>
      obtain ⟨σ1, H1, J1, q1⟩ := hsp
      exact ⟨σ1, H1, J1.ofTry ok, q1⟩
    | cont =>
      obtain ⟨σ1, H1, J1, q1⟩ := hsp
      exact ⟨σ1, H1, J1.ofTry ok, q1⟩
    | ret u =>
      obtain ⟨v1, σ1, H1, J1, r1, q1⟩ := hsp
      exact ⟨v1, σ1, H1, J1.ofTry ok, r1, q1⟩
  · obtain ⟨a, B, sI, pins1, σ1, H1, cls, d, rfl, J0, nb, up, sky, na, os, ag, b, hb1, hyes, hno⟩ := xx
    have J : Inv X pins σ1 H1 sI := J0.ofTry ok
    have skyE : Sky B (X.env :: X.outer) a (Zc cls d) X.env.locals s'.heap := by rw [← hs]; exact sky
    have nB : B.get? a = none := by
      rcases skyE with ⟨_, z, _⟩ | ⟨_, z, _⟩ | ⟨_, z, _⟩ <;> exact z
    show wpAny (model X.prog X.w) X.A (noteFrame (.ref a) X.env) _ _ _
    refine Sky.land Zc.steady hfr hf skyE fun h3 fl3 up3 => ?_
    have J3 : Inv X pins σ1 H1 { s' with heap := h3 } := J.landed nb fl3.1 (up.trans up3) os ag
    obtain ⟨o3, v3, e3, z3, d3⟩ := fl3.there
    have nfr : a ∉ frs (X.env :: X.outer) := fun hm => by
      obtain ⟨_, o2, e2, hnf⟩ := fl3.2.2.1.mem hm
      have e4 : o3 = o2 := Option.some.inj (e3.symm.trans e2)
      exact hnf v3 (by rw [← e4]; exact d3)
    have nL : a ≠ X.env.locals := fun z => nfr (List.mem_filterMap.mpr ⟨X.env, List.mem_cons_self, by rw [hf, z]⟩)
    have nF : a ∉ X.fs := fun hm => by
      obtain ⟨ev, h1, h2⟩ := List.mem_filterMap.mp hm
      exact nfr (List.mem_filterMap.mpr ⟨ev, List.mem_cons_of_mem _ h1, h2⟩)
    have nI : sI.heap.get? a = none := by
      cases q : sI.heap.get? a with
      | none => rfl
      | some o =>
        have z := nb a o q (by rw [show frs X.stack = frs (X.env :: X.outer) by rw [hs]]; exact nfr)
        rw [nB] at z
        cases z
    have n0 : X.s_0.heap.get? a = none := by
      cases q : X.s_0.heap.get? a with
      | none => rfl
      | some o =>
        obtain ⟨o', z⟩ := J.base.there a o q (by rw [hex]; exact fun z => nomatch z)
        rw [nI] at z
        cases z
    have npA : ∀ p ∈ X.pn ++ pins, p.1 ≠ a := fun p hp z => by
      have e := (J.pin p hp).1
      rw [z, nI] at e
      cases e
    have S3 := J3.suite e3 d3 na nL nF
    refine wpAny_handleBy_cons (codeAny_handlers_test ?_) (by intro q; cases q)
    have LT : PySem.W.Looks (model X.prog X.w) h3 (typeOf (.ref a)) cls := fun A Q E s k q => wpAny_typeOf_ref (k _ _ e3) (by rw [z3.1]; exact q)
    have LM := PySem.W.exm_one (M := model X.prog X.w) (J3.kIn) LT hb1
    have test : ∀ {Q : Value → Shared → Prop} {E : Value → Shared → Prop}, Q c { s' with heap := h3 } → wpAny (model X.prog X.w) (X.A.mark (some (.ref a))) (eval (.Name x np) X.env) Q E { s' with heap := h3 } := fun {Q E} q => by
      obtain ⟨hg, hdbg, hm | ⟨hm, hv, hnn⟩⟩ := hc
      · exact ld_glob (X := X.suite a ((a, o3) :: (X.pn ++ pins))) S3 hg hm q hdbg
      · exact ld_blt (X := X.suite a ((a, o3) :: (X.pn ++ pins))) S3 hg hm hv q hnn hdbg
    refine test (LM.here ?_)
    cases b with
    | true =>
      obtain ⟨dN, C, ecls, hyes⟩ := hyes rfl
      refine codeAny_handlers_suite_as ?_
      refine HandSPX.lands_againZ fl3 fun h4 fl4 up4 => ?_
      have J4 : Inv X pins σ1 H1 { s' with heap := h4 } := J.landed nb fl4.1 ((up.trans up3).trans up4) os ag
      obtain ⟨o4, v4, e4, z4, d4⟩ := fl4.there
      have S4 := J4.suite e4 d4 na nL nF
      refine store_ok (X := X.suite a ((a, o4) :: (X.pn ++ pins))) (v := .ref a) S4 hN hi (.inl hln) rfl (fun s5 S5 => ?_) (.inr hln)
      have hl : i < σ1.length := by
        rw [J.len]
        exact (List.getElem?_eq_some_iff.mp hi).1
      have suite : PSs (X.suite a ((a, o4) :: (X.pn ++ pins))) [.Assign [.Name y p1] (.Name n p2) p3] (tAsg (tVar i) (gName j)) :=
        pss_one (ps_set (i := j) hN hj (.inl hlj) (pe_var hi (.inl hln) hd1 hd2) (hsw _ _) (.inr hlj))
      refine wpAny_mono (suite.run [] s5 (σ1.set i (some (.ref a))) H1 { nx := fun σ6 H6 => σ6 = (σ1.set i (some (.ref a))).set j (some (.ref a)) ∧ H6 = H1, rt := fun _ _ => False } S5 ⟨.ref a, by rw [List.getElem?_set_self hl], rfl, rfl⟩) (fun f s6 hsp => ?_) (fun _ _ z => False.elim z)
      cases f with
      | next =>
        obtain ⟨σ6, H6, S6, rfl, rfl⟩ := hsp
        have K6 : Inv X ((a, o4) :: pins) ((σ1.set i (some (.ref a))).set j (some (.ref a))) H6 s6 :=
          ⟨ok, S6.os, S6.bare, S6.base, S6.loc, S6.cell, S6.free, S6.freeC, fun p hp => S6.pin p (by
            show p ∈ ((a, o4) :: (X.pn ++ pins)) ++ []
            rw [List.append_nil]
            rcases List.mem_append.mp hp with z | z
            · exact List.mem_cons_of_mem _ (List.mem_append_left _ z)
            · rcases List.mem_cons.mp z with z | z
              · rw [z]; exact List.mem_cons_self
              · exact List.mem_cons_of_mem _ (List.mem_append_right _ z)), S6.hok, S6.len⟩
        refine gone_ok K6 hN hi hln fun s7 K7 => ?_
        have hlj : j < σ1.length := by
          rw [J.len]
          exact (List.getElem?_eq_some_iff.mp hj).1
        refine ⟨_, _, track K7 n0 npA (by rw [z4.1]; exact ecls) (by rw [z4.2]; exact dN) d4, hyes a na _ ?_ ?_⟩
        · rw [List.length_set, List.length_set, List.length_set]
          exact J.len
        · rw [List.getElem?_set_ne hij, List.getElem?_set_self (by rw [List.length_set]; exact hlj)]
      | brk =>
        obtain ⟨_, _, _, z⟩ := hsp
        exact False.elim z
      | cont =>
        obtain ⟨_, _, _, z⟩ := hsp
        exact False.elim z
      | ret u =>
        obtain ⟨_, _, _, _, _, z⟩ := hsp
        exact False.elim z
    | false =>
      show wpAny _ X.A (handleBy (.ref a) X.env []) _ _ _
      refine wpAny_handleBy_nil ?_
      obtain ⟨k1, k2, k3, oe, vs, T, oT, ts, he, hz, hd, h1, hr⟩ := id fl3
      unfold PySem.passOn
      refine wpAny_bind (wpAny_field he hd h1 ?_)
      rw [if_neg (show ¬ ((Value.ref T == Value.none) = true) from by simp)]
      have fin : wpAny (model X.prog X.w) X.A (setFlight (.ref a) X.env.frame) (fun _ s4 => wpAny (model X.prog X.w) X.A (throw (.ref a) : Sem Flow) (SP X pins D) X.xe s4) X.xe { s' with heap := h3 } := by
        rw [hf]
        refine HandSPX.setFlight_upZ fl3 fun h4 hh4 up4 => wpAny_throw (tk _ _ ?_)
        exact ⟨a, B, sI, pins, σ1, H1, cls, d, rfl, J, nb, (up.trans up3).trans up4, .inr (.inr (by rw [hs]; exact hh4)), na, os, ag, hno rfl⟩
      first
        | exact wpAny_bind (wpAny_pure (wpAny_bind fin))
        | exact wpAny_bind fin
end
/-- isinstance of a kept exception -/
def rIsX (K : PySem.W.Frag) : List V → Hp → VK → Prop := fun xs H Q => ∃ (a D : Addr) (c : V) (u : Value) (b : Bool), xs = [.ref a, c] ∧ H a = some (ExV D a) ∧ ExcC K D ∧ ClsV c u ∧ PySem.W.kitOne K (.ref D) u = some b ∧ Q (.bl b) H
theorem call_isX {X : Cx} : CallR X (.builtin "isinstance") (rIsX X.K) := by
  intro pins s σ H xs us Q I r h
  obtain ⟨a, D, c, u, b, rfl, ea, C, k, e, q⟩ := h
  obtain ⟨u1, u2, rfl, r1, r2⟩ := vals2 r
  have e2 := k.eq r2
  subst e2
  cases (show u1 = Value.ref a from r1)
  obtain ⟨⟨oe, vs, hget, h1, h2, h3⟩, _, _⟩ := I.hok a _ ea
  have J : PySem.W.InstAt s.heap a oe D none := by
    obtain ⟨oc, od, oda, osl⟩ := oe
    dsimp only at h1 h2 h3
    subst h1 h2 h3
    exact ⟨hget, rfl, rfl, trivial⟩
  exact PySem.W.kia_one (PySem.W.handS_kitx_exc C.hg C.hk C.hs C.hd C.ha C.hn C.ht C.hm) I.kIn J e (fun z => nomatch z) fun tk => ⟨.bl b, H, I.kept (t' := tk) fun _ _ z => z, rfl, q⟩
def rIsA (K : PySem.W.Frag) : List V → Hp → VK → Prop := fun xs H Q => rIsi K xs H Q ∨ rIsX K xs H Q
theorem call_isA {X : Cx} : CallR X (.builtin "isinstance") (rIsA X.K) := call_isi.or call_isX
end SS

/-! own lemmas, law-independent: heaps, data, kinds, exception classes -/
namespace SS
open PySem PySem.Spec PyProof.Rows L2 LamX

/-! ### built-in names -/
theorem bt_len : bootBuiltins "len" = some (.builtin "len") := by decide +kernel
theorem bt_sum : bootBuiltins "sum" = some (.builtin "sum") := by decide +kernel
theorem bt_min : bootBuiltins "min" = some (.builtin "min") := by decide +kernel
theorem bt_max : bootBuiltins "max" = some (.builtin "max") := by decide +kernel
theorem bt_isinstance : bootBuiltins "isinstance" = some (.builtin "isinstance") := by decide +kernel
theorem bt_sorted : bootBuiltins "sorted" = some (.builtin "sorted") := by decide +kernel
theorem bt_all : bootBuiltins "all" = some (.builtin "all") := by decide +kernel
theorem bt_any : bootBuiltins "any" = some (.builtin "any") := by decide +kernel
theorem bt_list : bootBuiltins "list" = some (.type "list") := by decide +kernel
theorem bt_tuple : bootBuiltins "tuple" = some (.type "tuple") := by decide +kernel
theorem bt_int : bootBuiltins "int" = some (.type "int") := by decide +kernel
theorem bt_bool : bootBuiltins "bool" = some (.type "bool") := by decide +kernel
theorem bt_str : bootBuiltins "str" = some (.type "str") := by decide +kernel
theorem bt_ValueError : bootBuiltins "ValueError" = some (.type "ValueError") := by decide +kernel

/-! ### heaps -/
theorem same_new {H : Hp} {p : Addr} {o : HO} (h : H p = none) : Same H (upd H p o) := fun b u e => by
  rw [upd_ne (ne_of_none e h)]
  exact e
theorem same_mut {H0 H : Hp} {p : Addr} {o : HO} (s : Same H0 H) (h : H0 p = none) : Same H0 (upd H p o) := fun b u e => by
  rw [upd_ne (ne_of_none e h)]
  exact s b u e
theorem same_free {H H' : Hp} {p : Addr} (s : Same H H') (h : H' p = none) : H p = none := s.free h
theorem ext_of {H H' : Hp} (s : Same H H') : ExtN H H' := ExtN.of s
theorem ext_seq {K : PySem.W.Frag} {H H' : Hp} {a : Addr} {xs : List V} (e : ExtN H H') (h : SqL K H a xs) : SqL K H' a xs := by
  rcases h with (h | ⟨o, h⟩) | h
  · exact .inl (.inl (e _ _ h (fun ps z => by cases z)))
  · exact .inl (.inr ⟨o, e _ _ h (fun ps z => by cases z)⟩)
  · exact .inr h
theorem ext_tup {K : PySem.W.Frag} {H H' : Hp} {a : Addr} {xs : List V} (e : ExtN H H') (h : SqT K H a xs) : SqT K H' a xs := by
  rcases h with (h | ⟨o, h⟩) | h
  · exact .inl (.inl (e _ _ h (fun ps z => by cases z)))
  · exact .inl (.inr ⟨o, e _ _ h (fun ps z => by cases z)⟩)
  · exact .inr h
theorem same_seq {K : PySem.W.Frag} {H H' : Hp} {a : Addr} {xs : List V} (e : Same H H') (h : SqL K H a xs) : SqL K H' a xs := e.seq h
theorem same_tup {K : PySem.W.Frag} {H H' : Hp} {a : Addr} {xs : List V} (e : Same H H') (h : SqT K H a xs) : SqT K H' a xs := ext_tup (ext_of e) h
theorem sqL {K : PySem.W.Frag} {H : Hp} {a : Addr} {xs : List V} (h : H a = some (.lst xs)) : SqL K H a xs := .inl (.inl h)
theorem sqT {K : PySem.W.Frag} {H : Hp} {a : Addr} {xs : List V} (h : H a = some (.tup xs)) : SqT K H a xs := .inl (.inl h)
theorem sz {n : Nat} (h : n ≤ 100000) : n ≤ sizeLine := Nat.le_trans h (by decide)
theorem szl {n : Nat} (h : n < 100000) : n < sizeLine := Nat.lt_of_lt_of_le h (by decide)

/-! ### data on the heap -/
mutual
theorem dp_ext {K : PySem.W.Frag} {H H' : Hp} (e : ExtN H H') : ∀ {v : V} {d : PyData}, Dp K H v d → Dp K H' v d
  | _, _, .non => .non
  | _, _, .bl b => .bl b
  | _, _, .int i => .int i
  | _, _, .str x => .str x
  | _, _, .lst h r => .lst (ext_seq e h) (dpa_ext e r)
  | _, _, .tup h r => .tup (ext_tup e h) (dpa_ext e r)
theorem dpa_ext {K : PySem.W.Frag} {H H' : Hp} (e : ExtN H H') : ∀ {vs : List V} {ds : List PyData}, DpAll K H vs ds → DpAll K H' vs ds
  | _, _, .nil => .nil
  | _, _, .cons h r => .cons (dp_ext e h) (dpa_ext e r)
end
theorem dp_same {K : PySem.W.Frag} {H H' : Hp} {v : V} {d : PyData} (e : Same H H') (h : Dp K H v d) : Dp K H' v d := dp_ext (ext_of e) h
theorem dpa_len {K : PySem.W.Frag} {H : Hp} : ∀ {vs : List V} {ds : List PyData}, DpAll K H vs ds → vs.length = ds.length
  | _, _, .nil => rfl
  | _, _, .cons _ r => by rw [List.length_cons, List.length_cons, dpa_len r]
theorem dpa_get {K : PySem.W.Frag} {H : Hp} : ∀ {vs : List V} {ds : List PyData} {i : Nat} {d : PyData}, DpAll K H vs ds → ds[i]? = some d → ∃ v, vs[i]? = some v ∧ Dp K H v d
  | _, _, _, _, .nil, e => by simp at e
  | _, _, 0, _, .cons h _, e => by
    simp at e
    subst e
    exact ⟨_, rfl, h⟩
  | _, _, i + 1, _, .cons _ r, e => by
    obtain ⟨v, h1, h2⟩ := dpa_get (i := i) r (by simpa using e)
    exact ⟨v, by simpa using h1, h2⟩
theorem dpa_getV {K : PySem.W.Frag} {H : Hp} : ∀ {vs : List V} {ds : List PyData} {i : Nat} {v : V}, DpAll K H vs ds → vs[i]? = some v → ∃ d, ds[i]? = some d ∧ Dp K H v d
  | _, _, _, _, .nil, e => by simp at e
  | _, _, 0, _, .cons h _, e => by
    simp at e
    subst e
    exact ⟨_, rfl, h⟩
  | _, _, i + 1, _, .cons _ r, e => by
    obtain ⟨v, h1, h2⟩ := dpa_getV (i := i) r (by simpa using e)
    exact ⟨v, by simpa using h1, h2⟩
theorem dpa_app {K : PySem.W.Frag} {H : Hp} : ∀ {vs ws : List V} {ds es : List PyData}, DpAll K H vs ds → DpAll K H ws es → DpAll K H (vs ++ ws) (ds ++ es)
  | _, _, _, _, .nil, s => s
  | _, _, _, _, .cons h r, s => .cons h (dpa_app r s)
theorem dpa_ints {K : PySem.W.Frag} {H : Hp} : ∀ (ns : List Int), DpAll K H (ns.map V.int) (ns.map PyData.int)
  | [] => .nil
  | n :: r => .cons (.int n) (dpa_ints r)
theorem dpa_strs {K : PySem.W.Frag} {H : Hp} : ∀ (ns : List Str), DpAll K H (ns.map V.str) (ns.map PyData.str)
  | [] => .nil
  | n :: r => .cons (.str n) (dpa_strs r)
theorem dpa_take {K : PySem.W.Frag} {H : Hp} : ∀ {vs : List V} {ds : List PyData} (n : Nat), DpAll K H vs ds → DpAll K H (vs.take n) (ds.take n)
  | _, _, 0, _ => .nil
  | _, _, _ + 1, .nil => .nil
  | _, _, n + 1, .cons h r => .cons h (dpa_take n r)
theorem dpa_drop {K : PySem.W.Frag} {H : Hp} : ∀ {vs : List V} {ds : List PyData} (n : Nat), DpAll K H vs ds → DpAll K H (vs.drop n) (ds.drop n)
  | _, _, 0, r => r
  | _, _, _ + 1, .nil => .nil
  | _, _, n + 1, .cons _ r => dpa_drop n r
/-- data, or an empty dict -/
def Dz (K : PySem.W.Frag) (H : Hp) (v : V) (d : PyData) : Prop := Dp K H v d ∨ (d = .dict [] ∧ ∃ a, v = .ref a ∧ H a = some (.dK []))
theorem dz_ext {K : PySem.W.Frag} {H H' : Hp} {v : V} {d : PyData} (e : ExtN H H') (h : Dz K H v d) : Dz K H' v d := by
  rcases h with h | ⟨h, a, h1, h2⟩
  · exact .inl (dp_ext e h)
  · exact .inr ⟨h, a, h1, e _ _ h2 (fun ps z => by cases z)⟩
theorem dz_same {K : PySem.W.Frag} {H H' : Hp} {v : V} {d : PyData} (e : Same H H') (h : Dz K H v d) : Dz K H' v d := dz_ext (ext_of e) h

/-! ### kinds -/
def tyD : PyData → String
  | .none => "NoneType"
  | .bool _ => "bool"
  | .int _ => "int"
  | .str _ => "str"
  | .list _ => "list"
  | .tuple _ => "tuple"
  | .dict _ => "dict"
theorem ty_lst {K : PySem.W.Frag} {H : Hp} {a : Addr} {xs : List V} (h : SqL K H a xs) : TyX K H (.ref a) (.type "list") := by
  rcases h with (h | ⟨o, h⟩) | ⟨o, its, n, h, hc, _⟩
  · exact .base (.lst h)
  · exact .base (.frz h)
  · exact .kList h hc
theorem ty_tup {K : PySem.W.Frag} {H : Hp} {a : Addr} {xs : List V} (h : SqT K H a xs) : TyX K H (.ref a) (.type "tuple") := by
  rcases h with (h | ⟨o, h⟩) | ⟨o, its, n, h, hc, _⟩
  · exact .base (.tup h)
  · exact .fTuple h
  · exact .kTuple h hc
theorem dz_ty {K : PySem.W.Frag} {H : Hp} {v : V} {d : PyData} (h : Dz K H v d) : TyX K H v (.type (tyD d)) := by
  rcases h with h | ⟨rfl, a, rfl, h⟩
  · cases h with
    | non => exact .base .non
    | bl b => exact .base (.bl b)
    | int i => exact .base (.int i)
    | str x => exact .base (.str x)
    | lst h _ => exact ty_lst h
    | tup h _ => exact ty_tup h
  · exact .base (.dK h)
def isIntD : PyData → Bool
  | .int _ => true
  | .bool _ => true
  | _ => false
def isBoolD : PyData → Bool
  | .bool _ => true
  | _ => false
def isStrD : PyData → Bool
  | .str _ => true
  | _ => false
def isLstD : PyData → Bool
  | .list _ => true
  | _ => false
def isTupD : PyData → Bool
  | .tuple _ => true
  | _ => false
theorem kit_int : ∀ d : PyData, kitB (tyD d) "int" = some (isIntD d)
  | .none => (by decide +kernel : kitB "NoneType" "int" = some false)
  | .bool _ => (by decide +kernel : kitB "bool" "int" = some true)
  | .int _ => (by decide +kernel : kitB "int" "int" = some true)
  | .str _ => (by decide +kernel : kitB "str" "int" = some false)
  | .list _ => (by decide +kernel : kitB "list" "int" = some false)
  | .tuple _ => (by decide +kernel : kitB "tuple" "int" = some false)
  | .dict _ => (by decide +kernel : kitB "dict" "int" = some false)
theorem kit_bool : ∀ d : PyData, kitB (tyD d) "bool" = some (isBoolD d)
  | .none => (by decide +kernel : kitB "NoneType" "bool" = some false)
  | .bool _ => (by decide +kernel : kitB "bool" "bool" = some true)
  | .int _ => (by decide +kernel : kitB "int" "bool" = some false)
  | .str _ => (by decide +kernel : kitB "str" "bool" = some false)
  | .list _ => (by decide +kernel : kitB "list" "bool" = some false)
  | .tuple _ => (by decide +kernel : kitB "tuple" "bool" = some false)
  | .dict _ => (by decide +kernel : kitB "dict" "bool" = some false)
theorem kit_str : ∀ d : PyData, kitB (tyD d) "str" = some (isStrD d)
  | .none => (by decide +kernel : kitB "NoneType" "str" = some false)
  | .bool _ => (by decide +kernel : kitB "bool" "str" = some false)
  | .int _ => (by decide +kernel : kitB "int" "str" = some false)
  | .str _ => (by decide +kernel : kitB "str" "str" = some true)
  | .list _ => (by decide +kernel : kitB "list" "str" = some false)
  | .tuple _ => (by decide +kernel : kitB "tuple" "str" = some false)
  | .dict _ => (by decide +kernel : kitB "dict" "str" = some false)
theorem kit_lst : ∀ d : PyData, kitB (tyD d) "list" = some (isLstD d)
  | .none => (by decide +kernel : kitB "NoneType" "list" = some false)
  | .bool _ => (by decide +kernel : kitB "bool" "list" = some false)
  | .int _ => (by decide +kernel : kitB "int" "list" = some false)
  | .str _ => (by decide +kernel : kitB "str" "list" = some false)
  | .list _ => (by decide +kernel : kitB "list" "list" = some true)
  | .tuple _ => (by decide +kernel : kitB "tuple" "list" = some false)
  | .dict _ => (by decide +kernel : kitB "dict" "list" = some false)
theorem kit_tup : ∀ d : PyData, kitB (tyD d) "tuple" = some (isTupD d)
  | .none => (by decide +kernel : kitB "NoneType" "tuple" = some false)
  | .bool _ => (by decide +kernel : kitB "bool" "tuple" = some false)
  | .int _ => (by decide +kernel : kitB "int" "tuple" = some false)
  | .str _ => (by decide +kernel : kitB "str" "tuple" = some false)
  | .list _ => (by decide +kernel : kitB "list" "tuple" = some false)
  | .tuple _ => (by decide +kernel : kitB "tuple" "tuple" = some true)
  | .dict _ => (by decide +kernel : kitB "dict" "tuple" = some false)
section
variable {K : PySem.W.Frag} {H : Hp} {v : V} {d : PyData} {Q : VK}
theorem isi_of {T : String} {b : Bool} (h : Dz K H v d) (e : kitB (tyD d) T = some b) (q : Q (.bl b) H) : rIsA K [v, .ty T] H Q :=
  .inl ⟨v, .ty T, _, _, b, rfl, .ty T, dz_ty h, kit_ty e, q⟩
theorem isi_int (h : Dz K H v d) (q : Q (.bl (isIntD d)) H) : rIsA K [v, .ty "int"] H Q := isi_of h (kit_int d) q
theorem isi_bool (h : Dz K H v d) (q : Q (.bl (isBoolD d)) H) : rIsA K [v, .ty "bool"] H Q := isi_of h (kit_bool d) q
theorem isi_str (h : Dz K H v d) (q : Q (.bl (isStrD d)) H) : rIsA K [v, .ty "str"] H Q := isi_of h (kit_str d) q
theorem isi_lst (h : Dz K H v d) (q : Q (.bl (isLstD d)) H) : rIsA K [v, .ty "list"] H Q := isi_of h (kit_lst d) q
theorem isi_tup (h : Dz K H v d) (q : Q (.bl (isTupD d)) H) : rIsA K [v, .ty "tuple"] H Q := isi_of h (kit_tup d) q
end

/-! ### exception classes of the module -/
def exNames : List Str := ["BadWay", "BadCount", "BadLists", "BadSeats", "BadPrice", "BadPlace", "BadGroups", "Tied", "BadText"]
/-- what raising x asks -/
structure ExF (K : PySem.W.Frag) (mg : Str → Option Value) (x : Str) : Prop where
  g : mg x = some (.ref (He.ga K x))
  e : PySem.W.excIn K (He.ga K x) He.veBase "ValueError.__new__" = true
  k : PySem.W.keepIn K (.ref (He.ga K x)) = true
  b : PySem.W.subIn K (.ref (He.ga K x)) (.type "BaseException") = some true
  t : PySem.W.typeIn K (.ref (He.ga K x)) = some (.type "type")
def exFB (K : PySem.W.Frag) (x : Str) : Bool := He.eqO (PySem.W.nsIn K mainGlobals x) (some (some (.ref (He.ga K x)))) && (He.Fa.exc x).ok K
theorem exF_of {K : PySem.W.Frag} {h : Heap} {mg : Str → Option Value} {x : Str} (X : K.In h) (G : h.Ns mainGlobals mg) (e : exFB K x = true) : ExF K mg x := by
  obtain ⟨e1, e2⟩ := He.ba e
  obtain ⟨a, b, c, d⟩ := He.exc_ok e2
  exact ⟨PySem.W.mg_of X G (He.eqO_ok e1), a, b, c, d⟩
def excCB (K : PySem.W.Frag) (D : Addr) : Bool :=
  decide (PySem.W.findIn K (.ref D) "__getattribute__" = some (some (.builtin "BaseException.__getattribute__"))) && (decide (PySem.W.findIn K (.ref D) "__getattr__" = some none) &&
  (decide (PySem.W.subIn K (.ref D) (.type "BaseException") = some true) && (PySem.W.hasDictIn K D && (decide (PySem.W.findIn K (.ref D) "__class__" = some (some (.builtin "object.__class__"))) &&
  (decide (PySem.W.specialIn K (.builtin "object.__class__") "__get__" = some (some (.builtin "getset_descriptor.__get__"))) && (decide (PySem.W.takesIn K (.builtin "object.__class__") = some true) && decide (PySem.W.mroIn K D (.type "object") = some true)))))))
theorem excC_of {K : PySem.W.Frag} {D : Addr} (e : excCB K D = true) : ExcC K D := by
  obtain ⟨a, e⟩ := He.ba e
  obtain ⟨b, e⟩ := He.ba e
  obtain ⟨c, e⟩ := He.ba e
  obtain ⟨d, e⟩ := He.ba e
  obtain ⟨f, e⟩ := He.ba e
  obtain ⟨g, e⟩ := He.ba e
  obtain ⟨h, i⟩ := He.ba e
  exact ⟨of_decide_eq_true a, of_decide_eq_true b, of_decide_eq_true c, d, of_decide_eq_true f, of_decide_eq_true g, of_decide_eq_true h, of_decide_eq_true i⟩
/-- all that the law asks of caught ones -/
structure ExAll (K : PySem.W.Frag) : Prop where
  c : ∀ x ∈ exNames, ExcC K (He.ga K x)
  m : ∀ x ∈ exNames, PySem.W.exmOne K (.ref (He.ga K x)) (.ref (He.ga K "ShareError")) = some true
  one : ∀ x ∈ exNames, ∀ y ∈ exNames, PySem.W.kitOne K (.ref (He.ga K x)) (.ref (He.ga K y)) = some (decide (x = y))
  ve : ∀ x ∈ exNames, PySem.W.kitOne K (.ref (He.ga K x)) (.type "ValueError") = some true
  no : ∀ y ∈ exNames, PySem.W.kitOne K (.type "NoneType") (.ref (He.ga K y)) = some false
def exAllB (K : PySem.W.Frag) : Bool := exNames.all fun x => excCB K (He.ga K x) && (decide (PySem.W.exmOne K (.ref (He.ga K x)) (.ref (He.ga K "ShareError")) = some true) &&
  ((exNames.all fun y => decide (PySem.W.kitOne K (.ref (He.ga K x)) (.ref (He.ga K y)) = some (decide (x = y)))) && (decide (PySem.W.kitOne K (.ref (He.ga K x)) (.type "ValueError") = some true) &&
  decide (PySem.W.kitOne K (.type "NoneType") (.ref (He.ga K x)) = some false))))
theorem exAll_of {K : PySem.W.Frag} (e : exAllB K = true) : ExAll K := by
  have h := List.all_eq_true.mp e
  have h1 : ∀ x ∈ exNames, _ := fun x hx => He.ba (h x hx)
  have h2 : ∀ x ∈ exNames, _ := fun x hx => He.ba (h1 x hx).2
  have h3 : ∀ x ∈ exNames, _ := fun x hx => He.ba (h2 x hx).2
  have h4 : ∀ x ∈ exNames, _ := fun x hx => He.ba (h3 x hx).2
  exact ⟨fun x hx => excC_of (h1 x hx).1, fun x hx => of_decide_eq_true (h2 x hx).1, fun x hx y hy => of_decide_eq_true (List.all_eq_true.mp (h3 x hx).1 y hy),
    fun x hx => of_decide_eq_true (h4 x hx).1, fun x hx => of_decide_eq_true (h4 x hx).2⟩

/-! ### small whole numbers' bounds -/
theorem iteB {b : Bool} {A B : Prop} (h1 : b = true → A) (h2 : b = false → B) : if b = true then A else B := by
  cases b with
  | true => exact iteT (h1 rfl)
  | false => exact iteF (h2 rfl)
/-- an and, an or of tests, by their answers -/
theorem if_and {b : Bool} {A : Prop} (h1 : b = true → A) {B : Prop} (h2 : b = false → B) : if b = true then A else B := iteB h1 h2
end SS

namespace SS
open PySem PySem.Spec PyProof.Rows L2 LamX

/-! ### a displayed dict, asked at once -/
def strPairs (kvs : List (Str × V)) : List (TE × TE) := kvs.map fun q => (tC (.str q.1), tC q.2)
theorem pairs_str {σ : L2.St} : ∀ {kvs : List (Str × V)} {H : Hp} {Q : List (V × V) → Hp → Prop}, Q (kvs.map fun q => (V.str q.1, q.2)) H → tPairs (strPairs kvs) σ H Q
  | [], _, _, q => q
  | kv :: r, H, Q, q => pairs_str (kvs := r) (Q := fun ps H' => Q ((V.str kv.1, kv.2) :: ps) H') q
theorem dispGet {σ : L2.St} {H : Hp} {Q : VK} {ty : TE} {x : Str} {v : V} (kvs : List (Str × V)) (hl : kvs.length ≤ 15) (hy : ∀ (H1 : Hp) (R : VK), R (.str x) H1 → ty σ H1 R)
    (hv : valV (mergeK [] (kvs.map fun q => ((Sum.inr q.1 : Key), q.2))) (Sum.inr x) = some v) (q : ∀ H', Same H H' → Q v H') : tDGet (tDisp (strPairs kvs)) ty σ H Q := by
  intro p hp
  refine pairs_str ⟨upd_same, kvs.map (fun q => ((Sum.inr q.1 : Key), q.2)), ?_, ?_, ?_⟩
  · rw [List.map_map]
    rfl
  · rw [List.length_map]
    exact hl
  · refine hy _ _ ⟨p, v, rfl, ?_, q _ ?_⟩
    · rw [← hv]
      exact DGet.k (k := Sum.inr x) upd_same
    · rw [upd_upd]
      exact same_new hp

/-! ### the law's word for a refusal -/
def exWords : List (Str × Str) := [("way", "BadWay"), ("count", "BadCount"), ("lists", "BadLists"), ("seats", "BadSeats"), ("price", "BadPrice"), ("place", "BadPlace"), ("groups", "BadGroups"), ("tied", "Tied"), ("text", "BadText")]
/-- what was caught: nothing, or an exception of the class named o -/
def Caught (K : PySem.W.Frag) (H : Hp) (v : V) (o : Option Str) : Prop := (v = .non ∧ o = none) ∨ ∃ a x, v = .ref a ∧ o = some x ∧ x ∈ exNames ∧ H a = some (ExV (He.ga K x) a)
theorem caught_same {K : PySem.W.Frag} {H H' : Hp} {v : V} {o : Option Str} (s : Same H H') (h : Caught K H v o) : Caught K H' v o := by
  rcases h with h | ⟨a, x, h1, h2, h3, h4⟩
  · exact .inl h
  · exact .inr ⟨a, x, h1, h2, h3, s _ _ h4⟩
section
variable {K : PySem.W.Frag} {H : Hp} {v : V} {o : Option Str} {y nm : Str} {Q : VK} {σ : L2.St} {i : Nat}
theorem isA_word (EA : ExAll K) (hc : Caught K H v o) (hy : y ∈ exNames) (q : Q (.bl (decide (o = some y))) H) : rIsA K [v, .ref (He.ga K y)] H Q := by
  rcases hc with ⟨rfl, rfl⟩ | ⟨a, x, rfl, rfl, hx, ha⟩
  · exact .inl ⟨.non, _, _, _, false, rfl, .own _, .base .non, EA.no y hy, by
      rw [decide_eq_false (by intro z; cases z)] at q
      exact q⟩
  · refine .inr ⟨a, _, _, _, decide (x = y), rfl, ha, EA.c x hx, .own _, EA.one x hx y hy, ?_⟩
    by_cases e : x = y
    · subst e
      rw [decide_eq_true rfl] at q ⊢
      exact q
    · rw [decide_eq_false (fun z => e (Option.some.inj z))] at q
      rw [decide_eq_false e]
      exact q
theorem isA_ve (EA : ExAll K) (hc : Caught K H v o) (hn : v ≠ .non) (q : Q (.bl true) H) : rIsA K [v, .ty "ValueError"] H Q := by
  rcases hc with ⟨rfl, rfl⟩ | ⟨a, x, rfl, rfl, hx, ha⟩
  · exact absurd rfl hn
  · exact .inr ⟨a, _, _, _, true, rfl, ha, EA.c x hx, .ty _, EA.ve x hx, q⟩
/-- ("way", isinstance(caught, BadWay)) -/
theorem pair_step (EA : ExAll K) (hσ : σ[i]? = some (some v)) (hc : Caught K H v o) (hy : y ∈ exNames)
    (k : ∀ H' t, Same H H' → H' t = some (.tup [.str nm, .bl (decide (o = some y))]) → Q (.ref t) H') :
    tTup (tCons (tC (.str nm)) (tCons (tCB (rIsA K) (tCons (tVar i) (tCons (tC (.ref (He.ga K y))) tNil))) tNil)) σ H Q :=
  ⟨v, hσ, isA_word EA hc hy ⟨by show 2 ≤ sizeLine; decide, fun t n => k _ t (same_new n) upd_same⟩⟩
end
def wordOf (x : Str) : Str := ((exWords.find? fun q => q.2 == x).map (·.1)).getD ""
def wordsOf (o : Option Str) : List Str := (exWords.filter fun q => decide (o = some q.2)).map (·.1)
theorem words_none : wordsOf none = [] := by decide +kernel
theorem words_some {x : Str} (h : x ∈ exNames) : wordsOf (some x) = [wordOf x] := by
  have e : ∀ x ∈ exNames, wordsOf (some x) = [wordOf x] := by decide +kernel
  exact e x h
/-- the pairs behind one another, by their list -/
def pairV (o : Option Str) (H : Hp) (t : V) (q : Str × Str) : Prop := ∃ a, t = .ref a ∧ H a = some (.tup [.str q.1, .bl (decide (o = some q.2))])
theorem pairV_same {o : Option Str} {H H' : Hp} {t : V} {q : Str × Str} (s : Same H H') (h : pairV o H t q) : pairV o H' t q := by
  obtain ⟨a, h1, h2⟩ := h
  exact ⟨a, h1, s _ _ h2⟩

/-- what _law_word makes of a deed (tl: the deed's reading) -/
def TTword (K : PySem.W.Frag) : (XK → Hp → VK → Prop) → Hp → VK → Prop := fun tl H Q =>
  ∀ (E1 : XK) (Q1 : VK), (∀ x ∈ exNames, ∀ H', (∀ H2 p, Same H' H2 → H' p = none → H2 p = some (.lst [.str (wordOf x)]) → Q (.ref p) H2) → E1 (.ref (He.ga K x)) none H') →
    (∀ v H', (∀ H2 p, Same H' H2 → H' p = none → H2 p = some (.lst []) → Q (.ref p) H2) → Q1 v H') → tl E1 H Q1
/-- a class of the module by its name -/
structure ExG (K : PySem.W.Frag) (mg : Str → Option Value) (x : Str) : Prop where
  g : mg x = some (.ref (He.ga K x))
/-- _law_word as it stands, for the caller X, whose table is at P -/
structure WordOk (P : Program) (w : World) (K : PySem.W.Frag) (mg : Str → Option Value) (base : Heap) : Prop where
  ok : ∀ {X : Cx}, X.prog = P → X.w = w → X.K = K → X.mg = mg → X.base = base →
    ∃ (g : Addr) (pg : Arguments) (bg : List Stmt) (sg : Scope) (dV kV doc pm cdv ct oc : Value) (an od : Option Addr) (osl : Array (Option Value)) (Ng : List Str),
      X.mg "_law_word" = some (.ref g) ∧ PySem.W.keepIn X.K (.ref g) = true ∧ X.K.lookup g = some ⟨oc, od, .func (PySem.W.fnOf "_law_word" "_law_word" pg bg sg dV kV doc pm an cdv ct), osl⟩ ∧ PySem.W.codeIn X.K cdv "_law_word" = true ∧
      L2.Binds X.K (PySem.W.fnOf "_law_word" "_law_word" pg bg sg dV kV doc pm an cdv ct) ["_law_deed"] [] ∧ FnScope Ng ["_law_deed"] sg ∧ Ng[0]? = some ("_law_deed" : Str) ∧ Vis sg "_law_deed" ∧
      GivesTo X Ng "_law_word" sg g cdv bg "_law_deed" (X.env.qual ++ "<lambda>") (TTword X.K)
section
variable {X : Cx}
/-- _law_word(lambda: body) -/
theorem pl_word {T : List (Addr × Str)} {c P : Addr} {k : Nat} {params : Arguments} {body : Expr} {scope : Scope} {t : XK → TE} {p lpos pos : Pos} (W : WordOk X.prog X.w X.K X.mg X.base)
    (hm : (P, X.env.qual ++ "<lambda>") ∈ T ∧ (∀ p ∈ T, p.1 = P → p.2 = X.env.qual ++ "<lambda>")) (TB : TabB X.base X.mg c P) (hcode : X.env.code = .ref c) (hr : Room (k + 2) X.A)
    (hbody : ∀ (A : Around) (outer : List Env) (s : Shared) (H : Hp) (E : XK) (f c' : Addr), Room k (A.deeper (lamEnv X scope s.heap.objs.size f c')) → PE (lamCx X A outer s H E scope f c') body (t E))
    (hg : Gl X "_law_word") (L : LamS X.env.scope scope) (hdef : defaultsOf params X.env = ([], []))
    (hbind : ∀ (q : Str) (cl : List (Str × Addr)) (pm cv ctv : Value), bindArgs (PySem.W.kla_fn "<lambda>" q params body scope cl pm cv ctv) ⟨[], []⟩ = pure []) :
    PE X (.Call (.Name "_law_word" p) [.Lambda params body scope lpos] [] pos) (tLam T (TTword X.K) t) := by
  obtain ⟨g, pg, bg, sg, dV, kV, doc, pm, cdv, ct, oc, an, od, osl, Ng, h1, h2, h3, h4, h5, h6, h7, h8, h9⟩ := W.ok (X := X) rfl rfl rfl rfl rfl
  exact pe_lamcall hg h1 h2 h3 h4 h5 h6 h7 h8 h9 TB hcode hm.1 hm.2 hr L hdef hbind hbody
end
/-- the def's table of code objects; the name that its lambdas bear -/
def tbl (K : PySem.W.Frag) (x : Str) : Addr := He.tabOf K (He.codeOf K (x, none))
def lamQ (x : Str) (st : Stmt) : Str := (envOfC x (defScope st) 0 0 .none).qual ++ "<lambda>"
theorem lenOf {H : Hp} {a : Addr} {K : PySem.W.Frag} {ns : List Int} (h : SqL K H a (ns.map V.int)) : True := trivial
theorem cut_mem {xs : List V} {lo hi : Option Int} {i : Nat} {x : V} (h : (cutV xs lo hi)[i]? = some x) : x ∈ xs := by
  have h1 := List.mem_of_getElem? h
  unfold cutV at h1
  exact List.mem_of_mem_drop (List.mem_of_mem_take h1)
/-- the reading of a deed that is refused, or not, as a function of the heap -/
theorem lam_word {K : PySem.W.Frag} {T : List (Addr × Str)} {t : XK → TE} {σ : L2.St} {H : Hp} {Q : VK} (hT : Tabs T H)
    (h : ∀ H1, ExtN H H1 → Tabs T H1 → TTword K (fun E H' Q' => t E σ H' Q') H1 Q) : tLam T (TTword K) t σ H Q := ⟨hT, h⟩
end SS

namespace SS
open PySem PySem.Spec PyProof.Rows L2 LamX
def topS (i : Nat) : Stmt := PySem.Challenge.pw_seatshares_k01_ways.main.body.getD i (.Pass ⟨0, 0, 0, 0⟩)
section
variable {P : Program} {w : World} {K : PySem.W.Frag} {mg : Str → Option Value} {base : Heap}
abbrev s_is_whole : Stmt := topS 14
theorem sc_is_whole : FnScope ["thing", "least", "most"] ["thing", "least", "most"] (defScope s_is_whole) := ⟨rfl, rfl, rfl, by decide +kernel, rfl, by decide +kernel, by decide +kernel⟩
def isWh (d : PyData) (lo hi : Int) : Bool := match d with
  | .int i => decide (lo ≤ i) && decide (i ≤ hi)
  | _ => false
def sp_is_whole (K : PySem.W.Frag) : Sp := fun vs H Q _ => ∃ (v : V) (d : PyData) (lo hi : Int), vs = [v, .int lo, .int hi] ∧ Dz K H v d ∧ Q (.bl (isWh d lo hi)) H
theorem ok_is_whole (Z : BZ mg) (D : DefAt K mg "is_whole" s_is_whole) : OkF P w K mg base 1 "is_whole" ["thing", "least", "most"] (sp_is_whole K) := by
  refine OkF.mk' D sc_is_whole (fun _ _ _ _ _ _ us hl => match us, hl with | [_, _, _], _ => rfl) (fun vs H Q E h => ?_) (fun f cdv A outer s H vs Q E hr h => ?_)
  · first | (obtain ⟨_, rfl, _⟩ := h; rfl) | (obtain ⟨_, _, rfl, _⟩ := h; rfl) | (obtain ⟨_, _, _, rfl, _⟩ := h; rfl) | (obtain ⟨_, _, _, _, rfl, _⟩ := h; rfl) | (obtain ⟨_, _, _, _, _, rfl, _⟩ := h; rfl) | (obtain ⟨_, _, _, _, _, _, rfl, _⟩ := h; rfl) | (obtain ⟨_, _, _, _, _, _, _, rfl, _⟩ := h; rfl) | (obtain ⟨_, _, _, _, _, _, _, _, rfl, _⟩ := h; rfl)
  · refine ⟨_, PSs.nox ((pss_one (ps_ret (pe_and (pe_callB call_isA (by rfl) Z.isinstance bt_isinstance (pa_cons (pv 0) (pa_cons (pe_bltn (v := .ty "int") (by rfl) Z.int bt_int rfl) pa_nil))) (pe_and (pe_not (pe_callB call_isA (by rfl) Z.isinstance bt_isinstance (pa_cons (pv 0) (pa_cons (pe_bltn (v := .ty "bool") (by rfl) Z.bool bt_bool rfl) pa_nil)))) (pe_one (pe_chain op_le op_le (pv 1) (pv 0) (pv 2)))))))), ?_⟩
    obtain ⟨v, d, lo, hi, rfl, hd, q⟩ := h
    refine ⟨v, rfl, isi_int hd ⟨_, rfl, iteB (fun e1 => ⟨v, rfl, isi_bool hd ⟨_, rfl, ⟨_, rfl, iteB (fun e2 => ?_) (fun e2 => ?_)⟩⟩⟩) (fun e1 => ?_)⟩⟩
    · cases d with
      | int i =>
        obtain rfl : v = .int i := by
          rcases hd with hd | ⟨hd, _⟩
          · cases hd
            rfl
          · cases hd
        refine ⟨.int lo, rfl, .int i, rfl, lo, i, rfl, rfl, _, rfl, iteB (fun e3 => ⟨.int hi, rfl, i, hi, rfl, rfl, ?_⟩) (fun e3 => ?_)⟩
        · have q2 : Q (.bl (decide (lo ≤ i) && decide (i ≤ hi))) H := q
          rw [e3, Bool.true_and] at q2
          exact q2
        · have q2 : Q (.bl (decide (lo ≤ i) && decide (i ≤ hi))) H := q
          rw [e3, Bool.false_and] at q2
          exact q2
      | bool b => cases e2
      | _ => cases e1
    · cases d with
      | bool b => exact q
      | int i => cases e2
      | _ => cases e1
    · cases d with
      | int i => cases e1
      | bool b => cases e1
      | _ => exact q
abbrev s_need_way : Stmt := topS 15
theorem sc_need_way : FnScope ["way"] ["way"] (defScope s_need_way) := ⟨rfl, rfl, rfl, by decide +kernel, rfl, by decide +kernel, by decide +kernel⟩
def ways : List Str := ["whole", "odd", "third", "early", "bent"]
theorem ways_cases {s : Str} (h : s ∈ ways) : s = "whole" ∨ s = "odd" ∨ s = "third" ∨ s = "early" ∨ s = "bent" := by
  simpa [ways] using h
def isWay : PyData → Bool
  | .str s => decide (s ∈ ways)
  | _ => false
def sp_need_way (K : PySem.W.Frag) : Sp := fun vs H Q E => ∃ (v : V) (d : PyData), vs = [v] ∧ Dz K H v d ∧ (isWay d = true → Q .non H) ∧ (isWay d = false → E (.ref (He.ga K "BadWay")) none H)
theorem inV_str (s : Str) : ∀ xs : List Str, inV (.str s) (xs.map V.str) = decide (s ∈ xs)
  | [] => rfl
  | x :: r => by
    have ih := inV_str s r
    show (eqV (.str x) (.str s) || inV (.str s) (r.map V.str)) = decide (s ∈ x :: r)
    rw [ih]
    have e : eqV (.str x) (.str s) = decide (x = s) := by
      simp only [eqV]
      by_cases h : x = s
      · simp [h]
      · simp [h]
    rw [e]
    by_cases h : x = s
    · subst h
      simp
    · have h2 : ¬ s = x := fun z => h z.symm
      simp [h, h2]
theorem flat_strs (xs : List Str) : (xs.map V.str).all flatV = true := by
  rw [List.all_map, List.all_eq_true]
  intro x _
  rfl
theorem ok_need_way (Z : BZ mg) (E_BadWay : ExF K mg "BadWay") (G_WAYS : mg "WAYS" = some (.ref (He.ga K "WAYS"))) (S_WAYS : ∀ H : Hp, SqT K H (He.ga K "WAYS") (ways.map V.str)) (D : DefAt K mg "need_way" s_need_way) : OkF P w K mg base 1 "need_way" ["way"] (sp_need_way K) := by
  refine OkF.mk' D sc_need_way (fun _ _ _ _ _ _ us hl => match us, hl with | [_], _ => rfl) (fun vs H Q E h => ?_) (fun f cdv A outer s H vs Q E hr h => ?_)
  · first | (obtain ⟨_, rfl, _⟩ := h; rfl) | (obtain ⟨_, _, rfl, _⟩ := h; rfl) | (obtain ⟨_, _, _, rfl, _⟩ := h; rfl) | (obtain ⟨_, _, _, _, rfl, _⟩ := h; rfl) | (obtain ⟨_, _, _, _, _, rfl, _⟩ := h; rfl) | (obtain ⟨_, _, _, _, _, _, rfl, _⟩ := h; rfl) | (obtain ⟨_, _, _, _, _, _, _, rfl, _⟩ := h; rfl) | (obtain ⟨_, _, _, _, _, _, _, _, rfl, _⟩ := h; rfl)
  · refine ⟨_, id ((pss_one (ps_if (PW.pt (pw_or (pt_not (pt_val (pe_callB call_isA (by rfl) Z.isinstance bt_isinstance (pa_cons (pv 0) (pa_cons (pe_bltn (v := .ty "str") (by rfl) Z.str bt_str rfl) pa_nil))))) (pw_or1 (pt_cmpR op_notIn_seq (pv 0) (pe_glob (v := .ref (He.ga K "WAYS")) rfl G_WAYS rfl) (by rfl))))) (pss_one (ps_raise rfl (takes_of rfl rfl rfl rfl) (pmk_own PySem.F.excBase_ValueError E_BadWay.e E_BadWay.g E_BadWay.k (raises_own E_BadWay.b E_BadWay.t) rfl))) pss_nil))), ?_⟩
    obtain ⟨v, d, rfl, hd, q1, q2⟩ := h
    refine ⟨v, rfl, isi_str hd ⟨_, rfl, iteB (fun e1 => ?_) (fun e1 => ?_)⟩⟩
    · refine iteT (q2 ?_)
      cases d with
      | str s => cases e1
      | _ => rfl
    · cases d with
      | str s =>
        obtain rfl : v = .str s := by
          rcases hd with hd | ⟨hd, _⟩
          · cases hd
            rfl
          · cases hd
        refine ⟨.str s, rfl, _, _, rfl, .inr (S_WAYS H), rfl, flat_strs _, _, rfl, ?_⟩
        rw [inV_str]
        show (if (!decide (s ∈ ways)) = true then _ else _)
        by_cases e : s ∈ ways
        · rw [decide_eq_true e]
          exact iteF (q1 (decide_eq_true e))
        · rw [decide_eq_false e]
          exact iteT (q2 (decide_eq_false e))
      | _ => cases e1
abbrev s_by_way : Stmt := topS 16
theorem sc_by_way : FnScope ["way", "count"] ["way", "count"] (defScope s_by_way) := ⟨rfl, rfl, rfl, by decide +kernel, rfl, by decide +kernel, by decide +kernel⟩
/-- the divisor of a seat -/
def dv (w : Str) (c : Int) : Int := if w = "whole" then c else if w = "odd" then 2 * c - 1 else if w = "third" then 3 * c - 2 else if w = "early" then c - 1 else if c = 1 then 7 else 10 * c - 5
def sp_by_way (K : PySem.W.Frag) : Sp := fun vs H Q _ => ∃ (w : Str) (c : Int), vs = [.str w, .int c] ∧ Q (.int (dv w c)) H
theorem dv_whole (c : Int) : dv "whole" c = c := if_pos rfl
theorem dv_odd (c : Int) : dv "odd" c = 2 * c - 1 := by
  unfold dv
  rw [if_neg (by decide), if_pos rfl]
theorem dv_third (c : Int) : dv "third" c = 3 * c - 2 := by
  unfold dv
  rw [if_neg (by decide), if_neg (by decide), if_pos rfl]
theorem dv_early (c : Int) : dv "early" c = c - 1 := by
  unfold dv
  rw [if_neg (by decide), if_neg (by decide), if_neg (by decide), if_pos rfl]
theorem dv_bent (c : Int) : dv "bent" c = if c = 1 then 7 else 10 * c - 5 := by
  unfold dv
  rw [if_neg (by decide), if_neg (by decide), if_neg (by decide), if_neg (by decide)]
theorem decS {x y : Str} : (decide (V.str x = V.str y) = true) = (x = y) := by
  apply propext
  constructor
  · intro h
    exact V.str.inj (of_decide_eq_true h)
  · intro h
    rw [h]
    exact decide_eq_true rfl
theorem decI {x y : Int} : (decide (V.int x = V.int y) = true) = (x = y) := by
  apply propext
  constructor
  · intro h
    exact V.int.inj (of_decide_eq_true h)
  · intro h
    rw [h]
    exact decide_eq_true rfl
/-- a test of two texts, of two numbers -/
theorem ifS {x y : Str} {A B : Prop} (h1 : x = y → A) (h2 : ¬ x = y → B) : if decide (V.str x = V.str y) = true then A else B := by
  by_cases e : x = y
  · rw [if_pos (by rw [decS]; exact e)]
    exact h1 e
  · rw [if_neg (by rw [decS]; exact e)]
    exact h2 e
theorem ifI {x y : Int} {A B : Prop} (h1 : x = y → A) (h2 : ¬ x = y → B) : if decide (V.int x = V.int y) = true then A else B := by
  by_cases e : x = y
  · rw [if_pos (by rw [decI]; exact e)]
    exact h1 e
  · rw [if_neg (by rw [decI]; exact e)]
    exact h2 e
theorem small_l {i j : Int} (h : -(2 ^ 64) < i ∧ i < 2 ^ 64) : CMul i j := .inl h
theorem small_r {i j : Int} (h : -(2 ^ 64) < j ∧ j < 2 ^ 64) : CMul i j := .inr h
theorem ok_by_way (Z : BZ mg) (D : DefAt K mg "by_way" s_by_way) : OkF P w K mg base 1 "by_way" ["way", "count"] (sp_by_way K) := by
  refine OkF.mk' D sc_by_way (fun _ _ _ _ _ _ us hl => match us, hl with | [_, _], _ => rfl) (fun vs H Q E h => ?_) (fun f cdv A outer s H vs Q E hr h => ?_)
  · first | (obtain ⟨_, rfl, _⟩ := h; rfl) | (obtain ⟨_, _, rfl, _⟩ := h; rfl) | (obtain ⟨_, _, _, rfl, _⟩ := h; rfl) | (obtain ⟨_, _, _, _, rfl, _⟩ := h; rfl) | (obtain ⟨_, _, _, _, _, rfl, _⟩ := h; rfl) | (obtain ⟨_, _, _, _, _, _, rfl, _⟩ := h; rfl) | (obtain ⟨_, _, _, _, _, _, _, rfl, _⟩ := h; rfl) | (obtain ⟨_, _, _, _, _, _, _, _, rfl, _⟩ := h; rfl)
  · refine ⟨_, PSs.nox ((pss_cons (ps_if (pt_cmpR op_eq (pv 0) pe_str (nomark _)) (pss_one (ps_ret (pv 1))) pss_nil)
      (pss_cons (ps_if (pt_cmpR op_eq (pv 0) pe_str (nomark _)) (pss_one (ps_ret (pe_op op_sub (pe_op op_mul pe_int (pv 1)) pe_int))) pss_nil)
      (pss_cons (ps_if (pt_cmpR op_eq (pv 0) pe_str (nomark _)) (pss_one (ps_ret (pe_op op_sub (pe_op op_mul pe_int (pv 1)) pe_int))) pss_nil)
      (pss_cons (ps_if (pt_cmpR op_eq (pv 0) pe_str (nomark _)) (pss_one (ps_ret (pe_op op_sub (pv 1) pe_int))) pss_nil)
      (pss_cons (ps_if (pt_cmpR op_eq (pv 1) pe_int (nomark _)) (pss_one (ps_ret pe_int)) pss_nil)
      (pss_one (ps_ret (pe_op op_sub (pe_op op_mul pe_int (pv 1)) pe_int))))))))), ?_⟩
    obtain ⟨wy, c, rfl, q⟩ := h
    unfold dv at q
    refine ⟨_, rfl, rfl, _, rfl, ifS (fun e => ?_) (fun e => ?_)⟩
    · rw [if_pos e] at q
      exact ⟨_, rfl, q⟩
    rw [if_neg e] at q
    refine ⟨_, rfl, rfl, _, rfl, ifS (fun e => ?_) (fun e => ?_)⟩
    · rw [if_pos e] at q
      exact ⟨_, rfl, 2, c, rfl, rfl, small_l (by decide), _, _, rfl, rfl, q⟩
    rw [if_neg e] at q
    refine ⟨_, rfl, rfl, _, rfl, ifS (fun e => ?_) (fun e => ?_)⟩
    · rw [if_pos e] at q
      exact ⟨_, rfl, 3, c, rfl, rfl, small_l (by decide), _, _, rfl, rfl, q⟩
    rw [if_neg e] at q
    refine ⟨_, rfl, rfl, _, rfl, ifS (fun e => ?_) (fun e => ?_)⟩
    · rw [if_pos e] at q
      exact ⟨_, rfl, _, _, rfl, rfl, q⟩
    rw [if_neg e] at q
    refine ⟨_, rfl, rfl, _, rfl, ifI (fun e => ?_) (fun e => ?_)⟩
    · rw [if_pos e] at q
      exact q
    rw [if_neg e] at q
    exact ⟨_, rfl, 10, c, rfl, rfl, small_l (by decide), _, _, rfl, rfl, q⟩
abbrev s_divisor : Stmt := topS 17
theorem sc_divisor : FnScope ["way", "count"] ["way", "count"] (defScope s_divisor) := ⟨rfl, rfl, rfl, by decide +kernel, rfl, by decide +kernel, by decide +kernel⟩
def sp_divisor (K : PySem.W.Frag) : Sp := fun vs H Q E => ∃ (v u : V) (d e : PyData), vs = [v, u] ∧ Dz K H v d ∧ Dz K H u e ∧ (isWay d = false → E (.ref (He.ga K "BadWay")) none H) ∧
  (isWay d = true → isWh e 1 200 = false → E (.ref (He.ga K "BadCount")) none H) ∧ (∀ s i, d = .str s → e = .int i → isWay d = true → isWh e 1 200 = true → Q (.int (dv s i)) H)
theorem ok_divisor (Z : BZ mg) (O_need_way : OkF P w K mg base 1 "need_way" ["way"] (sp_need_way K)) (O_is_whole : OkF P w K mg base 1 "is_whole" ["thing", "least", "most"] (sp_is_whole K)) (O_by_way : OkF P w K mg base 1 "by_way" ["way", "count"] (sp_by_way K)) (E_BadCount : ExF K mg "BadCount") (G_MOST_SEATS : ∃ t, mg "MOST_SEATS" = some (.int 200 t)) (D : DefAt K mg "divisor" s_divisor) : OkF P w K mg base 2 "divisor" ["way", "count"] (sp_divisor K) := by
  obtain ⟨t_MOST_SEATS, g_MOST_SEATS⟩ := G_MOST_SEATS
  refine OkF.mk' D sc_divisor (fun _ _ _ _ _ _ us hl => match us, hl with | [_, _], _ => rfl) (fun vs H Q E h => ?_) (fun f cdv A outer s H vs Q E hr h => ?_)
  · first | (obtain ⟨_, rfl, _⟩ := h; rfl) | (obtain ⟨_, _, rfl, _⟩ := h; rfl) | (obtain ⟨_, _, _, rfl, _⟩ := h; rfl) | (obtain ⟨_, _, _, _, rfl, _⟩ := h; rfl) | (obtain ⟨_, _, _, _, _, rfl, _⟩ := h; rfl) | (obtain ⟨_, _, _, _, _, _, rfl, _⟩ := h; rfl) | (obtain ⟨_, _, _, _, _, _, _, rfl, _⟩ := h; rfl) | (obtain ⟨_, _, _, _, _, _, _, _, rfl, _⟩ := h; rfl)
  · refine ⟨_, id ((pss_cons (ps_expr (pc O_need_way (hr.mono (by decide)) (passes_call (takes_of rfl rfl rfl rfl) (fun _ _ _ _ h => h)) (pa_cons (pv 0) pa_nil)))
      (pss_cons (ps_if (pt_not (pt_val (pc O_is_whole (hr.mono (by decide)) passL (pa_cons (pv 1) (pa_cons pe_int (pa_cons (pe_glob (v := .int 200) rfl g_MOST_SEATS ⟨_, rfl⟩) pa_nil)))))) (pss_one (ps_raise rfl (takes_of rfl rfl rfl rfl) (pmk_own PySem.F.excBase_ValueError E_BadCount.e E_BadCount.g E_BadCount.k (raises_own E_BadCount.b E_BadCount.t) rfl))) pss_nil)
      (pss_one (ps_ret (pc O_by_way (hr.mono (by decide)) passL (pa_cons (pv 0) (pa_cons (pv 1) pa_nil)))))))), ?_⟩
    obtain ⟨v, u, d, e, rfl, hd, he, q1, q2, q3⟩ := h
    refine ⟨v, rfl, v, d, rfl, hd, fun w1 => ?_, fun w1 => q1 w1⟩
    refine ⟨u, rfl, u, e, 1, 200, rfl, he, _, rfl, iteB (fun z => ?_) (fun z => ?_)⟩
    · exact q2 w1 (by simpa using z)
    · have z1 : isWh e 1 200 = true := by simpa using z
      cases d with
      | str s =>
        cases e with
        | int i =>
          obtain rfl : v = .str s := by
            rcases hd with hd | ⟨hd, _⟩
            · cases hd
              rfl
            · cases hd
          obtain rfl : u = .int i := by
            rcases he with he | ⟨he, _⟩
            · cases he
              rfl
            · cases he
          exact ⟨_, rfl, _, rfl, s, i, rfl, q3 s i rfl rfl w1 z1⟩
        | _ => cases z1
      | _ => cases w1
abbrev s__law_mixed : Stmt := topS 20
theorem sc__law_mixed : FnScope ["_law_cell", "_law_k"] ["_law_cell", "_law_k"] (defScope s__law_mixed) := ⟨rfl, rfl, rfl, by decide +kernel, rfl, by decide +kernel, by decide +kernel⟩
def mixed (c k : Int) : Int := (c * (48271 + 2 * k * k) + 69621 * k + 11) % 2147483647 * 69621 % 2147483629
theorem mixed_nn (c k : Int) : 0 ≤ mixed c k := Int.emod_nonneg _ (by decide)
theorem mixed_lt (c k : Int) : mixed c k < 2147483629 := Int.emod_lt_of_pos _ (by decide)
def sp__law_mixed (K : PySem.W.Frag) : Sp := fun vs H Q _ => ∃ (c k : Int), vs = [.int c, .int k] ∧ 0 ≤ k ∧ k ≤ 1000 ∧ Q (.int (mixed c k)) H
theorem kk_bound {k : Int} (h0 : 0 ≤ k) (h1 : k ≤ 1000) : 0 ≤ k * k ∧ k * k ≤ 1000000 := by
  refine ⟨Int.mul_nonneg h0 h0, ?_⟩
  have h := Int.mul_le_mul h1 h1 h0 (by decide : (0 : Int) ≤ 1000)
  exact h
theorem ok__law_mixed (Z : BZ mg) (D : DefAt K mg "_law_mixed" s__law_mixed) : OkF P w K mg base 1 "_law_mixed" ["_law_cell", "_law_k"] (sp__law_mixed K) := by
  refine OkF.mk' D sc__law_mixed (fun _ _ _ _ _ _ us hl => match us, hl with | [_, _], _ => rfl) (fun vs H Q E h => ?_) (fun f cdv A outer s H vs Q E hr h => ?_)
  · first | (obtain ⟨_, rfl, _⟩ := h; rfl) | (obtain ⟨_, _, rfl, _⟩ := h; rfl) | (obtain ⟨_, _, _, rfl, _⟩ := h; rfl) | (obtain ⟨_, _, _, _, rfl, _⟩ := h; rfl) | (obtain ⟨_, _, _, _, _, rfl, _⟩ := h; rfl) | (obtain ⟨_, _, _, _, _, _, rfl, _⟩ := h; rfl) | (obtain ⟨_, _, _, _, _, _, _, rfl, _⟩ := h; rfl) | (obtain ⟨_, _, _, _, _, _, _, _, rfl, _⟩ := h; rfl)
  · refine ⟨_, PSs.nox ((pss_one (ps_ret (pe_op op_mod (pe_op op_mul (pe_op op_mod (pe_op op_add (pe_op op_add (pe_op op_mul (pv 0) (pe_op op_add pe_int (pe_op op_mul (pe_op op_mul pe_int (pv 1)) (pv 1)))) (pe_op op_mul pe_int (pv 1))) pe_int) pe_int) pe_int) pe_int)))), ?_⟩
    obtain ⟨c, k, rfl, h0, h1, q⟩ := h
    obtain ⟨k0, k1⟩ := kk_bound h0 h1
    have e2 : 2 * k * k = 2 * (k * k) := Int.mul_assoc 2 k k
    have m0 : 0 ≤ (c * (48271 + 2 * k * k) + 69621 * k + 11) % 2147483647 := Int.emod_nonneg _ (by decide)
    have m1 : (c * (48271 + 2 * k * k) + 69621 * k + 11) % 2147483647 < 2147483647 := Int.emod_lt_of_pos _ (by decide)
    refine ⟨_, rfl, _, rfl, 2, k, rfl, rfl, small_l (by decide), _, rfl, 2 * k, k, rfl, rfl, small_l (by omega), 48271, 2 * k * k, rfl, rfl, c, _, rfl, rfl, small_r ?_, _, rfl, 69621, k, rfl, rfl, small_l (by decide), _, _, rfl, rfl, _, 11, rfl, rfl, _, 2147483647, rfl, rfl, (show (0 : Int) < 2147483647 by decide), _, 69621, rfl, rfl, small_r (by decide), _, 2147483629, rfl, rfl, (show (0 : Int) < 2147483629 by decide), q⟩
    rw [e2]
    omega
end
end SS

namespace SS
open PySem PySem.Spec PyProof.Rows L2 LamX
section
variable {P : Program} {w : World} {K : PySem.W.Frag} {mg : Str → Option Value} {base : Heap}
abbrev s__law_divisor : Stmt := topS 21
theorem sc__law_divisor : FnScope ["_law_way", "_law_count", "_law_found", "_law_k", "_law_step"] ["_law_way", "_law_count"] (defScope s__law_divisor) := ⟨rfl, rfl, rfl, by decide +kernel, rfl, by decide +kernel, by decide +kernel⟩
def sp__law_divisor (K : PySem.W.Frag) : Sp := fun vs H Q _ => ∃ (wy : Str) (c : Int), vs = [.str wy, .int c] ∧ wy ∈ ways ∧ 1 ≤ c ∧ c ≤ 200 ∧ ∀ H', Same H H' → Q (.int (dv wy c)) H'
def kvs1 : List (Str × V) := [("whole", .int 1), ("odd", .int 1), ("third", .int 1), ("early", .int 0), ("bent", .int 7)]
def kvs2 : List (Str × V) := [("whole", .int 1), ("odd", .int 2), ("third", .int 3), ("early", .int 1), ("bent", .int 10)]
def stp (w : Str) : Int := if w = "whole" then 1 else if w = "odd" then 2 else if w = "third" then 3 else if w = "early" then 1 else 10
theorem kvs1_at : ∀ w ∈ ways, valV (mergeK [] (kvs1.map fun q => ((Sum.inr q.1 : Key), q.2))) (Sum.inr w) = some (.int (dv w 1)) := by decide +kernel
theorem kvs2_at : ∀ w ∈ ways, valV (mergeK [] (kvs2.map fun q => ((Sum.inr q.1 : Key), q.2))) (Sum.inr w) = some (.int (stp w)) := by decide +kernel
theorem dv_step {w : Str} (h : w ∈ ways) (i : Nat) : (w = "bent" → (i : Int) + 2 = 2 → dv w (i + 2) = dv w (i + 1) + 8) ∧ (¬ (w = "bent" ∧ (i : Int) + 2 = 2) → dv w (i + 2) = dv w (i + 1) + stp w) := by
  rcases ways_cases h with rfl | rfl | rfl | rfl | rfl
  · refine ⟨fun e => absurd e (by decide), fun _ => ?_⟩
    rw [dv_whole, dv_whole, show stp "whole" = 1 by decide]
    omega
  · refine ⟨fun e => absurd e (by decide), fun _ => ?_⟩
    rw [dv_odd, dv_odd, show stp "odd" = 2 by decide]
    omega
  · refine ⟨fun e => absurd e (by decide), fun _ => ?_⟩
    rw [dv_third, dv_third, show stp "third" = 3 by decide]
    omega
  · refine ⟨fun e => absurd e (by decide), fun _ => ?_⟩
    rw [dv_early, dv_early, show stp "early" = 1 by decide]
    omega
  · refine ⟨fun _ e => ?_, fun e => ?_⟩
    · rw [dv_bent, dv_bent, if_neg (by omega), if_pos (by omega)]
      omega
    · have e2 : ¬ (i : Int) + 2 = 2 := fun z => e ⟨rfl, z⟩
      rw [dv_bent, dv_bent, if_neg (by omega), if_neg (by omega), show stp "bent" = 10 by decide]
      omega
theorem ok__law_divisor (Z : BZ mg) (D : DefAt K mg "_law_divisor" s__law_divisor) : OkF P w K mg base 1 "_law_divisor" ["_law_way", "_law_count"] (sp__law_divisor K) := by
  refine OkF.mk' D sc__law_divisor (fun _ _ _ _ _ _ us hl => match us, hl with | [_, _], _ => rfl) (fun vs H Q E h => ?_) (fun f cdv A outer s H vs Q E hr h => ?_)
  · first | (obtain ⟨_, rfl, _⟩ := h; rfl) | (obtain ⟨_, _, rfl, _⟩ := h; rfl) | (obtain ⟨_, _, _, rfl, _⟩ := h; rfl) | (obtain ⟨_, _, _, _, rfl, _⟩ := h; rfl) | (obtain ⟨_, _, _, _, _, rfl, _⟩ := h; rfl) | (obtain ⟨_, _, _, _, _, _, rfl, _⟩ := h; rfl) | (obtain ⟨_, _, _, _, _, _, _, rfl, _⟩ := h; rfl) | (obtain ⟨_, _, _, _, _, _, _, _, rfl, _⟩ := h; rfl)
  · refine ⟨_, PSs.nox ((pss_cons (ps_set (i := 2) sc__law_divisor.nd rfl (Or.inl rfl) (pe_dget (hu_of hr) (pe_disp (pps_cons pe_str pe_int (pps_cons pe_str pe_int (pps_cons pe_str pe_int (pps_cons pe_str pe_int (pps_cons pe_str pe_int pps_nil))))) (by rfl) (by rfl) (fun z => by cases z) (by decide)) (pv 0) (fun _ _ => rfl)))
      (pss_cons (ps_for PassesOwn.never rfl (pi_range2 (by rfl) Z.range (pa_cons pe_int (pa_cons (pe_op op_add (pv 1) pe_int) pa_nil))) (pg_name (i := 3) sc__law_divisor.nd rfl (Or.inl rfl)) (pss_cons (ps_set (i := 4) sc__law_divisor.nd rfl (Or.inl rfl) (pe_dget (hu_of hr) (pe_disp (pps_cons pe_str pe_int (pps_cons pe_str pe_int (pps_cons pe_str pe_int (pps_cons pe_str pe_int (pps_cons pe_str pe_int pps_nil))))) (by rfl) (by rfl) (fun z => by cases z) (by decide)) (pv 0) (fun _ _ => rfl)))
      (pss_cons (ps_if (PW.pt (pw_and (pt_cmpR op_eq (pv 0) pe_str (nomark _)) (pw_and1 (pt_cmpR op_eq (pv 3) pe_int (nomark _))))) (pss_one (ps_set (i := 4) sc__law_divisor.nd rfl (Or.inl rfl) pe_int)) pss_nil)
      (pss_one (ps_set (i := 2) sc__law_divisor.nd rfl (Or.inl rfl) (pe_op op_add (pv 2) (pv 4)))))))
      (pss_one (ps_ret (pv 2)))))), ?_⟩
    obtain ⟨wy, c, rfl, hw, c1, c2, q⟩ := h
    refine dispGet kvs1 (by decide) (x := wy) (v := .int (dv wy 1)) (fun H1 R r => ⟨_, rfl, r⟩) (kvs1_at wy hw) (fun H1 s1 => ?_)
    refine ⟨_, rfl, c, 1, rfl, rfl, 2, c + 1, rfl, ⟨by decide, by decide, by omega, by omega⟩, for_range (lo := 2) (n := (c + 1 - 2).toNat)
      (fun i σ' H' => ∃ a3 a4, σ' = [some (.str wy), some (.int c), some (.int (dv wy ((i : Int) + 1))), a3, a4] ∧ Same H H') ⟨none, none, rfl, s1⟩ (fun i σ' H' hi hp => ?_) (fun σ' H' hp => ?_)⟩
    · obtain ⟨a3, a4, rfl, s2⟩ := hp
      have hs := dv_step hw i
      have ec : (2 : Int) + i = i + 2 := Int.add_comm _ _
      refine dispGet kvs2 (by decide) (x := wy) (v := .int (stp wy)) (fun H1 R r => ⟨_, rfl, r⟩) (kvs2_at wy hw) (fun H3 s3 => ?_)
      refine ⟨_, rfl, rfl, _, rfl, ifS (fun e1 => ⟨_, rfl, rfl, _, rfl, ifI (fun e2 => ?_) (fun e2 => ?_)⟩) (fun e1 => ?_)⟩
      · refine ⟨_, rfl, _, rfl, _, _, rfl, rfl, some (.int (2 + i)), some (.int 8), ?_, s2.trans s3⟩
        rw [show ((i + 1 : Nat) : Int) + 1 = i + 2 by omega, hs.1 e1 (by omega)]
        rfl
      · refine ⟨_, rfl, _, rfl, _, _, rfl, rfl, some (.int (2 + i)), some (.int (stp wy)), ?_, s2.trans s3⟩
        rw [show ((i + 1 : Nat) : Int) + 1 = i + 2 by omega, hs.2 (fun z => e2 (by omega))]
        rfl
      · refine ⟨_, rfl, _, rfl, _, _, rfl, rfl, some (.int (2 + i)), some (.int (stp wy)), ?_, s2.trans s3⟩
        rw [show ((i + 1 : Nat) : Int) + 1 = i + 2 by omega, hs.2 (fun z => e1 z.1)]
        rfl
    · obtain ⟨a3, a4, rfl, s2⟩ := hp
      refine ⟨_, rfl, ?_⟩
      rw [show (((c + 1 - 2).toNat : Nat) : Int) + 1 = c by omega]
      exact q H' s2
abbrev s__law_no_way : Stmt := topS 23
theorem sc__law_no_way : FnScope ["_law_number"] ["_law_number"] (defScope s__law_no_way) := ⟨rfl, rfl, rfl, by decide +kernel, rfl, by decide +kernel, by decide +kernel⟩
/-- an item of a list just made, at a remainder -/
theorem menu {K : PySem.W.Frag} {H : Hp} {l : Addr} {xs : List V} {n m : Int} {Q : VK} (h : H l = some (.lst xs)) (hm : (xs.length : Int) = m) (h0 : 0 < m) (q : ∀ v, v ∈ xs → Q v H) :
    rIxL K (.ref l) (.int (n % m)) H Q := by
  have a0 := Int.emod_nonneg n (show m ≠ 0 by omega)
  have a1 := Int.emod_lt_of_pos n h0
  have hj : (n % m).toNat < xs.length := by omega
  exact ⟨l, xs, n % m, xs[(n % m).toNat], rfl, rfl, sqL h, at_of (j := (n % m).toNat) (by omega) (List.getElem?_eq_getElem hj), q _ (List.getElem_mem hj)⟩
def sp__law_no_way (K : PySem.W.Frag) : Sp := fun vs H Q _ => ∃ n : Int, vs = [.int n] ∧ ∀ H' v d, Same H H' → Dz K H' v d → isWay d = false → Q v H'
theorem ok__law_no_way (Z : BZ mg) (D : DefAt K mg "_law_no_way" s__law_no_way) : OkF P w K mg base 1 "_law_no_way" ["_law_number"] (sp__law_no_way K) := by
  refine OkF.mk' D sc__law_no_way (fun _ _ _ _ _ _ us hl => match us, hl with | [_], _ => rfl) (fun vs H Q E h => ?_) (fun f cdv A outer s H vs Q E hr h => ?_)
  · first | (obtain ⟨_, rfl, _⟩ := h; rfl) | (obtain ⟨_, _, rfl, _⟩ := h; rfl) | (obtain ⟨_, _, _, rfl, _⟩ := h; rfl) | (obtain ⟨_, _, _, _, rfl, _⟩ := h; rfl) | (obtain ⟨_, _, _, _, _, rfl, _⟩ := h; rfl) | (obtain ⟨_, _, _, _, _, _, rfl, _⟩ := h; rfl) | (obtain ⟨_, _, _, _, _, _, _, rfl, _⟩ := h; rfl) | (obtain ⟨_, _, _, _, _, _, _, _, rfl, _⟩ := h; rfl)
  · refine ⟨_, PSs.nox ((pss_one (ps_ret (pe_ix ix_list (pe_lst (pa_cons pe_str (pa_cons pe_str (pa_cons pe_str (pa_cons pe_str (pa_cons pe_non (pa_cons pe_int (pa_cons pe_bl (pa_cons (pe_lst (pa_cons pe_str pa_nil)) (pa_cons (pe_tup (pa_cons pe_str pa_nil)) (pa_cons pe_dnewK (pa_cons pe_str pa_nil)))))))))))) (pe_op op_mod (pv 0) pe_int) (fun _ _ => rfl))))), ?_⟩
    obtain ⟨n, rfl, q⟩ := h
    refine ⟨sz (by decide), fun p1 n1 => ⟨sz (by decide), fun p2 n2 => fun p3 n3 => ⟨sz (show 11 ≤ 100000 by decide), fun l nl => ?_⟩⟩⟩
    refine ⟨_, rfl, n, 11, rfl, rfl, (show (0 : Int) < 11 by decide), menu upd_same rfl (by decide) fun v hv => ?_⟩
    have s1 := same_new (o := .lst [.str "odd"]) n1
    have s2 := same_new (o := .tup [.str "odd"]) n2
    have s3 := same_new (o := .dK []) n3
    have s4 := same_new (o := .lst [V.str "Whole", V.str "", V.str "odd ", V.str "wholeodd", V.non, V.int 5, V.bl true, V.ref p1, V.ref p2, V.ref p3, V.str "half"]) nl
    have sa := ((s1.trans s2).trans s3).trans s4
    simp only [List.mem_cons, List.not_mem_nil, or_false] at hv
    rcases hv with rfl | rfl | rfl | rfl | rfl | rfl | rfl | rfl | rfl | rfl | rfl
    · exact q _ _ (.str "Whole") sa (.inl (.str _)) (by decide +kernel)
    · exact q _ _ (.str "") sa (.inl (.str _)) (by decide +kernel)
    · exact q _ _ (.str "odd ") sa (.inl (.str _)) (by decide +kernel)
    · exact q _ _ (.str "wholeodd") sa (.inl (.str _)) (by decide +kernel)
    · exact q _ _ .none sa (.inl .non) rfl
    · exact q _ _ (.int 5) sa (.inl (.int _)) rfl
    · exact q _ _ (.bool true) sa (.inl (.bl _)) rfl
    · exact q _ _ (.list [.str "odd"]) sa (.inl (.lst (sqL (s4 _ _ (s3 _ _ (s2 _ _ upd_same)))) (.cons (.str _) .nil))) rfl
    · exact q _ _ (.tuple [.str "odd"]) sa (.inl (.tup (sqT (s4 _ _ (s3 _ _ upd_same))) (.cons (.str _) .nil))) rfl
    · exact q _ _ (.dict []) sa (.inr ⟨rfl, _, rfl, s4 _ _ upd_same⟩) rfl
    · exact q _ _ (.str "half") sa (.inl (.str _)) (by decide +kernel)
abbrev s__law_no_count : Stmt := topS 24
theorem sc__law_no_count : FnScope ["_law_number"] ["_law_number"] (defScope s__law_no_count) := ⟨rfl, rfl, rfl, by decide +kernel, rfl, by decide +kernel, by decide +kernel⟩
def sp__law_no_count (K : PySem.W.Frag) : Sp := fun vs H Q _ => ∃ n : Int, vs = [.int n] ∧ ∀ H' v d, Same H H' → Dz K H' v d → isWh d 1 200 = false → Q v H'
theorem ok__law_no_count (Z : BZ mg) (D : DefAt K mg "_law_no_count" s__law_no_count) : OkF P w K mg base 1 "_law_no_count" ["_law_number"] (sp__law_no_count K) := by
  refine OkF.mk' D sc__law_no_count (fun _ _ _ _ _ _ us hl => match us, hl with | [_], _ => rfl) (fun vs H Q E h => ?_) (fun f cdv A outer s H vs Q E hr h => ?_)
  · first | (obtain ⟨_, rfl, _⟩ := h; rfl) | (obtain ⟨_, _, rfl, _⟩ := h; rfl) | (obtain ⟨_, _, _, rfl, _⟩ := h; rfl) | (obtain ⟨_, _, _, _, rfl, _⟩ := h; rfl) | (obtain ⟨_, _, _, _, _, rfl, _⟩ := h; rfl) | (obtain ⟨_, _, _, _, _, _, rfl, _⟩ := h; rfl) | (obtain ⟨_, _, _, _, _, _, _, rfl, _⟩ := h; rfl) | (obtain ⟨_, _, _, _, _, _, _, _, rfl, _⟩ := h; rfl)
  · refine ⟨_, PSs.nox ((pss_one (ps_ret (pe_ix ix_list (pe_lst (pa_cons pe_int (pa_cons pe_int (pa_cons (pe_un un_neg pe_int) (pa_cons pe_bl (pa_cons pe_non (pa_cons pe_str (pa_cons (pe_lst (pa_cons pe_int pa_nil)) (pa_cons (pe_tup pa_nil) (pa_cons pe_bl (pa_cons (pe_op op_pow pe_int pe_int) (pa_cons (pe_op op_add pe_int (pe_op op_mod (pe_op op_fdiv (pv 0) pe_int) pe_int)) pa_nil)))))))))))) (pe_op op_mod (pv 0) pe_int) (fun _ _ => rfl))))), ?_⟩
    obtain ⟨n, rfl, q⟩ := h
    have b0 := Int.emod_nonneg (n / 11) (show (1000 : Int) ≠ 0 by decide)
    refine ⟨1, rfl, ⟨sz (by decide), fun p1 n1 => ⟨sz (by decide), fun p2 n2 => ⟨10, 30, rfl, rfl, ⟨by decide, by decide, by decide⟩, ?_⟩⟩⟩⟩
    refine ⟨_, rfl, n, 11, rfl, rfl, ⟨by decide, by decide⟩, _, 1000, rfl, rfl, (show (0 : Int) < 1000 by decide), 201, _, rfl, rfl, ⟨sz (show 11 ≤ 100000 by decide), fun l nl => ?_⟩⟩
    refine ⟨_, rfl, n, 11, rfl, rfl, (show (0 : Int) < 11 by decide), menu upd_same rfl (by decide) fun v hv => ?_⟩
    have sa := ((same_new (o := .lst [.int 1]) n1).trans (same_new (o := .tup []) n2)).trans (same_new (o := .lst [V.int 0, V.int 201, V.int (-1), V.bl true, V.non, V.str "1", V.ref p1, V.ref p2, V.bl false, V.int (10 ^ (30 : Int).toNat), V.int (201 + n / 11 % 1000)]) nl)
    simp only [List.mem_cons, List.not_mem_nil, or_false] at hv
    rcases hv with rfl | rfl | rfl | rfl | rfl | rfl | rfl | rfl | rfl | rfl | rfl
    · exact q _ _ (.int 0) sa (.inl (.int _)) rfl
    · exact q _ _ (.int 201) sa (.inl (.int _)) rfl
    · exact q _ _ (.int (-1)) sa (.inl (.int _)) rfl
    · exact q _ _ (.bool true) sa (.inl (.bl _)) rfl
    · exact q _ _ .none sa (.inl .non) rfl
    · exact q _ _ (.str "1") sa (.inl (.str _)) rfl
    · exact q _ _ (.list [.int 1]) sa (.inl (.lst (sqL (same_new nl _ _ (same_new n2 _ _ upd_same))) (.cons (.int _) .nil))) rfl
    · exact q _ _ (.tuple []) sa (.inl (.tup (sqT (same_new nl _ _ upd_same)) .nil)) rfl
    · exact q _ _ (.bool false) sa (.inl (.bl _)) rfl
    · exact q _ _ (.int (10 ^ 30)) sa (.inl (.int _)) (by decide +kernel)
    · refine q _ _ (.int (201 + n / 11 % 1000)) sa (.inl (.int _)) ?_
      show (decide ((1 : Int) ≤ 201 + n / 11 % 1000) && decide (201 + n / 11 % 1000 ≤ 200)) = false
      rw [decide_eq_false (show ¬ 201 + n / 11 % 1000 ≤ 200 by omega), Bool.and_false]
abbrev s__law_word : Stmt := topS 22
theorem sc__law_word : FnScope ["_law_deed", "_law_caught", "error", "_law_some", "_law_found", "_law_name", "_law_fits"] ["_law_deed"] (defScope s__law_word) := ⟨rfl, rfl, rfl, by decide +kernel, rfl, by decide +kernel, by decide +kernel⟩
theorem wd_filter (o : Option Str) (i : Nat) {nm x : Str} (h : exWords[i]? = some (nm, x)) :
    ((exWords.take (i + 1)).filter fun q => decide (o = some q.2)).map (·.1) = ((exWords.take i).filter fun q => decide (o = some q.2)).map (·.1) ++ if decide (o = some x) = true then [nm] else [] := by
  rw [List.take_add_one, h, List.filter_append, List.map_append]
  congr 1
  show ((List.filter _ [(nm, x)]).map (·.1)) = _
  rw [List.filter_cons, List.filter_nil]
  by_cases e : decide (o = some x) = true
  · rw [if_pos e, if_pos (show decide (o = some (nm, x).2) = true from e)]
    rfl
  · rw [if_neg e, if_neg (show ¬ decide (o = some (nm, x).2) = true from e)]
    rfl
theorem word_gives {X : Cx} (Z : BZ X.mg) (EA : ExAll X.K) (EG : ∀ x ∈ exNames, X.mg x = some (.ref (He.ga X.K x))) (gS : X.mg "ShareError" = some (.ref (He.ga X.K "ShareError")))
    (g : Addr) (cdg : Value) (q : Str) : GivesTo X ["_law_deed", "_law_caught", "error", "_law_some", "_law_found", "_law_name", "_law_fits"] "_law_word" (defScope s__law_word) g cdg (defBody s__law_word) "_law_deed" q (TTword X.K) := by
  intro f c' s H Q tl act hco h
  have E_BadWay : ExG X.K X.mg "BadWay" := ⟨EG _ (by decide)⟩
  have E_BadCount : ExG X.K X.mg "BadCount" := ⟨EG _ (by decide)⟩
  have E_BadLists : ExG X.K X.mg "BadLists" := ⟨EG _ (by decide)⟩
  have E_BadSeats : ExG X.K X.mg "BadSeats" := ⟨EG _ (by decide)⟩
  have E_BadPrice : ExG X.K X.mg "BadPrice" := ⟨EG _ (by decide)⟩
  have E_BadPlace : ExG X.K X.mg "BadPlace" := ⟨EG _ (by decide)⟩
  have E_BadGroups : ExG X.K X.mg "BadGroups" := ⟨EG _ (by decide)⟩
  have E_Tied : ExG X.K X.mg "Tied" := ⟨EG _ (by decide)⟩
  have E_BadText : ExG X.K X.mg "BadText" := ⟨EG _ (by decide)⟩
  have hrest : ∃ tr, PSs (cxOf C8.CX0 X.prog X.w X.K X.mg X.base ["_law_deed", "_law_caught", "error", "_law_some", "_law_found", "_law_name", "_law_fits"] "_law_word" (defScope s__law_word) g cdg X.A X.stack s H C8.E0).nox ((defBody s__law_word).drop 2) tr ∧
      ∀ (σ : L2.St) (H2 : Hp) (v : V) (o : Option Str), σ.length = 7 → σ[1]? = some (some v) → Caught X.K H2 v o →
        (∀ H3 p, Same H2 H3 → H2 p = none → H3 p = some (.lst ((wordsOf o).map V.str)) → Q (.ref p) H3) → tr { nx := fun _ H' => Q .non H', rt := Q } σ H2 := by
    refine ⟨_, (pss_cons (ps_set (i := 3) sc__law_word.nd rfl (Or.inl rfl) (pe_lst (pa_cons (pe_tup (pa_cons pe_str (pa_cons (pe_callB call_isA (by rfl) Z.isinstance bt_isinstance (pa_cons (pv 1) (pa_cons (pe_glob (v := .ref (He.ga X.K "BadWay")) rfl E_BadWay.g rfl) pa_nil))) pa_nil))) (pa_cons (pe_tup (pa_cons pe_str (pa_cons (pe_callB call_isA (by rfl) Z.isinstance bt_isinstance (pa_cons (pv 1) (pa_cons (pe_glob (v := .ref (He.ga X.K "BadCount")) rfl E_BadCount.g rfl) pa_nil))) pa_nil))) pa_nil))))
      (pss_cons (ps_set (i := 3) sc__law_word.nd rfl (Or.inl rfl) (pe_op op_cat (pv 3) (pe_lst (pa_cons (pe_tup (pa_cons pe_str (pa_cons (pe_callB call_isA (by rfl) Z.isinstance bt_isinstance (pa_cons (pv 1) (pa_cons (pe_glob (v := .ref (He.ga X.K "BadLists")) rfl E_BadLists.g rfl) pa_nil))) pa_nil))) (pa_cons (pe_tup (pa_cons pe_str (pa_cons (pe_callB call_isA (by rfl) Z.isinstance bt_isinstance (pa_cons (pv 1) (pa_cons (pe_glob (v := .ref (He.ga X.K "BadSeats")) rfl E_BadSeats.g rfl) pa_nil))) pa_nil))) pa_nil)))))
      (pss_cons (ps_set (i := 3) sc__law_word.nd rfl (Or.inl rfl) (pe_op op_cat (pv 3) (pe_lst (pa_cons (pe_tup (pa_cons pe_str (pa_cons (pe_callB call_isA (by rfl) Z.isinstance bt_isinstance (pa_cons (pv 1) (pa_cons (pe_glob (v := .ref (He.ga X.K "BadPrice")) rfl E_BadPrice.g rfl) pa_nil))) pa_nil))) (pa_cons (pe_tup (pa_cons pe_str (pa_cons (pe_callB call_isA (by rfl) Z.isinstance bt_isinstance (pa_cons (pv 1) (pa_cons (pe_glob (v := .ref (He.ga X.K "BadPlace")) rfl E_BadPlace.g rfl) pa_nil))) pa_nil))) pa_nil)))))
      (pss_cons (ps_set (i := 3) sc__law_word.nd rfl (Or.inl rfl) (pe_op op_cat (pv 3) (pe_lst (pa_cons (pe_tup (pa_cons pe_str (pa_cons (pe_callB call_isA (by rfl) Z.isinstance bt_isinstance (pa_cons (pv 1) (pa_cons (pe_glob (v := .ref (He.ga X.K "BadGroups")) rfl E_BadGroups.g rfl) pa_nil))) pa_nil))) (pa_cons (pe_tup (pa_cons pe_str (pa_cons (pe_callB call_isA (by rfl) Z.isinstance bt_isinstance (pa_cons (pv 1) (pa_cons (pe_glob (v := .ref (He.ga X.K "Tied")) rfl E_Tied.g rfl) pa_nil))) pa_nil))) pa_nil)))))
      (pss_cons (ps_set (i := 3) sc__law_word.nd rfl (Or.inl rfl) (pe_op op_cat (pv 3) (pe_lst (pa_cons (pe_tup (pa_cons pe_str (pa_cons (pe_callB call_isA (by rfl) Z.isinstance bt_isinstance (pa_cons (pv 1) (pa_cons (pe_glob (v := .ref (He.ga X.K "BadText")) rfl E_BadText.g rfl) pa_nil))) pa_nil))) pa_nil))))
      (pss_cons (ps_setLc (i := 4) (own := [("_law_name", 5), ("_law_fits", 6)]) (g := gTup _ 2 (gCons (gName 5) (gCons (gName 6) gNil))) rfl sc__law_word.nd rfl rfl (sw_true rfl rfl rfl (by decide +kernel)) (pi_list (pv 3)) (blkOk_by (N := ["_law_deed", "_law_caught", "error", "_law_some", "_law_found", "_law_name", "_law_fits"]) (sc := defScope s__law_word) (own := [("_law_name", 5), ("_law_fits", 6)]) (by decide +kernel)) (fun _ _ _ _ _ => pg_tup rfl (pgs_cons (pg_name (i := 5) sc__law_word.nd rfl (Or.inl rfl)) (pgs_cons (pg_name (i := 6) sc__law_word.nd rfl (Or.inl rfl)) pgs_nil))) (fun _ _ _ _ _ => by exact (pts_one (pt_val (pv 6)))) (fun _ _ _ _ _ => (pv 5)))
      (pss_cons (ps_if (PW.pt (pw_and (pt_cmpR op_notN (pv 1) pe_non (nomark _)) (pw_and1 (pt_not (pt_val (pe_callB call_isA (by rfl) Z.isinstance bt_isinstance (pa_cons (pv 1) (pa_cons (pe_bltn (v := .ty "ValueError") (by rfl) Z.valueError bt_ValueError rfl) pa_nil)))))))) (pss_one (ps_expr (pe_bm PySem.F.plainAttrs_list PySem.F.slot_list_append PySem.F.type_list_append mt_append (pv 4) (pa_cons pe_str pa_nil)))) pss_nil)
      (pss_one (ps_ret (pv 4)))))))))), ?_⟩
    intro σ H2 v o hl hv hc k
    match σ, hl with
    | [a0, a1, a2, a3, a4, a5, a6], _ =>
    obtain rfl : a1 = some v := Option.some.inj hv
    refine ⟨v, rfl, isA_word EA hc (by decide) ⟨sz (show 2 ≤ 100000 by decide), fun t1 n1 => ?_⟩⟩
    have s1 := same_new (o := .tup [.str "way", .bl (decide (o = some ("BadWay" : Str)))]) n1
    refine ⟨v, rfl, isA_word EA (caught_same s1 hc) (by decide) ⟨sz (show 2 ≤ 100000 by decide), fun t2 n2 => ?_⟩⟩
    have s2 := same_new (o := .tup [.str "count", .bl (decide (o = some ("BadCount" : Str)))]) n2
    refine ⟨sz (show 2 ≤ 100000 by decide), fun l1 m1 => ?_⟩
    have s3 := same_new (o := .lst [V.ref t1, V.ref t2]) m1
    refine ⟨_, rfl, ?_⟩
    refine ⟨v, rfl, isA_word EA (caught_same ((s1.trans s2).trans s3) hc) (by decide) ⟨sz (show 2 ≤ 100000 by decide), fun t3 n3 => ?_⟩⟩
    have s4 := same_new (o := .tup [.str "lists", .bl (decide (o = some ("BadLists" : Str)))]) n3
    refine ⟨v, rfl, isA_word EA (caught_same (((s1.trans s2).trans s3).trans s4) hc) (by decide) ⟨sz (show 2 ≤ 100000 by decide), fun t4 n4 => ?_⟩⟩
    have s5 := same_new (o := .tup [.str "seats", .bl (decide (o = some ("BadSeats" : Str)))]) n4
    refine ⟨sz (show 2 ≤ 100000 by decide), fun l2 m2 => ?_⟩
    have s6 := same_new (o := .lst [V.ref t3, V.ref t4]) m2
    refine ⟨l1, l2, [V.ref t1, V.ref t2], [V.ref t3, V.ref t4], rfl, rfl, ((s4.trans s5).trans s6) _ _ upd_same, upd_same, sz (show 4 ≤ 100000 by decide), fun l3 m3 => ?_⟩
    have s7 := same_new (o := .lst ([V.ref t1, V.ref t2] ++ [V.ref t3, V.ref t4])) m3
    refine ⟨_, rfl, ?_⟩
    refine ⟨v, rfl, isA_word EA (caught_same ((((((s1.trans s2).trans s3).trans s4).trans s5).trans s6).trans s7) hc) (by decide) ⟨sz (show 2 ≤ 100000 by decide), fun t5 n5 => ?_⟩⟩
    have s8 := same_new (o := .tup [.str "price", .bl (decide (o = some ("BadPrice" : Str)))]) n5
    refine ⟨v, rfl, isA_word EA (caught_same (((((((s1.trans s2).trans s3).trans s4).trans s5).trans s6).trans s7).trans s8) hc) (by decide) ⟨sz (show 2 ≤ 100000 by decide), fun t6 n6 => ?_⟩⟩
    have s9 := same_new (o := .tup [.str "place", .bl (decide (o = some ("BadPlace" : Str)))]) n6
    refine ⟨sz (show 2 ≤ 100000 by decide), fun l4 m4 => ?_⟩
    have s10 := same_new (o := .lst [V.ref t5, V.ref t6]) m4
    refine ⟨l3, l4, ([V.ref t1, V.ref t2] ++ [V.ref t3, V.ref t4]), [V.ref t5, V.ref t6], rfl, rfl, ((s8.trans s9).trans s10) _ _ upd_same, upd_same, sz (show 6 ≤ 100000 by decide), fun l5 m5 => ?_⟩
    have s11 := same_new (o := .lst (([V.ref t1, V.ref t2] ++ [V.ref t3, V.ref t4]) ++ [V.ref t5, V.ref t6])) m5
    refine ⟨_, rfl, ?_⟩
    refine ⟨v, rfl, isA_word EA (caught_same ((((((((((s1.trans s2).trans s3).trans s4).trans s5).trans s6).trans s7).trans s8).trans s9).trans s10).trans s11) hc) (by decide) ⟨sz (show 2 ≤ 100000 by decide), fun t7 n7 => ?_⟩⟩
    have s12 := same_new (o := .tup [.str "groups", .bl (decide (o = some ("BadGroups" : Str)))]) n7
    refine ⟨v, rfl, isA_word EA (caught_same (((((((((((s1.trans s2).trans s3).trans s4).trans s5).trans s6).trans s7).trans s8).trans s9).trans s10).trans s11).trans s12) hc) (by decide) ⟨sz (show 2 ≤ 100000 by decide), fun t8 n8 => ?_⟩⟩
    have s13 := same_new (o := .tup [.str "tied", .bl (decide (o = some ("Tied" : Str)))]) n8
    refine ⟨sz (show 2 ≤ 100000 by decide), fun l6 m6 => ?_⟩
    have s14 := same_new (o := .lst [V.ref t7, V.ref t8]) m6
    refine ⟨l5, l6, (([V.ref t1, V.ref t2] ++ [V.ref t3, V.ref t4]) ++ [V.ref t5, V.ref t6]), [V.ref t7, V.ref t8], rfl, rfl, ((s12.trans s13).trans s14) _ _ upd_same, upd_same, sz (show 8 ≤ 100000 by decide), fun l7 m7 => ?_⟩
    have s15 := same_new (o := .lst ((([V.ref t1, V.ref t2] ++ [V.ref t3, V.ref t4]) ++ [V.ref t5, V.ref t6]) ++ [V.ref t7, V.ref t8])) m7
    refine ⟨_, rfl, ?_⟩
    refine ⟨v, rfl, isA_word EA (caught_same ((((((((((((((s1.trans s2).trans s3).trans s4).trans s5).trans s6).trans s7).trans s8).trans s9).trans s10).trans s11).trans s12).trans s13).trans s14).trans s15) hc) (by decide) ⟨sz (show 2 ≤ 100000 by decide), fun t9 n9 => ?_⟩⟩
    have s16 := same_new (o := .tup [.str "text", .bl (decide (o = some ("BadText" : Str)))]) n9
    refine ⟨sz (show 1 ≤ 100000 by decide), fun l8 m8 => ?_⟩
    have s17 := same_new (o := .lst [V.ref t9]) m8
    refine ⟨l7, l8, ((([V.ref t1, V.ref t2] ++ [V.ref t3, V.ref t4]) ++ [V.ref t5, V.ref t6]) ++ [V.ref t7, V.ref t8]), [V.ref t9], rfl, rfl, (s16.trans s17) _ _ upd_same, upd_same, sz (show 9 ≤ 100000 by decide), fun l9 m9 => ?_⟩
    have s18 := same_new (o := .lst (((([V.ref t1, V.ref t2] ++ [V.ref t3, V.ref t4]) ++ [V.ref t5, V.ref t6]) ++ [V.ref t7, V.ref t8]) ++ [V.ref t9])) m9
    have sF := (((((((((((((((((s1.trans s2).trans s3).trans s4).trans s5).trans s6).trans s7).trans s8).trans s9).trans s10).trans s11).trans s12).trans s13).trans s14).trans s15).trans s16).trans s17).trans s18)
    have e1 := ((((((((((((((((s2.trans s3).trans s4).trans s5).trans s6).trans s7).trans s8).trans s9).trans s10).trans s11).trans s12).trans s13).trans s14).trans s15).trans s16).trans s17).trans s18) _ _ upd_same
    have e2 := (((((((((((((((s3.trans s4).trans s5).trans s6).trans s7).trans s8).trans s9).trans s10).trans s11).trans s12).trans s13).trans s14).trans s15).trans s16).trans s17).trans s18) _ _ upd_same
    have e3 := (((((((((((((s5.trans s6).trans s7).trans s8).trans s9).trans s10).trans s11).trans s12).trans s13).trans s14).trans s15).trans s16).trans s17).trans s18) _ _ upd_same
    have e4 := ((((((((((((s6.trans s7).trans s8).trans s9).trans s10).trans s11).trans s12).trans s13).trans s14).trans s15).trans s16).trans s17).trans s18) _ _ upd_same
    have e5 := (((((((((s9.trans s10).trans s11).trans s12).trans s13).trans s14).trans s15).trans s16).trans s17).trans s18) _ _ upd_same
    have e6 := ((((((((s10.trans s11).trans s12).trans s13).trans s14).trans s15).trans s16).trans s17).trans s18) _ _ upd_same
    have e7 := (((((s13.trans s14).trans s15).trans s16).trans s17).trans s18) _ _ upd_same
    have e8 := ((((s14.trans s15).trans s16).trans s17).trans s18) _ _ upd_same
    have e9 := (s17.trans s18) _ _ upd_same
    have eF : (upd (upd (upd (upd (upd (upd (upd (upd (upd (upd (upd (upd (upd (upd (upd (upd (upd (upd H2 t1 (.tup [.str "way", .bl (decide (o = some ("BadWay" : Str)))])) t2 (.tup [.str "count", .bl (decide (o = some ("BadCount" : Str)))])) l1 (.lst [V.ref t1, V.ref t2])) t3 (.tup [.str "lists", .bl (decide (o = some ("BadLists" : Str)))])) t4 (.tup [.str "seats", .bl (decide (o = some ("BadSeats" : Str)))])) l2 (.lst [V.ref t3, V.ref t4])) l3 (.lst ([V.ref t1, V.ref t2] ++ [V.ref t3, V.ref t4]))) t5 (.tup [.str "price", .bl (decide (o = some ("BadPrice" : Str)))])) t6 (.tup [.str "place", .bl (decide (o = some ("BadPlace" : Str)))])) l4 (.lst [V.ref t5, V.ref t6])) l5 (.lst (([V.ref t1, V.ref t2] ++ [V.ref t3, V.ref t4]) ++ [V.ref t5, V.ref t6]))) t7 (.tup [.str "groups", .bl (decide (o = some ("BadGroups" : Str)))])) t8 (.tup [.str "tied", .bl (decide (o = some ("Tied" : Str)))])) l6 (.lst [V.ref t7, V.ref t8])) l7 (.lst ((([V.ref t1, V.ref t2] ++ [V.ref t3, V.ref t4]) ++ [V.ref t5, V.ref t6]) ++ [V.ref t7, V.ref t8]))) t9 (.tup [.str "text", .bl (decide (o = some ("BadText" : Str)))])) l8 (.lst [V.ref t9])) l9 (.lst (((([V.ref t1, V.ref t2] ++ [V.ref t3, V.ref t4]) ++ [V.ref t5, V.ref t6]) ++ [V.ref t7, V.ref t8]) ++ [V.ref t9]))) l9 = some (.lst (((([V.ref t1, V.ref t2] ++ [V.ref t3, V.ref t4]) ++ [V.ref t5, V.ref t6]) ++ [V.ref t7, V.ref t8]) ++ [V.ref t9])) := upd_same
    generalize (upd (upd (upd (upd (upd (upd (upd (upd (upd (upd (upd (upd (upd (upd (upd (upd (upd (upd H2 t1 (.tup [.str "way", .bl (decide (o = some ("BadWay" : Str)))])) t2 (.tup [.str "count", .bl (decide (o = some ("BadCount" : Str)))])) l1 (.lst [V.ref t1, V.ref t2])) t3 (.tup [.str "lists", .bl (decide (o = some ("BadLists" : Str)))])) t4 (.tup [.str "seats", .bl (decide (o = some ("BadSeats" : Str)))])) l2 (.lst [V.ref t3, V.ref t4])) l3 (.lst ([V.ref t1, V.ref t2] ++ [V.ref t3, V.ref t4]))) t5 (.tup [.str "price", .bl (decide (o = some ("BadPrice" : Str)))])) t6 (.tup [.str "place", .bl (decide (o = some ("BadPlace" : Str)))])) l4 (.lst [V.ref t5, V.ref t6])) l5 (.lst (([V.ref t1, V.ref t2] ++ [V.ref t3, V.ref t4]) ++ [V.ref t5, V.ref t6]))) t7 (.tup [.str "groups", .bl (decide (o = some ("BadGroups" : Str)))])) t8 (.tup [.str "tied", .bl (decide (o = some ("Tied" : Str)))])) l6 (.lst [V.ref t7, V.ref t8])) l7 (.lst ((([V.ref t1, V.ref t2] ++ [V.ref t3, V.ref t4]) ++ [V.ref t5, V.ref t6]) ++ [V.ref t7, V.ref t8]))) t9 (.tup [.str "text", .bl (decide (o = some ("BadText" : Str)))])) l8 (.lst [V.ref t9])) l9 (.lst (((([V.ref t1, V.ref t2] ++ [V.ref t3, V.ref t4]) ++ [V.ref t5, V.ref t6]) ++ [V.ref t7, V.ref t8]) ++ [V.ref t9]))) = HF at sF e1 e2 e3 e4 e5 e6 e7 e8 e9 eF ⊢
    have cF : Caught X.K HF v o := caught_same sF hc
    have items : ∀ (i : Nat) (x : V) (qq : Str × Str), [V.ref t1, V.ref t2, V.ref t3, V.ref t4, V.ref t5, V.ref t6, V.ref t7, V.ref t8, V.ref t9][i]? = some x → exWords[i]? = some qq → pairV o HF x qq := by
      have z1 : pairV o HF (V.ref t1) ("way", "BadWay") := ⟨t1, rfl, e1⟩
      have z2 : pairV o HF (V.ref t2) ("count", "BadCount") := ⟨t2, rfl, e2⟩
      have z3 : pairV o HF (V.ref t3) ("lists", "BadLists") := ⟨t3, rfl, e3⟩
      have z4 : pairV o HF (V.ref t4) ("seats", "BadSeats") := ⟨t4, rfl, e4⟩
      have z5 : pairV o HF (V.ref t5) ("price", "BadPrice") := ⟨t5, rfl, e5⟩
      have z6 : pairV o HF (V.ref t6) ("place", "BadPlace") := ⟨t6, rfl, e6⟩
      have z7 : pairV o HF (V.ref t7) ("groups", "BadGroups") := ⟨t7, rfl, e7⟩
      have z8 : pairV o HF (V.ref t8) ("tied", "Tied") := ⟨t8, rfl, e8⟩
      have z9 : pairV o HF (V.ref t9) ("text", "BadText") := ⟨t9, rfl, e9⟩
      intro i x qq h1 h2
      match i with
      | 0 => cases h1; cases h2; exact z1
      | 1 => cases h1; cases h2; exact z2
      | 2 => cases h1; cases h2; exact z3
      | 3 => cases h1; cases h2; exact z4
      | 4 => cases h1; cases h2; exact z5
      | 5 => cases h1; cases h2; exact z6
      | 6 => cases h1; cases h2; exact z7
      | 7 => cases h1; cases h2; exact z8
      | 8 => cases h1; cases h2; exact z9
      | n + 9 => simp at h1
    -- the comprehension
    refine ⟨_, rfl, l9, rfl, ⟨_, sqL eF⟩, fun D nD => lc_list (K := X.K) (a := l9) (xs := [V.ref t1, V.ref t2, V.ref t3, V.ref t4, V.ref t5, V.ref t6, V.ref t7, V.ref t8, V.ref t9])
      (fun i H' => Same HF H' ∧ H' D = some (.lst ((((exWords.take i).filter fun q => decide (o = some q.2)).map (·.1)).map V.str))) ⟨same_new nD, upd_same⟩ (fun i H' _ ⟨s, _⟩ => sqL (s _ _ eF)) (fun i x H' hx ⟨sS, eD⟩ => ?_) (fun H' ⟨sS, eD⟩ => ?_)⟩
    · have hi : i < 9 := (List.getElem?_eq_some_iff.mp hx).1
      have hq : exWords[i]? = some exWords[i] := List.getElem?_eq_getElem hi
      obtain ⟨a, rfl, ha⟩ := pairV_same sS (items i x _ hx hq)
      have step := wd_filter o i (nm := exWords[i].1) (x := exWords[i].2) hq
      refine ⟨a, _, rfl, sqT ha, rfl, _, _, rfl, _, _, rfl, rfl, rfl, ⟨_, rfl, _, rfl, iteB (fun e => ?_) (fun e => ?_)⟩⟩
      · rw [if_pos e] at step
        refine ⟨_, rfl, _, eD, szl ?_, same_mut sS nD, ?_⟩
        · rw [List.length_map, List.length_map]
          exact Nat.lt_of_le_of_lt (List.length_filter_le _ _) (by rw [List.length_take]; omega)
        · rw [upd_same, step, List.map_append]
          rfl
      · rw [if_neg (by rw [e]; decide), List.append_nil] at step
        exact ⟨sS, by rw [step]; exact eD⟩
    · have e9 : exWords.take 9 = exWords := rfl
      have eD : H' D = some (.lst ((((exWords.take 9).filter fun q => decide (o = some q.2)).map (·.1)).map V.str)) := eD
      rw [e9] at eD
      have cE := caught_same sS cF
      have nD2 : H2 D = none := sF.free nD
      have fin : ∀ {H4 : Hp}, H4 = H' → Q (.ref D) H' := fun _ => k H' D (sF.trans sS) nD2 eD
      refine ⟨v, rfl, rfl, ?_⟩
      by_cases hn : v = .non
      · rw [show (!decide (v = V.non)) = false by rw [decide_eq_true hn]; rfl]
        refine ⟨_, rfl, iteF (iteF ⟨_, rfl, fin rfl⟩)⟩
      · rw [show (!decide (v = V.non)) = true by rw [decide_eq_false hn]; rfl]
        refine ⟨_, rfl, iteT ⟨v, rfl, isA_ve EA cE hn ⟨_, rfl, ?_⟩⟩⟩
        exact iteF ⟨_, rfl, fin rfl⟩
  obtain ⟨tr, pr, tail⟩ := hrest
  refine ⟨_, pss_cons (ps_set (i := 1) sc__law_word.nd rfl (Or.inl rfl) pe_non)
    (pss_cons (ps_try_trk (i := 2) (j := 1) (X := (cxOf C8.CX0 X.prog X.w X.K X.mg X.base ["_law_deed", "_law_caught", "error", "_law_some", "_law_found", "_law_name", "_law_fits"] "_law_word" (defScope s__law_word) g cdg X.A X.stack s H C8.E0).nox) (c := .ref (He.ga X.K "ShareError"))
      (tb := fun W D σ H => ∃ Ech : XK, (∀ cls d σ' H', Ech cls d H' → W cls d σ' H') ∧ σ[0]? = some (some (.ref f)) ∧ H c' = some (CodeO c' q) ∧ tl Ech H (fun _ H' => D.nx σ H'))
      rfl rfl sc__law_word.nd rfl rfl rfl rfl (by decide) ⟨rfl, rfl, .inl gS⟩ LamX.takes0 rfl rfl rfl (fun _ _ => rfl) (fun W pn xe tk _ => ?body))
    pr), ?_⟩
  case body =>
    refine ⟨fun pins s' σ H' D I h' => ?_⟩
    obtain ⟨Ech, hW, h1, h2, h3⟩ := h'
    exact (pss_one (ps_expr (act W pn xe Ech _ _ tk hW))).run pins s' σ H' D I ⟨h1, h2, h3⟩
  refine ⟨fun cls d H' => d = none ∧ ∃ x ∈ exNames, cls = .ref (He.ga X.K x) ∧ (∀ H2 p, Same H' H2 → H' p = none → H2 p = some (.lst [.str (wordOf x)]) → Q (.ref p) H2), fun cls d σ' H' z => ?_, rfl, hco, ?_⟩
  · obtain ⟨rfl, x, hx, rfl, k⟩ := z
    refine ⟨true, EA.m x hx, fun _ => ⟨rfl, _, rfl, fun a na σ2 hl hv => ?_⟩, fun z => by cases z⟩
    refine tail σ2 _ (.ref a) (some x) hl hv (.inr ⟨a, x, rfl, rfl, hx, upd_same⟩) fun H3 p s3 n3 e3 => k H3 p ((same_new na).trans s3) (Same.free (same_new na) n3) ?_
    rw [e3, words_some hx]
    rfl
  · refine h _ _ (fun x hx H' k => ⟨rfl, x, hx, rfl, k⟩) (fun v H' k => tail _ H' .non none rfl rfl (.inl ⟨rfl, rfl⟩) fun H3 p s3 n3 e3 => k H3 p s3 n3 ?_)
    rw [e3, words_none]
    rfl
theorem word_ok {P : Program} {w : World} {K : PySem.W.Frag} {mg : Str → Option Value} {base : Heap} (Z : BZ mg) (EA : ExAll K) (EG : ∀ x ∈ exNames, mg x = some (.ref (He.ga K x))) (gS : mg "ShareError" = some (.ref (He.ga K "ShareError")))
    (D : DefAt K mg "_law_word" s__law_word) : WordOk P w K mg base := by
  refine ⟨fun {X} hP hw hK hm hb => ?_⟩
  subst hP hw hK hm hb
  obtain ⟨hmg, fd, F⟩ := D
  have hb := F.bindsN (ps := ["_law_deed"]) (fun _ _ _ _ _ _ us hl => match us, hl with | [_], _ => rfl)
  obtain ⟨oc, od, dV, kV, doc, pm, an, cdv, ct, osl, rfl, lk, hcd, hD, hK⟩ := F.ex
  exact ⟨_, _, _, _, dV, kV, doc, pm, cdv, ct, oc, an, od, osl, ["_law_deed", "_law_caught", "error", "_law_some", "_law_found", "_law_name", "_law_fits"], hmg, F.kp, lk, hcd, hb, sc__law_word, rfl, .inl rfl, word_gives Z EA EG gS _ cdv _⟩

end
end SS

namespace SS
open PySem PySem.Spec PyProof.Rows L2 LamX
section
variable {P : Program} {w : World} {K : PySem.W.Frag} {mg : Str → Option Value} {base : Heap}
abbrev s_law : Stmt := topS 25
theorem sc_law : FnScope ["_law_script", "_law_k", "_law_cell", "_law_number", "_law_found", "_law_words", "_law_count", "_law_odd", "_law_way", "_law_wrong"] ["_law_script"] (defScope s_law) := ⟨rfl, rfl, rfl, by decide +kernel, rfl, by decide +kernel, by decide +kernel⟩
def tabs1 (K : PySem.W.Frag) : List (Addr × Str) := [(tbl K "law", lamQ "law" s_law)]
theorem hm_law (K : PySem.W.Frag) : (tbl K "law", lamQ "law" s_law) ∈ tabs1 K ∧ (∀ p ∈ tabs1 K, p.1 = tbl K "law" → p.2 = lamQ "law" s_law) :=
  ⟨List.mem_singleton.mpr rfl, fun p hp _ => by rw [List.mem_singleton.mp hp]⟩
theorem ways_at (n : Int) : ∃ wy, wy ∈ ways ∧ atI (ways.map V.str) (n % 5) = some (.str wy) := by
  have a0 := Int.emod_nonneg n (show (5 : Int) ≠ 0 by decide)
  have a1 := Int.emod_lt_of_pos n (show (0 : Int) < 5 by decide)
  have hj : (n % 5).toNat < ways.length := by
    show (n % 5).toNat < 5
    omega
  refine ⟨ways[(n % 5).toNat], List.getElem_mem hj, at_of (j := (n % 5).toNat) (by omega) ?_⟩
  rw [List.getElem?_map, List.getElem?_eq_getElem hj]
  rfl
def sp_law (K : PySem.W.Frag) : Sp := fun vs H Q _ => ∃ (a : Addr) (ns : List Int), vs = [.ref a] ∧ SqL K H a (ns.map V.int) ∧ ns.length ≤ 63 ∧ Tabs (tabs1 K) H ∧ ∀ H', Q (.bl true) H'
theorem ok_law (Z : BZ mg) (O__law_mixed : OkF P w K mg base 1 "_law_mixed" ["_law_cell", "_law_k"] (sp__law_mixed K)) (O_divisor : OkF P w K mg base 2 "divisor" ["way", "count"] (sp_divisor K)) (O__law_divisor : OkF P w K mg base 1 "_law_divisor" ["_law_way", "_law_count"] (sp__law_divisor K)) (O__law_no_way : OkF P w K mg base 1 "_law_no_way" ["_law_number"] (sp__law_no_way K)) (O__law_no_count : OkF P w K mg base 1 "_law_no_count" ["_law_number"] (sp__law_no_count K)) (G_WAYS : mg "WAYS" = some (.ref (He.ga K "WAYS"))) (W : WordOk P w K mg base) (TB : TabB base mg (He.codeOf K ("law", none)) (tbl K "law")) (S_WAYS : ∀ H : Hp, SqT K H (He.ga K "WAYS") (ways.map V.str)) (D : DefAt K mg "law" s_law) : OkF P w K mg base 5 "law" ["_law_script"] (sp_law K) := by
  refine OkF.mkL D sc_law (fun _ _ _ _ _ _ us hl => match us, hl with | [_], _ => rfl) (fun vs H Q E h => ?_) (fun f cdv A outer s H vs Q E hcd hr h => ?_)
  · first | (obtain ⟨_, rfl, _⟩ := h; rfl) | (obtain ⟨_, _, rfl, _⟩ := h; rfl) | (obtain ⟨_, _, _, rfl, _⟩ := h; rfl) | (obtain ⟨_, _, _, _, rfl, _⟩ := h; rfl) | (obtain ⟨_, _, _, _, _, rfl, _⟩ := h; rfl) | (obtain ⟨_, _, _, _, _, _, rfl, _⟩ := h; rfl) | (obtain ⟨_, _, _, _, _, _, _, rfl, _⟩ := h; rfl) | (obtain ⟨_, _, _, _, _, _, _, _, rfl, _⟩ := h; rfl)
  · have HM := hm_law K
    refine ⟨_, PSs.nox ((pss_cons (ps_if (pt_cmpR (op_neD hr.units) (pe_glob (v := .ref (He.ga K "WAYS")) rfl G_WAYS rfl) (pe_tup (pa_cons pe_str (pa_cons pe_str (pa_cons pe_str (pa_cons pe_str (pa_cons pe_str pa_nil)))))) (nomark _)) (pss_one (ps_ret pe_bl)) pss_nil)
      (pss_cons (ps_for PassesOwn.never rfl (pi_enum (by rfl) Z.enumerate (pa_cons (pe_slice sl_list (pv 0) po_none (po_some pe_int)) pa_nil)) (pg_tup rfl (pgs_cons (pg_name (i := 1) sc_law.nd rfl (Or.inl rfl)) (pgs_cons (pg_name (i := 2) sc_law.nd rfl (Or.inl rfl)) pgs_nil))) (pss_cons (ps_set (i := 3) sc_law.nd rfl (Or.inl rfl) (pc O__law_mixed (hr.mono (by decide)) passL (pa_cons (pv 2) (pa_cons (pe_op op_add pe_int (pv 1)) pa_nil))))
      (pss_cons (ps_set (i := 8) sc_law.nd rfl (Or.inr rfl) (pe_ix ix_tup (pe_glob (v := .ref (He.ga K "WAYS")) rfl G_WAYS rfl) (pe_op op_mod (pv 3) pe_int) (fun _ _ => rfl)))
      (pss_cons (ps_set (i := 6) sc_law.nd rfl (Or.inr rfl) (pe_op op_add pe_int (pe_op op_mod (pe_op op_fdiv (pv 3) pe_int) pe_int)))
      (pss_cons (ps_set (i := 4) sc_law.nd rfl (Or.inl rfl) (pc O_divisor (hr.mono (by decide)) passL (pa_cons (pv 8) (pa_cons (pv 6) pa_nil))))
      (pss_cons (ps_if (PW.pt (pw_or (pt_cmpR op_ne (pv 4) (pc O__law_divisor (hr.mono (by decide)) passL (pa_cons (pv 8) (pa_cons (pv 6) pa_nil))) (nomark _)) (pw_or1 (pt_val (pe_callB call_isA (by rfl) Z.isinstance bt_isinstance (pa_cons (pv 4) (pa_cons (pe_bltn (v := .ty "bool") (by rfl) Z.bool bt_bool rfl) pa_nil))))))) (pss_one (ps_ret pe_bl)) pss_nil)
      (pss_cons (ps_set (i := 7) sc_law.nd rfl (Or.inr rfl) (pc O__law_no_way (hr.mono (by decide)) passL (pa_cons (pe_op op_fdiv (pv 3) pe_int) pa_nil)))
      (pss_cons (ps_set (i := 9) sc_law.nd rfl (Or.inr rfl) (pc O__law_no_count (hr.mono (by decide)) passL (pa_cons (pe_op op_fdiv (pv 3) pe_int) pa_nil)))
      (pss_cons (ps_set (i := 5) sc_law.nd rfl (Or.inl rfl) (pe_lst (pa_cons (pl_word (k := 2) W HM TB (by exact hcd) (hr.mono (by decide)) (fun A outer s H E f c' hr => by exact (pc O_divisor (hr.mono (by decide)) (passes_call (takes_of rfl rfl rfl rfl) (fun _ _ _ _ h => h)) (pa_cons (pv 7) (pa_cons (pv 6) pa_nil)))) rfl (lamS_by (sc := defScope s_law) (by decide +kernel)) rfl (fun _ _ _ _ _ => rfl)) pa_nil)))
      (pss_cons (ps_expr (pe_bm PySem.F.plainAttrs_list PySem.F.slot_list_append PySem.F.type_list_append mt_append (pv 5) (pa_cons (pl_word (k := 2) W HM TB (by exact hcd) (hr.mono (by decide)) (fun A outer s H E f c' hr => by exact (pc O_divisor (hr.mono (by decide)) (passes_call (takes_of rfl rfl rfl rfl) (fun _ _ _ _ h => h)) (pa_cons (pv 7) (pa_cons (pv 9) pa_nil)))) rfl (lamS_by (sc := defScope s_law) (by decide +kernel)) rfl (fun _ _ _ _ _ => rfl)) pa_nil)))
      (pss_cons (ps_expr (pe_bm PySem.F.plainAttrs_list PySem.F.slot_list_append PySem.F.type_list_append mt_append (pv 5) (pa_cons (pl_word (k := 2) W HM TB (by exact hcd) (hr.mono (by decide)) (fun A outer s H E f c' hr => by exact (pc O_divisor (hr.mono (by decide)) (passes_call (takes_of rfl rfl rfl rfl) (fun _ _ _ _ h => h)) (pa_cons (pv 8) (pa_cons (pv 9) pa_nil)))) rfl (lamS_by (sc := defScope s_law) (by decide +kernel)) rfl (fun _ _ _ _ _ => rfl)) pa_nil)))
      (pss_one (ps_if (pt_cmpR (op_neD hr.units) (pv 5) (pe_lst (pa_cons (pe_lst (pa_cons pe_str pa_nil)) (pa_cons (pe_lst (pa_cons pe_str pa_nil)) (pa_cons (pe_lst (pa_cons pe_str pa_nil)) pa_nil)))) (nomark _)) (pss_one (ps_ret pe_bl)) pss_nil)))))))))))))
      (pss_one (ps_ret (pe_and (pe_cmpR op_eq (pc O_divisor (hr.mono (by decide)) passL (pa_cons pe_str (pa_cons pe_int pa_nil))) pe_int (nomark _)) (pe_one (pe_cmpR op_eq (pc O_divisor (hr.mono (by decide)) passL (pa_cons pe_str (pa_cons pe_int pa_nil))) pe_int (nomark _))))))))), ?_⟩
    obtain ⟨a, ns, rfl, hS, hlen, hT, q⟩ := h
    refine ⟨sz (show 5 ≤ 100000 by decide), fun p np => ⟨_, _, .tup (S_WAYS _) (dpa_strs ways), .tup (sqT upd_same) (dpa_strs ways), by decide +kernel, by decide +kernel, _, rfl, ?_⟩⟩
    rw [show PyData.eqv (.tuple (ways.map PyData.str)) (.tuple (ways.map PyData.str)) = true by decide +kernel]
    refine iteF ?_
    have s1 := same_new (o := .tup (ways.map V.str)) np
    refine ⟨.ref a, rfl, 40, rfl, a, ns.map V.int, rfl, same_seq s1 hS, fun c nc => ?_⟩
    have s2 := same_new (o := .lst (cutV (ns.map V.int) none (some 40))) nc
    have hcl : (cutV (ns.map V.int) none (some 40)).length ≤ 63 := Nat.le_trans (cutV_length _ _ _) (by rw [List.length_map]; exact hlen)
    refine ⟨c, _, rfl, sqL upd_same, for_it (walk_enum (xs := cutV (ns.map V.int) none (some 40))) (fun i σ' H' => ∃ x1 x2 x3 x4 x5 x6 x7 x8 x9, σ' = [some (.ref a), x1, x2, x3, x4, x5, x6, x7, x8, x9] ∧ Tabs (tabs1 K) H' ∧ H' c = some (.lst (cutV (ns.map V.int) none (some 40))))
      ⟨_, _, _, _, _, _, _, _, _, rfl, hT.ext (s1.trans s2), upd_same⟩ (fun i σ' H' _ hp => ?_) (fun i x σ' H1 H' hi hp hy => ?_) (fun σ' H' hp => ?_)⟩
    · obtain ⟨_, _, _, _, _, _, _, _, _, _, _, e⟩ := hp
      exact sqL e
    · obtain ⟨x1, x2, x3, x4, x5, x6, x7, x8, x9, rfl, hT1, ec⟩ := hp
      obtain ⟨tp, v1, v2, rfl, nt, rfl, e1, e2⟩ := hy
      cases e1
      obtain ⟨cell, _, rfl⟩ := List.mem_map.mp (cut_mem e2)
      have sT := same_new (o := .tup [.int (i : Nat), .int cell]) nt
      refine ⟨tp, _, rfl, sqT upd_same, rfl, _, _, rfl, _, _, rfl, rfl, ?_⟩
      have hi63 : i < 63 := Nat.lt_of_lt_of_le hi hcl
      refine ⟨_, rfl, _, rfl, _, _, rfl, rfl, cell, 1 + i, rfl, by omega, by omega, ?_⟩
      generalize hn : mixed cell (1 + i) = n
      have n0 : 0 ≤ n := by
        rw [← hn]
        exact mixed_nn _ _
      obtain ⟨wy, hw, hwa⟩ := ways_at n
      refine ⟨_, rfl, n, 5, rfl, rfl, (show (0 : Int) < 5 by decide), _, _, _, _, rfl, rfl, S_WAYS _, hwa, ?_⟩
      refine ⟨_, rfl, n, 5, rfl, rfl, ⟨by decide, by decide⟩, _, 200, rfl, rfl, (show (0 : Int) < 200 by decide), 1, _, rfl, rfl, ?_⟩
      have k0 := Int.emod_nonneg (n / 5) (show (200 : Int) ≠ 0 by decide)
      have k1 := Int.emod_lt_of_pos (n / 5) (show (0 : Int) < 200 by decide)
      have c1 : 1 ≤ (1 + n / 5 % 200) := by omega
      have c2 : (1 + n / 5 % 200) ≤ 200 := by omega
      have isw : isWay (.str wy) = true := decide_eq_true hw
      have isc : isWh (.int (1 + n / 5 % 200)) 1 200 = true := by
        show (decide ((1 : Int) ≤ (1 + n / 5 % 200)) && decide ((1 + n / 5 % 200) ≤ 200)) = true
        rw [decide_eq_true c1, decide_eq_true c2]
        rfl
      refine ⟨_, rfl, _, rfl, .str wy, .int (1 + n / 5 % 200), .str wy, .int (1 + n / 5 % 200), rfl, .inl (.str _), .inl (.int _), fun z => absurd (isw.symm.trans z) (by decide), fun _ z => absurd (isc.symm.trans z) (by decide), fun ss ii h1 h2 _ _ => ?_⟩
      cases h1
      cases h2
      refine ⟨_, rfl, _, rfl, _, rfl, wy, (1 + n / 5 % 200), rfl, hw, c1, c2, fun H3 s3 => ⟨rfl, _, rfl, ?_⟩⟩
      rw [decide_eq_true rfl]
      refine iteF ⟨_, rfl, isi_bool (d := .int _) (.inl (.int _)) ⟨_, rfl, iteF ?_⟩⟩
      have hT3 := (hT1.ext sT).ext s3
      have ec3 : H3 c = _ := s3 _ _ (sT _ _ ec)
      -- what is no way, no count
      refine ⟨_, rfl, n, 1000, rfl, rfl, ⟨by decide, by decide⟩, n / 1000, rfl, fun H4 vo d4 s4 hd4 w4 => ?_⟩
      refine ⟨_, rfl, n, 100, rfl, rfl, ⟨by decide, by decide⟩, n / 100, rfl, fun H5 vn d5 s5 hd5 w5 => ?_⟩
      have hT5 := (hT3.ext s4).ext s5
      have ec5 : H5 c = _ := s5 _ _ (s4 _ _ ec3)
      have hd4 := dz_same s5 hd4
      -- the first lambda
      refine lam_word hT5 fun H6 x6 hT6 E1 Q1 hE hQ => ⟨_, rfl, _, rfl, vo, .int (1 + n / 5 % 200), d4, .int (1 + n / 5 % 200), rfl, dz_ext x6 hd4, .inl (.int _), fun _ => hE "BadWay" (by decide) _ fun H7 p7 s7 n7 e7 => ?_, fun z => absurd (w4.symm.trans z) (by decide), fun _ _ _ _ z => absurd (w4.symm.trans z) (by decide)⟩
      refine ⟨sz (show 1 ≤ 100000 by decide), fun l nl => ?_⟩
      have s8 := same_new (o := .lst [.ref p7]) nl
      have hT8 := (hT6.ext s7).ext s8
      have x8 := (x6.trans (ext_of s7)).trans (ext_of s8)
      -- the second
      refine ⟨_, rfl, .inl ⟨rfl, _, sqL upd_same⟩, lam_word hT8 fun H9 x9 hT9 E1 Q1 hE hQ => ⟨_, rfl, _, rfl, vo, vn, d4, d5, rfl, dz_ext (x8.trans x9) hd4, dz_ext (x8.trans x9) hd5, fun _ => hE "BadWay" (by decide) _ fun H10 p10 s10 n10 e10 => ?_, fun z => absurd (w4.symm.trans z) (by decide), fun _ _ _ _ z => absurd (w4.symm.trans z) (by decide)⟩⟩
      have el10 : H10 l = some (.lst [.ref p7]) := s10 _ _ (x9 _ _ upd_same (fun ps z => by cases z))
      refine ⟨l, _, _, rfl, rfl, el10, szl (show 1 < 100000 by decide), ?_⟩
      -- what stood ahead of the list l stands behind its change
      have keep : ∀ {Ha Hb : Hp} {o : HO}, Ha l = none → (∀ ps, o ≠ .tbl ps) → ExtN Ha Hb → ExtN Ha (upd Hb l o) := fun {Ha Hb o} hn ho x b u e nn => by
        rw [upd_ne (ne_of_none e hn)]
        exact x b u e nn
      have nl6 : H6 l = none := s7.free nl
      have tabUpd : ∀ {Hb : Hp} {xs ys : List V}, Tabs (tabs1 K) Hb → Hb l = some (.lst xs) → Tabs (tabs1 K) (upd Hb l (.lst ys)) := fun {Hb xs ys} hTb hl p hp => by
        obtain ⟨ps, h1, h2, h3⟩ := hTb p hp
        refine ⟨ps, ?_, h2, fun pos cv hc => ?_⟩
        · rw [upd_ne (fun z => by rw [z, hl] at h1; cases h1)]
          exact h1
        · obtain ⟨cc, q1, q2⟩ := h3 pos cv hc
          refine ⟨cc, q1, ?_⟩
          rw [upd_ne (fun z => by
            rw [z, hl] at q2
            have q3 := Option.some.inj q2
            unfold CodeO at q3
            cases q3)]
          exact q2
      have hT11 := tabUpd (ys := [.ref p7] ++ [.ref p10]) (hT9.ext s10) el10
      have x10 : ExtN H6 H10 := (((ext_of s7).trans (ext_of s8)).trans x9).trans (ext_of s10)
      have x11 : ExtN H6 (upd H10 l (.lst ([.ref p7] ++ [.ref p10]))) := keep nl6 (fun ps z => by cases z) x10
      have e7a : H10 p7 = some (.lst [.str (wordOf "BadWay")]) := s10 _ _ (x9 _ _ (s8 _ _ e7) (fun ps z => by cases z))
      have ne7 : p7 ≠ l := ne_of_none e7 nl
      have ne10 : p10 ≠ l := fun z => by
        rw [z] at n10
        rw [x9 _ _ upd_same (fun ps z => by cases z)] at n10
        cases n10
      -- the third
      refine ⟨_, rfl, .inl ⟨rfl, _, sqL upd_same⟩, lam_word hT11 fun H12 x12 hT12 E1 Q1 hE hQ => ⟨_, rfl, _, rfl, .str wy, vn, .str wy, d5, rfl, .inl (.str _), dz_ext ((x6.trans x11).trans x12) hd5, fun z => absurd (isw.symm.trans z) (by decide), fun _ _ => hE "BadCount" (by decide) _ fun H13 p13 s13 n13 e13 => ?_, fun _ _ _ _ _ z => absurd (w5.symm.trans z) (by decide)⟩⟩
      have el13 : H13 l = some (.lst ([.ref p7] ++ [.ref p10])) := s13 _ _ (x12 _ _ upd_same (fun ps z => by cases z))
      refine ⟨l, _, _, rfl, rfl, el13, szl (show 2 < 100000 by decide), ?_⟩
      have hT14 := tabUpd (ys := ([.ref p7] ++ [.ref p10]) ++ [.ref p13]) (hT12.ext s13) el13
      have x13 : ExtN H6 H13 := (x11.trans x12).trans (ext_of s13)
      have x14 : ExtN H6 (upd H13 l (.lst (([.ref p7] ++ [.ref p10]) ++ [.ref p13]))) := keep nl6 (fun ps z => by cases z) x13
      have e7b : H13 p7 = some (.lst [.str (wordOf "BadWay")]) := s13 _ _ (x12 _ _ (by rw [upd_ne ne7]; exact e7a) (fun ps z => by cases z))
      have e10b : H13 p10 = some (.lst [.str (wordOf "BadWay")]) := s13 _ _ (x12 _ _ (by rw [upd_ne ne10]; exact e10) (fun ps z => by cases z))
      have ne13 : p13 ≠ l := fun z => by
        rw [z] at n13
        rw [x12 _ _ upd_same (fun ps z => by cases z)] at n13
        cases n13
      have ec14 : (upd H13 l (.lst (([.ref p7] ++ [.ref p10]) ++ [.ref p13]))) c = _ := x14 _ _ (x6 _ _ ec5 (fun ps z => by cases z)) (fun ps z => by cases z)
      generalize hHF : upd H13 l (.lst (([V.ref p7] ++ [V.ref p10]) ++ [V.ref p13])) = HF at *
      have fl : HF l = some (.lst [.ref p7, .ref p10, .ref p13]) := by
        rw [← hHF]
        exact upd_same
      have f7 : HF p7 = some (.lst [.str "way"]) := by
        rw [← hHF, upd_ne ne7, e7b]
        rfl
      have f10 : HF p10 = some (.lst [.str "way"]) := by
        rw [← hHF, upd_ne ne10, e10b]
        rfl
      have f13 : HF p13 = some (.lst [.str "count"]) := by
        rw [← hHF, upd_ne ne13, e13]
        rfl
      -- compared
      refine ⟨_, rfl, sz (show 1 ≤ 100000 by decide), fun q1 m1 => ⟨sz (show 1 ≤ 100000 by decide), fun q2 m2 => ⟨sz (show 1 ≤ 100000 by decide), fun q3 m3 => ⟨sz (show 3 ≤ 100000 by decide), fun q4 m4 => ?_⟩⟩⟩⟩
      have t1 := same_new (o := .lst [.str "way"]) m1
      have t2 := same_new (o := .lst [.str "way"]) m2
      have t3 := same_new (o := .lst [.str "count"]) m3
      have t4 := same_new (o := .lst [.ref q1, .ref q2, .ref q3]) m4
      have tA := ((t1.trans t2).trans t3).trans t4
      refine ⟨.list [.list [.str "way"], .list [.str "way"], .list [.str "count"]], .list [.list [.str "way"], .list [.str "way"], .list [.str "count"]],
        .lst (sqL (tA _ _ fl)) (.cons (.lst (sqL (tA _ _ f7)) (.cons (.str _) .nil)) (.cons (.lst (sqL (tA _ _ f10)) (.cons (.str _) .nil)) (.cons (.lst (sqL (tA _ _ f13)) (.cons (.str _) .nil)) .nil))),
        .lst (sqL upd_same) (.cons (.lst (sqL (t4 _ _ (t3 _ _ (t2 _ _ upd_same)))) (.cons (.str _) .nil)) (.cons (.lst (sqL (t4 _ _ (t3 _ _ upd_same))) (.cons (.str _) .nil)) (.cons (.lst (sqL (t4 _ _ upd_same)) (.cons (.str _) .nil)) .nil))),
        by decide +kernel, by decide +kernel, _, rfl, ?_⟩
      rw [show PyData.eqv (.list [.list [.str "way"], .list [.str "way"], .list [.str "count"]]) (.list [.list [.str "way"], .list [.str "way"], .list [.str "count"]]) = true by decide +kernel]
      exact iteF ⟨_, _, _, _, _, _, _, _, _, rfl, hT14.ext tA, tA _ _ ec14⟩
    · obtain ⟨x1, x2, x3, x4, x5, x6, x7, x8, x9, rfl, hT1, ec⟩ := hp
      refine ⟨.str "bent", .int 1, .str "bent", .int 1, rfl, .inl (.str _), .inl (.int _), fun z => absurd z (by decide +kernel), fun _ z => absurd z (by decide +kernel), fun ss ii h1 h2 _ _ => ?_⟩
      cases h1
      cases h2
      refine ⟨rfl, _, rfl, ?_⟩
      rw [show dv "bent" 1 = 7 by decide +kernel, decide_eq_true rfl]
      refine iteT ⟨.str "early", .int 1, .str "early", .int 1, rfl, .inl (.str _), .inl (.int _), fun z => absurd z (by decide +kernel), fun _ z => absurd z (by decide +kernel), fun ss ii h1 h2 _ _ => ?_⟩
      cases h1
      cases h2
      refine ⟨rfl, ?_⟩
      rw [show dv "early" 1 = 0 by decide +kernel, decide_eq_true rfl]
      exact q _
end
end SS

namespace SS
open PySem PySem.Spec PyProof.Rows L2 LamX
def d_is_whole : He.DefD := ⟨("is_whole", none), "is_whole", "is_whole", defArgs s_is_whole, defBody s_is_whole, defScope s_is_whole, [], []⟩
def d_need_way : He.DefD := ⟨("need_way", none), "need_way", "need_way", defArgs s_need_way, defBody s_need_way, defScope s_need_way, [], []⟩
def d_by_way : He.DefD := ⟨("by_way", none), "by_way", "by_way", defArgs s_by_way, defBody s_by_way, defScope s_by_way, [], []⟩
def d_divisor : He.DefD := ⟨("divisor", none), "divisor", "divisor", defArgs s_divisor, defBody s_divisor, defScope s_divisor, [], []⟩
def d__law_mixed : He.DefD := ⟨("_law_mixed", none), "_law_mixed", "_law_mixed", defArgs s__law_mixed, defBody s__law_mixed, defScope s__law_mixed, [], []⟩
def d__law_divisor : He.DefD := ⟨("_law_divisor", none), "_law_divisor", "_law_divisor", defArgs s__law_divisor, defBody s__law_divisor, defScope s__law_divisor, [], []⟩
def d__law_no_way : He.DefD := ⟨("_law_no_way", none), "_law_no_way", "_law_no_way", defArgs s__law_no_way, defBody s__law_no_way, defScope s__law_no_way, [], []⟩
def d__law_no_count : He.DefD := ⟨("_law_no_count", none), "_law_no_count", "_law_no_count", defArgs s__law_no_count, defBody s__law_no_count, defScope s__law_no_count, [], []⟩
def d__law_word : He.DefD := ⟨("_law_word", none), "_law_word", "_law_word", defArgs s__law_word, defBody s__law_word, defScope s__law_word, [], []⟩
def d_law : He.DefD := ⟨("law", none), "law", "law", defArgs s_law, defBody s_law, defScope s_law, [], []⟩
def fnL : List He.DefD := [d_is_whole, d_need_way, d_by_way, d_divisor, d__law_mixed, d__law_divisor, d__law_no_way, d__law_no_count, d__law_word, d_law]
def faL : List He.Fa := (bzNames.map He.Fa.free) ++ [.glo "is_whole", .glo "need_way", .glo "by_way", .glo "divisor", .glo "_law_mixed", .glo "_law_divisor", .glo "_law_no_way", .glo "_law_no_count", .glo "_law_word", .glo "law", .glo "WAYS", .int "MOST_SEATS" 200, .glo "ShareError"]
def exL (K : PySem.W.Frag) : Bool := ((exFB K "BadWay") && ((exFB K "BadCount") && ((He.tupB K "WAYS" (ways.map He.Dv.str)) && ((exAllB K) && ((exNames.all fun x => He.eqO (PySem.W.nsIn K mainGlobals x) (some (some (.ref (He.ga K x))))))))))
def tfL : List He.Defn := [("law", none)]
abbrev RL : PySem.W.OpenRow := PySem.W.OpenLaw.row PySem.Challenge.rw_seatshares_k01_ways
abbrev hkL : PySem.W.Hook := He.hookX 5 faL fnL [] tfL exL
def obL (s : PySem.W.SharedT) : He.AlX := He.obsX 5 faL fnL [] tfL exL (HandSHeadRun.getT s)
theorem ob_eq (s : PySem.W.SharedT) : obL s = hkL.obs s.abs := He.obsX_eq (HandSHeadRun.getT_eq s)
def looseL : List Str := (["ShareError", "BadWay", "BadCount", "BadLists", "BadSeats", "BadPrice", "BadPlace", "BadGroups", "Tied", "BadText", "WAYS", "MOST_SEATS", "is_whole", "need_way", "by_way", "divisor", "_law_cell_at", "_law_mixed", "_law_divisor", "_law_word", "_law_no_way", "_law_no_count"] : List Str)
theorem runL (w : World) : HandSHeadRun.RunEq RL (PySem.W.view RL.prog [25]) hkL obL 40000 looseL w := by
  intro os
  kernel_rfl
theorem factsL {P : Program} {w : World} {K : PySem.W.Frag} {h : Heap} {mg : Str → Option Value} {fa : Addr} (X : K.In h) (G : h.Ns mainGlobals mg) (hfa : mg ("law" : Str) = some (.ref fa)) (c : He.SaysX faL fnL [] tfL exL w h K) :
    ∃ fd : FuncData, (∀ (s : Shared) (v : Value), BindsTo s fd ⟨[v], []⟩ [("_law_script", v)]) ∧ ∀ base : Heap, K.In base → base.Ns mainGlobals mg → (∀ p ∈ tfL.map (He.cT K), TabB base mg p.1 p.2) → FnOk P w K mg base (L2.CX P w) 5 fa fd ["_law_script"] (sp_law K) := by
  have cd := c.t.d
  have Z : BZ mg := bz_of fun x hx => He.free_ok X G (cd.facts (f := .free x) (List.mem_append_left _ (List.mem_map.mpr ⟨x, hx, rfl⟩)))
  have D_is_whole : DefAt K mg "is_whole" s_is_whole := ⟨He.glo_ok X G (cd.fact 17 (f := .glo "is_whole") rfl), cd.def_ 0 (d := d_is_whole) rfl⟩
  have D_need_way : DefAt K mg "need_way" s_need_way := ⟨He.glo_ok X G (cd.fact 18 (f := .glo "need_way") rfl), cd.def_ 1 (d := d_need_way) rfl⟩
  have D_by_way : DefAt K mg "by_way" s_by_way := ⟨He.glo_ok X G (cd.fact 19 (f := .glo "by_way") rfl), cd.def_ 2 (d := d_by_way) rfl⟩
  have D_divisor : DefAt K mg "divisor" s_divisor := ⟨He.glo_ok X G (cd.fact 20 (f := .glo "divisor") rfl), cd.def_ 3 (d := d_divisor) rfl⟩
  have D__law_mixed : DefAt K mg "_law_mixed" s__law_mixed := ⟨He.glo_ok X G (cd.fact 21 (f := .glo "_law_mixed") rfl), cd.def_ 4 (d := d__law_mixed) rfl⟩
  have D__law_divisor : DefAt K mg "_law_divisor" s__law_divisor := ⟨He.glo_ok X G (cd.fact 22 (f := .glo "_law_divisor") rfl), cd.def_ 5 (d := d__law_divisor) rfl⟩
  have D__law_no_way : DefAt K mg "_law_no_way" s__law_no_way := ⟨He.glo_ok X G (cd.fact 23 (f := .glo "_law_no_way") rfl), cd.def_ 6 (d := d__law_no_way) rfl⟩
  have D__law_no_count : DefAt K mg "_law_no_count" s__law_no_count := ⟨He.glo_ok X G (cd.fact 24 (f := .glo "_law_no_count") rfl), cd.def_ 7 (d := d__law_no_count) rfl⟩
  have D__law_word : DefAt K mg "_law_word" s__law_word := ⟨He.glo_ok X G (cd.fact 25 (f := .glo "_law_word") rfl), cd.def_ 8 (d := d__law_word) rfl⟩
  have D_law : DefAt K mg "law" s_law := ⟨He.glo_ok X G (cd.fact 26 (f := .glo "law") rfl), cd.def_ 9 (d := d_law) rfl⟩
  have G_WAYS : mg "WAYS" = some (.ref (He.ga K "WAYS")) := He.glo_ok X G (cd.fact 27 (f := .glo "WAYS") rfl)
  have G_MOST_SEATS : ∃ t, mg "MOST_SEATS" = some (.int 200 t) := He.int_ok X G (cd.fact 28 (f := .int "MOST_SEATS" 200) rfl)
  have gS : mg "ShareError" = some (.ref (He.ga K "ShareError")) := He.glo_ok X G (cd.fact 29 (f := .glo "ShareError") rfl)
  have m0 := c.more
  unfold exL at m0
  obtain ⟨x0, m0⟩ := He.ba m0
  obtain ⟨x1, m0⟩ := He.ba m0
  obtain ⟨x2, m0⟩ := He.ba m0
  obtain ⟨x3, m0⟩ := He.ba m0
  have x4 := m0
  have E_BadWay : ExF K mg "BadWay" := exF_of X G x0
  have E_BadCount : ExF K mg "BadCount" := exF_of X G x1
  have S_WAYS : ∀ H : Hp, SqT K H (He.ga K "WAYS") (ways.map V.str) := fun H => He.tupB_ok x2 H
  have EA : ExAll K := exAll_of x3
  have EG : ∀ x ∈ exNames, mg x = some (.ref (He.ga K x)) := fun x hx => PySem.W.mg_of X G (He.eqO_ok (List.all_eq_true.mp x4 x hx))
  obtain ⟨fdl, FD⟩ := D_law.2
  have hfl : fa = He.ga K "law" := Value.ref.inj (Option.some.inj (hfa.symm.trans D_law.1))
  obtain ⟨oc, od, dV, kV, doc, pm, an, cdv, ct, osl, efd, lk, _⟩ := id FD.ex
  refine ⟨fdl, fun s v => FD.bindsA (ps := ["_law_script"]) (fun _ _ _ _ _ _ us hl => match us, hl with | [_], _ => rfl) s [v] rfl, fun base KB GB TB => ?_⟩
  have TB_law : TabB base mg (He.codeOf K ("law", none)) (tbl K "law") := TB _ (List.mem_map.mpr ⟨("law", none), by simp [tfL], rfl⟩)
  have W : WordOk P w K mg base := word_ok Z EA EG gS D__law_word
  have O_is_whole := ok_is_whole (P := P) (w := w) (base := base) Z D_is_whole
  have O_need_way := ok_need_way (P := P) (w := w) (base := base) Z E_BadWay G_WAYS S_WAYS D_need_way
  have O_by_way := ok_by_way (P := P) (w := w) (base := base) Z D_by_way
  have O_divisor := ok_divisor (P := P) (w := w) (base := base) Z O_need_way O_is_whole O_by_way E_BadCount G_MOST_SEATS D_divisor
  have O__law_mixed := ok__law_mixed (P := P) (w := w) (base := base) Z D__law_mixed
  have O__law_divisor := ok__law_divisor (P := P) (w := w) (base := base) Z D__law_divisor
  have O__law_no_way := ok__law_no_way (P := P) (w := w) (base := base) Z D__law_no_way
  have O__law_no_count := ok__law_no_count (P := P) (w := w) (base := base) Z D__law_no_count
  have O_law := ok_law (P := P) (w := w) (base := base) Z O__law_mixed O_divisor O__law_divisor O__law_no_way O__law_no_count G_WAYS W TB_law S_WAYS D_law
  refine OkF.law O_law hfa (oc := oc) (od := od) (osl := osl) ?_
  rw [hfl]
  exact lk
end SS
open PySem PySem.W PySem.Calls PyProof.Rows
theorem PySem.Challenge.cw_seatshares_k01_ways_holds : PySem.Challenge.rw_seatshares_k01_ways.Holds := by
  w_on; o_law
  refine HandSHeadRun.head_any (r := OpenLaw.row PySem.Challenge.rw_seatshares_k01_ways) (q := view (OpenLaw.row PySem.Challenge.rw_seatshares_k01_ways).prog [25]) (H := SS.hkL) (ob := SS.obL) (M := 40000) (loose := SS.looseL)
    (d := HandSHeadRun.topDef (OpenLaw.row PySem.Challenge.rw_seatshares_k01_ways).prog 25) (kwd := []) SS.ob_eq
    (by kernel_rfl) (fun s => by kernel_rfl) SS.runL (by kernel_rfl) (by kernel_rfl) (by kernel_rfl) (by rfl) (by first | assumption | decide +kernel) (by decide +kernel) ⟨rfl, rfl, rfl, rfl, rfl, by decide +kernel⟩ ?hw ?hc
  case hw => w_witness2
  case hc =>
    refine LamX.walk_ofTsE (l := PySem.Challenge.rw_seatshares_k01_ways) (n := 63) (k := 5) (x := "_law_script") (CX := fun w => L2.CX (PySem.Challenge.rw_seatshares_k01_ways).prog w) rfl (by decide) (by kernel_rfl) ⟨rfl, by decide, by decide⟩ ?F ?C
    case C =>
      intro w H s e s' z
      obtain ⟨_, _, _, _, _, _, _, _, _, _, _, _, z⟩ := z
      exact z.elim
    case F =>
      intro w mg fa h Y G hmg0
      obtain ⟨K, KX, c⟩ := Y
      have hmg : mg ("law" : PySem.Str) = some (.ref fa) := by
        have e : (HandSHeadRun.topDef (OpenLaw.row PySem.Challenge.rw_seatshares_k01_ways).prog 25).name = ("law" : PySem.Str) := by kernel_rfl
        rw [← e]
        exact hmg0
      obtain ⟨fd, hb, hF⟩ := SS.factsL (P := (PySem.Challenge.rw_seatshares_k01_ways).prog) (w := w) KX G hmg c
      refine ⟨K, KX, fd, SS.tfL.map (He.cT K), SS.sp_law K, fun p hp => ?_, fun p hp => ?_, fun p hp => ?_, hb, fun H a ns hl hbits hT hS => ?_, hF⟩
      · obtain ⟨d, hd, rfl⟩ := List.mem_map.mp hp
        exact c.empty d hd
      · obtain ⟨d, hd, rfl⟩ := List.mem_map.mp hp
        exact c.out d hd
      · obtain ⟨d, hd, rfl⟩ := List.mem_map.mp hp
        exact PySem.W.codeHd_of_K KX (c.hd d hd)
      · refine ⟨a, ns, rfl, hS, hl, ?_, fun _ => rfl⟩
        intro p hp
        rw [List.mem_singleton.mp hp]
        exact LamX.TabS.nil (hT _ (List.mem_map.mpr ⟨("law", none), by simp [SS.tfL], rfl⟩))


