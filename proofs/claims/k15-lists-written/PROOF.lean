import PyProof.Rows.All
import Wide.All
import OpenK.AllK
import Wide.FinOn
import HandS.ForMost
import HandS.Exc
import HandS.TryOnly
import HandS.ExcOwn
import HandS.ExcIs
import HandS.WordsExc
import HandS.IsInst
import HandS.Wide
import HandS.Defaults
import HandS.Lambda
import HandS.EndTab
import HandS.HeadWalk
import HandS.HeadHook4
import HandS.Head0
import HandS.Head1
import HandS.Head2
import HandS.HeadEnd
import HandS.Walk
import HandS.Zip
import HandS.Deep
import HandS.Conv
import HandS.Flow
import HandS.Small
import HandS.Style
import HandS.Evl
import KE.SortData
import HandS.Text
import HandS.Codes
import HandS.Replace
import PySem.Challenge.RW_seatshares_k15_lists_written
set_option Elab.async false
set_option linter.all false
set_option maxRecDepth 100000
set_option maxHeartbeats 4000000
/-! own rules, law-independent -/
namespace SS
open PySem PySem.Spec PyProof.Rows L2

/-! ### a def by its name -/
/-- the def named x keeps the promise sp at level k -/
def OkF (P : Program) (w : World) (K : PySem.W.Frag) (mg : Str → Option Value) (base : Heap) (k : Nat) (x : Str) (ps : List Str) (sp : Sp) : Prop :=
  ∃ (f : Addr) (fd : FuncData), mg x = some (.ref f) ∧ PySem.W.keepIn K (.ref f) = true ∧ L2.Binds K fd ps [] ∧ FnOk P w K mg base (L2.CX P w) k f fd ps sp ∧
    ∃ (oc : Value) (od : Option Addr) (osl : Array (Option Value)), K.lookup f = some ⟨oc, od, .func fd, osl⟩
/-- the def's place and text -/
def DefAt (K : PySem.W.Frag) (mg : Str → Option Value) (x : Str) (st : Stmt) : Prop :=
  mg x = some (.ref (He.ga K x)) ∧ ∃ fd : FuncData, FunD K x x (defArgs st) (defBody st) (defScope st) [] [] (He.ga K x) fd
section
variable {P : Program} {w : World} {K : PySem.W.Frag} {mg : Str → Option Value} {base : Heap}
theorem OkF.mk' {x : Str} {st : Stmt} {N ps : List Str} {k : Nat} {sp : Sp} (D : DefAt K mg x st) (S : FnScope N ps (defScope st))
    (hb : ∀ (kV doc pm : Value) (an : Option Addr) (cdv ct : Value) (us : List Value), us.length = ps.length → bindArgs (PySem.W.fnOf x x (defArgs st) (defBody st) (defScope st) .none kV doc pm an cdv ct) ⟨us, []⟩ = pure (ps.zip us))
    (len : ∀ vs H Q E, sp vs H Q E → vs.length = ps.length)
    (body : ∀ (f : Addr) (cdv : Value) (A : Around) (outer : List Env) (s : Shared) (H : Hp) (vs : List V) (Q : VK) (E : XK), Room k (A.deeper (envOfC x (defScope st) s.heap.objs.size f cdv)) → sp vs H Q E →
      ∃ t, PSs (cxOf (L2.CX P w) P w K mg base N x (defScope st) f cdv A outer s H E) (defBody st) t ∧ t { nx := fun _ H' => Q .non H', rt := Q } (start N vs) H) :
    OkF P w K mg base (k + 1) x ps sp := by
  obtain ⟨hm, fd, F⟩ := D
  refine ⟨_, fd, hm, F.kp, F.bindsN hb, F.ok S len (body _), ?_⟩
  obtain ⟨oc, od, dV, kV, doc, pm, an, cdv, ct, osl, rfl, lk, _⟩ := F.ex
  exact ⟨_, _, _, lk⟩
/-- the same where the def makes lambdas: its code object's address is told -/
theorem OkF.mkL {x : Str} {st : Stmt} {N ps : List Str} {k : Nat} {sp : Sp} (D : DefAt K mg x st) (S : FnScope N ps (defScope st))
    (hb : ∀ (kV doc pm : Value) (an : Option Addr) (cdv ct : Value) (us : List Value), us.length = ps.length → bindArgs (PySem.W.fnOf x x (defArgs st) (defBody st) (defScope st) .none kV doc pm an cdv ct) ⟨us, []⟩ = pure (ps.zip us))
    (len : ∀ vs H Q E, sp vs H Q E → vs.length = ps.length)
    (body : ∀ (f : Addr) (cdv : Value) (A : Around) (outer : List Env) (s : Shared) (H : Hp) (vs : List V) (Q : VK) (E : XK), cdv = .ref (He.codeOf K (x, none)) → Room k (A.deeper (envOfC x (defScope st) s.heap.objs.size f cdv)) → sp vs H Q E →
      ∃ t, PSs (cxOf (L2.CX P w) P w K mg base N x (defScope st) f cdv A outer s H E) (defBody st) t ∧ t { nx := fun _ H' => Q .non H', rt := Q } (start N vs) H) :
    OkF P w K mg base (k + 1) x ps sp := by
  obtain ⟨hm, fd, F⟩ := D
  refine ⟨_, fd, hm, F.kp, F.bindsN hb, ?_, ?_⟩
  rotate_left
  · obtain ⟨oc, od, dV, kV, doc, pm, an, cdv, ct, osl, rfl, lk, _⟩ := F.ex
    exact ⟨_, _, _, lk⟩
  obtain ⟨oc, od, dV, kV, doc, pm, an, cdv, ct, osl, rfl, lk, hcd, _, _⟩ := F.ex
  obtain ⟨c, rfl⟩ := He.codeIn_ref hcd
  have ec : He.codeOf K (x, none) = c := He.codeOf_eq (p := (x, none)) lk rfl
  exact fn_of lk hcd S len fun A outer s H vs Q E hr hsp => body _ _ A outer s H vs Q E (by rw [ec]) hr hsp
theorem OkF.up {x : Str} {ps : List Str} {j k : Nat} {sp : Sp} (O : OkF P w K mg base j x ps sp) (h : j ≤ k) : OkF P w K mg base k x ps sp := by
  obtain ⟨f, fd, a, b, c, d, e⟩ := O
  exact ⟨f, fd, a, b, c, d.mono h, e⟩
/-- the law's own def: its function object is the same over every base -/
theorem OkF.law {x : Str} {ps : List Str} {k : Nat} {sp : Sp} {fa : Addr} {fd : FuncData} {oc : Value} {od : Option Addr} {osl : Array (Option Value)} (O : OkF P w K mg base k x ps sp) (hf : mg x = some (.ref fa)) (lk : K.lookup fa = some ⟨oc, od, .func fd, osl⟩) :
    FnOk P w K mg base (L2.CX P w) k fa fd ps sp := by
  obtain ⟨f1, fd1, a, b, c, d, oc1, od1, osl1, e⟩ := O
  have e1 : fa = f1 := Value.ref.inj (Option.some.inj (hf.symm.trans a))
  subst e1
  have e2 : fd = fd1 := by
    have z := lk.symm.trans e
    cases z
    rfl
  subst e2
  exact d
end
section
variable {X : Cx} {x : Str} {ps : List Str} {k : Nat} {sp : Sp} {E : XK} {p pos : Pos} {e : Expr} {es : List Expr} {t : TA}
theorem pc (O : OkF X.prog X.w X.K X.mg X.base k x ps sp) (hr : Room k X.A) (hx : Passes (L2.CX X.prog X.w) X E) (ha : PA X (e :: es) t) (hg : Gl X x := by rfl)
    (hdb : (x == ("__debug__" : Str)) = false := by decide) (he : starEach (e :: es) X.env = (false, eval e X.env) :: starEach es X.env := by rfl) (hpl : (backTo pos (starEach es X.env)).any (·.1) = false := by rfl) :
    PE X (.Call (.Name x p) (e :: es) [] pos) (tCall sp [] E t) := by
  obtain ⟨f, fd, hm, hk, hb, F, _⟩ := O
  exact pe_call F hr hg hm hk hb .nil hx ha hdb he hpl
end

/-! ### built-in names that the module leaves alone -/
structure BZ (mg : Str → Option Value) : Prop where
  len : mg "len" = none
  sum : mg "sum" = none
  min : mg "min" = none
  max : mg "max" = none
  zip : mg "zip" = none
  enumerate : mg "enumerate" = none
  range : mg "range" = none
  isinstance : mg "isinstance" = none
  sorted : mg "sorted" = none
  list : mg "list" = none
  tuple : mg "tuple" = none
  int : mg "int" = none
  bool : mg "bool" = none
  str : mg "str" = none
  all : mg "all" = none
  any : mg "any" = none
  valueError : mg "ValueError" = none
def bzNames : List Str := ["len", "sum", "min", "max", "zip", "enumerate", "range", "isinstance", "sorted", "list", "tuple", "int", "bool", "str", "all", "any", "ValueError"]
theorem bz_of {mg : Str → Option Value} (h : ∀ x ∈ bzNames, mg x = none) : BZ mg :=
  ⟨h _ (by decide), h _ (by decide), h _ (by decide), h _ (by decide), h _ (by decide), h _ (by decide), h _ (by decide), h _ (by decide), h _ (by decide), h _ (by decide), h _ (by decide), h _ (by decide), h _ (by decide), h _ (by decide), h _ (by decide), h _ (by decide), h _ (by decide)⟩

/-! ### xs[i] op= e of a list -/
def rGetN (K : PySem.W.Frag) : V → V → Hp → VK → Prop := fun x y H Q => ∃ (p : Addr) (xs : List V) (i : Nat) (v : V), x = .ref p ∧ y = .int (i : Int) ∧ SqL K H p xs ∧ xs[i]? = some v ∧ Q v H
theorem get_list {X : Cx} : PGet X (rGetN X.K) := by
  intro pins s σ H o i ov iv Q I r1 r2 h
  obtain ⟨p, xs, j, v, rfl, rfl, hq, he, q⟩ := h
  cases r1
  obtain ⟨t, rfl⟩ := r2
  obtain ⟨its, r, pl, hz⟩ := I.list hq
  obtain ⟨u, eu, ru⟩ := r.get he
  have hl := r.length
  have hn := line63
  have hj : j < xs.length := (List.getElem?_eq_some_iff.mp he).1
  exact PySem.wpAny_getItem_list pl.isList (by omega) (by omega) (by simpa using eu) ⟨v, H, I, ru, q⟩

/-! ### an exception that is kept as a value -/
/-- the caught exception at a, of the class at C -/
def ExV (C a : Addr) : HO := .ext fun h => ∃ (oe : Obj) (vs : Array Value), h.get? a = some oe ∧ oe.cls = .ref C ∧ oe.dict = none ∧ oe.data = .fields vs
section
variable {X : Cx} {pins : List (Addr × Obj)} {σ : L2.St} {H : Hp} {s : Shared}
theorem track {a C : Addr} {oe : Obj} {vs : Array Value} (I : Inv X ((a, oe) :: pins) σ H s) (n0 : X.s_0.heap.get? a = none) (hp : ∀ p ∈ X.pn ++ pins, p.1 ≠ a)
    (h1 : oe.cls = .ref C) (h2 : oe.dict = none) (h3 : oe.data = .fields vs) : Inv X pins σ (upd H a (ExV C a)) s := by
  have mem : (a, oe) ∈ X.pn ++ (a, oe) :: pins := List.mem_append_right _ List.mem_cons_self
  obtain ⟨ha, na, nL, nF, nd⟩ := I.pin _ mem
  have old : ∀ b o, X.s_0.heap.get? b = some o → b ≠ a := fun b o e z => by
    rw [z, n0] at e
    cases e
  have tr : ∀ b o, H b = some o → upd H a (ExV C a) b = some o := fun b o e => by
    rw [upd_ne (ne_of_none e na)]
    exact e
  have un : Un X.fs X.ex X.H_0 (upd H a (ExV C a)) X.s_0.heap s.heap := by
    refine ⟨I.base.keep, I.base.slot, fun b o e n hx => ?_, I.base.there, fun b xs e => tr _ _ (I.base.tups b xs e), fun b o u e => tr _ _ (I.base.frzs b o u e), fun b ps e => ?_⟩
    · rw [upd_ne (old b o e)]
      exact I.base.free b o e n hx
    · obtain ⟨m, z⟩ := I.base.tbls b ps e
      exact ⟨m, tr _ _ z⟩
  refine ⟨I.ok, I.os, I.bare, un, I.loc, I.cell, ?_, fun y c e => ?_, fun p q => ?_, fun b u e => ?_, I.len⟩
  · rw [upd_ne (Ne.symm nL)]
    exact I.free
  · have nc : c ≠ a := fun z => by
      obtain ⟨v, o, ho, hd⟩ := I.cell y c e
      rw [z] at ho
      have e2 : oe = o := Option.some.inj (ha.symm.trans ho)
      exact nd v (by rw [← hd, ← e2])
    rw [upd_ne nc]
    exact I.freeC y c e
  · have q' : p ∈ X.pn ++ (a, oe) :: pins := by
      rcases List.mem_append.mp q with z | z
      · exact List.mem_append_left _ z
      · exact List.mem_append_right _ (List.mem_cons_of_mem _ z)
    obtain ⟨e, n, r⟩ := I.pin p q'
    exact ⟨e, by rw [upd_ne (hp p q)]; exact n, r⟩
  · by_cases hb : b = a
    · rw [hb, upd_same] at e
      cases e
      rw [hb]
      exact ⟨⟨oe, vs, ha, h1, h2, h3⟩, ⟨oe, ha⟩, fun g1 g2 ⟨o, v, z1, z2⟩ k => ⟨o, v, k o z1, z2⟩⟩
    · rw [upd_ne hb] at e
      exact (I.hok b u e).stay (fun c v _ q => q) (fun c q => tr _ _ q) fun c xs q => tr _ _ q
end
/-- what the clause «except x as n: y = n» wishes: slot j of y alone is known behind it -/
def wTrk (K : PySem.W.Frag) (c : Value) (j m : Nat) (Wout : WX) (D : Ends) : WX := fun cls d σ H =>
  ∃ b, PySem.W.exmOne K cls c = some b ∧ (b = true → d = none ∧ ∃ C, cls = .ref C ∧ ∀ a, H a = none → ∀ σ2 : L2.St, σ2.length = m → σ2[j]? = some (some (.ref a)) → D.nx σ2 (upd H a (ExV C a))) ∧
    (b = false → Wout cls d σ H)
section
variable {X : Cx} {x n y : Str} {c : Value} {i j : Nat} {body : List Stmt} {np pos pos' p1 p2 p3 : Pos} {tb : WX → TS} {Wout : WX}
theorem ps_try_trk (hs : X.stack = X.env :: X.outer) (hf : X.env.frame = some X.env.locals) (hN : X.N.Nodup) (hi : X.N[i]? = some n) (hln : X.env.kindOf n = some .local)
    (hj : X.N[j]? = some y) (hlj : X.env.scope.names.lookup y = some .local) (hij : i ≠ j) (hc : Names X x c) (tk : Takes X Wout) (hex : X.ex = [])
    (hd1 : (n == ("__debug__" : Str)) = false) (hd2 : (n == ("__classdict__" : Str)) = false)
    (hsw : ∀ a pn, swapsWith (.Name n p2) (some (.Name y p1)) p3.line (X.suite a pn).env = pure false)
    (hb : ∀ (W : WX) (pn : List (Addr × Obj)) (xe : Value → Shared → Prop), Takes (X.tr pn xe) W → PassesOwn (model X.prog X.w) X.A X.env xe → PSs (X.tr pn xe) body (tb W)) :
    PS X (.Try body [.ExceptHandler (some (.Name x np)) (some n) [.Assign [.Name y p1] (.Name n p2) p3] pos'] [] [] pos) (fun D σ H => tb (wTrk X.K c j X.N.length Wout D) D σ H) := by
  refine ⟨fun pins s σ H D I h => ?_⟩
  have ok := I.ok
  have hfr : X.A.frames = some (X.env :: X.outer) := by rw [ok.frames, hs]
  refine wpAny_Try_except ?_
  have hbody := hb (wTrk X.K c j X.N.length Wout D) (X.pn ++ pins)
    (fun e s1 => wpAny (model X.prog X.w) X.A (noteFrame e X.env) (fun _ s2 => wpAny (model X.prog X.w) X.A (setFlight e none) (fun _ s3 =>
      wpAny (model X.prog X.w) X.A (handleBy e X.env [.ExceptHandler (some (.Name x np)) (some n) [.Assign [.Name y p1] (.Name n p2) p3] pos']) (SP X pins D) X.xe s3) X.xe s2) X.xe s1)
    (fun u s' xx => ?_) PassesOwn.looking
  · refine wpAny_mono (hbody.run [] s σ H D (I.toTry _) h) (fun f s1 hsp => ?_) (fun e s1 he => he)
    cases f with
    | next =>
      obtain ⟨σ1, H1, J1, q1⟩ := hsp
      exact wpAny_execs_nil ⟨σ1, H1, J1.ofTry ok, q1⟩
    | brk =>
      obtain ⟨σ1, H1, J1, q1⟩ := hsp
      exact ⟨σ1, H1, J1.ofTry ok, q1⟩
    | cont =>
      obtain ⟨σ1, H1, J1, q1⟩ := hsp
      exact ⟨σ1, H1, J1.ofTry ok, q1⟩
    | ret u =>
      obtain ⟨v1, σ1, H1, J1, r1, q1⟩ := hsp
      exact ⟨v1, σ1, H1, J1.ofTry ok, r1, q1⟩
  · obtain ⟨a, B, sI, pins1, σ1, H1, cls, d, rfl, J0, nb, up, sky, na, os, ag, b, hb1, hyes, hno⟩ := xx
    have J : Inv X pins σ1 H1 sI := J0.ofTry ok
    have skyE : Sky B (X.env :: X.outer) a (Zc cls d) X.env.locals s'.heap := by rw [← hs]; exact sky
    have nB : B.get? a = none := by
      rcases skyE with ⟨_, z, _⟩ | ⟨_, z, _⟩ | ⟨_, z, _⟩ <;> exact z
    show wpAny (model X.prog X.w) X.A (noteFrame (.ref a) X.env) _ _ _
    refine Sky.land Zc.steady hfr hf skyE fun h3 fl3 up3 => ?_
    have J3 : Inv X pins σ1 H1 { s' with heap := h3 } := J.landed nb fl3.1 (up.trans up3) os ag
    obtain ⟨o3, v3, e3, z3, d3⟩ := fl3.there
    have nfr : a ∉ frs (X.env :: X.outer) := fun hm => by
      obtain ⟨_, o2, e2, hnf⟩ := fl3.2.2.1.mem hm
      have e4 : o3 = o2 := Option.some.inj (e3.symm.trans e2)
      exact hnf v3 (by rw [← e4]; exact d3)
    have nL : a ≠ X.env.locals := fun z => nfr (List.mem_filterMap.mpr ⟨X.env, List.mem_cons_self, by rw [hf, z]⟩)
    have nF : a ∉ X.fs := fun hm => by
      obtain ⟨ev, h1, h2⟩ := List.mem_filterMap.mp hm
      exact nfr (List.mem_filterMap.mpr ⟨ev, List.mem_cons_of_mem _ h1, h2⟩)
    have nI : sI.heap.get? a = none := by
      cases q : sI.heap.get? a with
      | none => rfl
      | some o =>
        have z := nb a o q (by rw [show frs X.stack = frs (X.env :: X.outer) by rw [hs]]; exact nfr)
        rw [nB] at z
        cases z
    have n0 : X.s_0.heap.get? a = none := by
      cases q : X.s_0.heap.get? a with
      | none => rfl
      | some o =>
        obtain ⟨o', z⟩ := J.base.there a o q (by rw [hex]; exact fun z => nomatch z)
        rw [nI] at z
        cases z
    have npA : ∀ p ∈ X.pn ++ pins, p.1 ≠ a := fun p hp z => by
      have e := (J.pin p hp).1
      rw [z, nI] at e
      cases e
    have S3 := J3.suite e3 d3 na nL nF
    refine wpAny_handleBy_cons (codeAny_handlers_test ?_) (by intro q; cases q)
    have LT : PySem.W.Looks (model X.prog X.w) h3 (typeOf (.ref a)) cls := fun A Q E s k q => wpAny_typeOf_ref (k _ _ e3) (by rw [z3.1]; exact q)
    have LM := PySem.W.exm_one (M := model X.prog X.w) (J3.kIn) LT hb1
    have test : ∀ {Q : Value → Shared → Prop} {E : Value → Shared → Prop}, Q c { s' with heap := h3 } → wpAny (model X.prog X.w) (X.A.mark (some (.ref a))) (eval (.Name x np) X.env) Q E { s' with heap := h3 } := fun {Q E} q => by
      obtain ⟨hg, hdbg, hm | ⟨hm, hv, hnn⟩⟩ := hc
      · exact ld_glob (X := X.suite a ((a, o3) :: (X.pn ++ pins))) S3 hg hm q hdbg
      · exact ld_blt (X := X.suite a ((a, o3) :: (X.pn ++ pins))) S3 hg hm hv q hnn hdbg
    refine test (LM.here ?_)
    cases b with
    | true =>
      obtain ⟨dN, C, ecls, hyes⟩ := hyes rfl
      refine codeAny_handlers_suite_as ?_
      refine HandSPX.lands_againZ fl3 fun h4 fl4 up4 => ?_
      have J4 : Inv X pins σ1 H1 { s' with heap := h4 } := J.landed nb fl4.1 ((up.trans up3).trans up4) os ag
      obtain ⟨o4, v4, e4, z4, d4⟩ := fl4.there
      have S4 := J4.suite e4 d4 na nL nF
      refine store_ok (X := X.suite a ((a, o4) :: (X.pn ++ pins))) (v := .ref a) S4 hN hi (.inl hln) rfl (fun s5 S5 => ?_) (.inr hln)
      have hl : i < σ1.length := by
        rw [J.len]
        exact (List.getElem?_eq_some_iff.mp hi).1
      have suite : PSs (X.suite a ((a, o4) :: (X.pn ++ pins))) [.Assign [.Name y p1] (.Name n p2) p3] (tAsg (tVar i) (gName j)) :=
        pss_one (ps_set (i := j) hN hj (.inl hlj) (pe_var hi (.inl hln) hd1 hd2) (hsw _ _) (.inr hlj))
      refine wpAny_mono (suite.run [] s5 (σ1.set i (some (.ref a))) H1 { nx := fun σ6 H6 => σ6 = (σ1.set i (some (.ref a))).set j (some (.ref a)) ∧ H6 = H1, rt := fun _ _ => False } S5 ⟨.ref a, by rw [List.getElem?_set_self hl], rfl, rfl⟩) (fun f s6 hsp => ?_) (fun _ _ z => False.elim z)
      cases f with
      | next =>
        obtain ⟨σ6, H6, S6, rfl, rfl⟩ := hsp
        have K6 : Inv X ((a, o4) :: pins) ((σ1.set i (some (.ref a))).set j (some (.ref a))) H6 s6 :=
          ⟨ok, S6.os, S6.bare, S6.base, S6.loc, S6.cell, S6.free, S6.freeC, fun p hp => S6.pin p (by
            show p ∈ ((a, o4) :: (X.pn ++ pins)) ++ []
            rw [List.append_nil]
            rcases List.mem_append.mp hp with z | z
            · exact List.mem_cons_of_mem _ (List.mem_append_left _ z)
            · rcases List.mem_cons.mp z with z | z
              · rw [z]; exact List.mem_cons_self
              · exact List.mem_cons_of_mem _ (List.mem_append_right _ z)), S6.hok, S6.len⟩
        refine gone_ok K6 hN hi hln fun s7 K7 => ?_
        have hlj : j < σ1.length := by
          rw [J.len]
          exact (List.getElem?_eq_some_iff.mp hj).1
        refine ⟨_, _, track K7 n0 npA (by rw [z4.1]; exact ecls) (by rw [z4.2]; exact dN) d4, hyes a na _ ?_ ?_⟩
        · rw [List.length_set, List.length_set, List.length_set]
          exact J.len
        · rw [List.getElem?_set_ne hij, List.getElem?_set_self (by rw [List.length_set]; exact hlj)]
      | brk =>
        obtain ⟨_, _, _, z⟩ := hsp
        exact False.elim z
      | cont =>
        obtain ⟨_, _, _, z⟩ := hsp
        exact False.elim z
      | ret u =>
        obtain ⟨_, _, _, _, _, z⟩ := hsp
        exact False.elim z
    | false =>
      show wpAny _ X.A (handleBy (.ref a) X.env []) _ _ _
      refine wpAny_handleBy_nil ?_
      obtain ⟨k1, k2, k3, oe, vs, T, oT, ts, he, hz, hd, h1, hr⟩ := id fl3
      unfold PySem.passOn
      refine wpAny_bind (wpAny_field he hd h1 ?_)
      rw [if_neg (show ¬ ((Value.ref T == Value.none) = true) from by simp)]
      have fin : wpAny (model X.prog X.w) X.A (setFlight (.ref a) X.env.frame) (fun _ s4 => wpAny (model X.prog X.w) X.A (throw (.ref a) : Sem Flow) (SP X pins D) X.xe s4) X.xe { s' with heap := h3 } := by
        rw [hf]
        refine HandSPX.setFlight_upZ fl3 fun h4 hh4 up4 => wpAny_throw (tk _ _ ?_)
        exact ⟨a, B, sI, pins, σ1, H1, cls, d, rfl, J, nb, (up.trans up3).trans up4, .inr (.inr (by rw [hs]; exact hh4)), na, os, ag, hno rfl⟩
      first
        | exact wpAny_bind (wpAny_pure (wpAny_bind fin))
        | exact wpAny_bind fin
end
/-- isinstance of a kept exception -/
def rIsX (K : PySem.W.Frag) : List V → Hp → VK → Prop := fun xs H Q => ∃ (a D : Addr) (c : V) (u : Value) (b : Bool), xs = [.ref a, c] ∧ H a = some (ExV D a) ∧ ExcC K D ∧ ClsV c u ∧ PySem.W.kitOne K (.ref D) u = some b ∧ Q (.bl b) H
theorem call_isX {X : Cx} : CallR X (.builtin "isinstance") (rIsX X.K) := by
  intro pins s σ H xs us Q I r h
  obtain ⟨a, D, c, u, b, rfl, ea, C, k, e, q⟩ := h
  obtain ⟨u1, u2, rfl, r1, r2⟩ := vals2 r
  have e2 := k.eq r2
  subst e2
  cases (show u1 = Value.ref a from r1)
  obtain ⟨⟨oe, vs, hget, h1, h2, h3⟩, _, _⟩ := I.hok a _ ea
  have J : PySem.W.InstAt s.heap a oe D none := by
    obtain ⟨oc, od, oda, osl⟩ := oe
    dsimp only at h1 h2 h3
    subst h1 h2 h3
    exact ⟨hget, rfl, rfl, trivial⟩
  exact PySem.W.kia_one (PySem.W.handS_kitx_exc C.hg C.hk C.hs C.hd C.ha C.hn C.ht C.hm) I.kIn J e (fun z => nomatch z) fun tk => ⟨.bl b, H, I.kept (t' := tk) fun _ _ z => z, rfl, q⟩
def rIsA (K : PySem.W.Frag) : List V → Hp → VK → Prop := fun xs H Q => rIsi K xs H Q ∨ rIsX K xs H Q
theorem call_isA {X : Cx} : CallR X (.builtin "isinstance") (rIsA X.K) := call_isi.or call_isX
end SS

/-! own lemmas, law-independent: heaps, data, kinds, exception classes -/
namespace SS
open PySem PySem.Spec PyProof.Rows L2 LamX

/-! ### built-in names -/
theorem bt_len : bootBuiltins "len" = some (.builtin "len") := by decide +kernel
theorem bt_sum : bootBuiltins "sum" = some (.builtin "sum") := by decide +kernel
theorem bt_min : bootBuiltins "min" = some (.builtin "min") := by decide +kernel
theorem bt_max : bootBuiltins "max" = some (.builtin "max") := by decide +kernel
theorem bt_isinstance : bootBuiltins "isinstance" = some (.builtin "isinstance") := by decide +kernel
theorem bt_sorted : bootBuiltins "sorted" = some (.builtin "sorted") := by decide +kernel
theorem bt_all : bootBuiltins "all" = some (.builtin "all") := by decide +kernel
theorem bt_any : bootBuiltins "any" = some (.builtin "any") := by decide +kernel
theorem bt_list : bootBuiltins "list" = some (.type "list") := by decide +kernel
theorem bt_tuple : bootBuiltins "tuple" = some (.type "tuple") := by decide +kernel
theorem bt_int : bootBuiltins "int" = some (.type "int") := by decide +kernel
theorem bt_bool : bootBuiltins "bool" = some (.type "bool") := by decide +kernel
theorem bt_str : bootBuiltins "str" = some (.type "str") := by decide +kernel
theorem bt_ValueError : bootBuiltins "ValueError" = some (.type "ValueError") := by decide +kernel

/-! ### heaps -/
theorem same_new {H : Hp} {p : Addr} {o : HO} (h : H p = none) : Same H (upd H p o) := fun b u e => by
  rw [upd_ne (ne_of_none e h)]
  exact e
theorem same_mut {H0 H : Hp} {p : Addr} {o : HO} (s : Same H0 H) (h : H0 p = none) : Same H0 (upd H p o) := fun b u e => by
  rw [upd_ne (ne_of_none e h)]
  exact s b u e
theorem same_free {H H' : Hp} {p : Addr} (s : Same H H') (h : H' p = none) : H p = none := s.free h
theorem ext_of {H H' : Hp} (s : Same H H') : ExtN H H' := ExtN.of s
theorem ext_seq {K : PySem.W.Frag} {H H' : Hp} {a : Addr} {xs : List V} (e : ExtN H H') (h : SqL K H a xs) : SqL K H' a xs := by
  rcases h with (h | ⟨o, h⟩) | h
  · exact .inl (.inl (e _ _ h (fun ps z => by cases z)))
  · exact .inl (.inr ⟨o, e _ _ h (fun ps z => by cases z)⟩)
  · exact .inr h
theorem ext_tup {K : PySem.W.Frag} {H H' : Hp} {a : Addr} {xs : List V} (e : ExtN H H') (h : SqT K H a xs) : SqT K H' a xs := by
  rcases h with (h | ⟨o, h⟩) | h
  · exact .inl (.inl (e _ _ h (fun ps z => by cases z)))
  · exact .inl (.inr ⟨o, e _ _ h (fun ps z => by cases z)⟩)
  · exact .inr h
theorem same_seq {K : PySem.W.Frag} {H H' : Hp} {a : Addr} {xs : List V} (e : Same H H') (h : SqL K H a xs) : SqL K H' a xs := e.seq h
theorem same_tup {K : PySem.W.Frag} {H H' : Hp} {a : Addr} {xs : List V} (e : Same H H') (h : SqT K H a xs) : SqT K H' a xs := ext_tup (ext_of e) h
theorem sqL {K : PySem.W.Frag} {H : Hp} {a : Addr} {xs : List V} (h : H a = some (.lst xs)) : SqL K H a xs := .inl (.inl h)
theorem sqT {K : PySem.W.Frag} {H : Hp} {a : Addr} {xs : List V} (h : H a = some (.tup xs)) : SqT K H a xs := .inl (.inl h)
theorem sz {n : Nat} (h : n ≤ 100000) : n ≤ sizeLine := Nat.le_trans h (by decide)
theorem szl {n : Nat} (h : n < 100000) : n < sizeLine := Nat.lt_of_lt_of_le h (by decide)

/-! ### data on the heap -/
mutual
theorem dp_ext {K : PySem.W.Frag} {H H' : Hp} (e : ExtN H H') : ∀ {v : V} {d : PyData}, Dp K H v d → Dp K H' v d
  | _, _, .non => .non
  | _, _, .bl b => .bl b
  | _, _, .int i => .int i
  | _, _, .str x => .str x
  | _, _, .lst h r => .lst (ext_seq e h) (dpa_ext e r)
  | _, _, .tup h r => .tup (ext_tup e h) (dpa_ext e r)
theorem dpa_ext {K : PySem.W.Frag} {H H' : Hp} (e : ExtN H H') : ∀ {vs : List V} {ds : List PyData}, DpAll K H vs ds → DpAll K H' vs ds
  | _, _, .nil => .nil
  | _, _, .cons h r => .cons (dp_ext e h) (dpa_ext e r)
end
theorem dp_same {K : PySem.W.Frag} {H H' : Hp} {v : V} {d : PyData} (e : Same H H') (h : Dp K H v d) : Dp K H' v d := dp_ext (ext_of e) h
theorem dpa_len {K : PySem.W.Frag} {H : Hp} : ∀ {vs : List V} {ds : List PyData}, DpAll K H vs ds → vs.length = ds.length
  | _, _, .nil => rfl
  | _, _, .cons _ r => by rw [List.length_cons, List.length_cons, dpa_len r]
theorem dpa_get {K : PySem.W.Frag} {H : Hp} : ∀ {vs : List V} {ds : List PyData} {i : Nat} {d : PyData}, DpAll K H vs ds → ds[i]? = some d → ∃ v, vs[i]? = some v ∧ Dp K H v d
  | _, _, _, _, .nil, e => by simp at e
  | _, _, 0, _, .cons h _, e => by
    simp at e
    subst e
    exact ⟨_, rfl, h⟩
  | _, _, i + 1, _, .cons _ r, e => by
    obtain ⟨v, h1, h2⟩ := dpa_get (i := i) r (by simpa using e)
    exact ⟨v, by simpa using h1, h2⟩
theorem dpa_getV {K : PySem.W.Frag} {H : Hp} : ∀ {vs : List V} {ds : List PyData} {i : Nat} {v : V}, DpAll K H vs ds → vs[i]? = some v → ∃ d, ds[i]? = some d ∧ Dp K H v d
  | _, _, _, _, .nil, e => by simp at e
  | _, _, 0, _, .cons h _, e => by
    simp at e
    subst e
    exact ⟨_, rfl, h⟩
  | _, _, i + 1, _, .cons _ r, e => by
    obtain ⟨v, h1, h2⟩ := dpa_getV (i := i) r (by simpa using e)
    exact ⟨v, by simpa using h1, h2⟩
theorem dpa_app {K : PySem.W.Frag} {H : Hp} : ∀ {vs ws : List V} {ds es : List PyData}, DpAll K H vs ds → DpAll K H ws es → DpAll K H (vs ++ ws) (ds ++ es)
  | _, _, _, _, .nil, s => s
  | _, _, _, _, .cons h r, s => .cons h (dpa_app r s)
theorem dpa_ints {K : PySem.W.Frag} {H : Hp} : ∀ (ns : List Int), DpAll K H (ns.map V.int) (ns.map PyData.int)
  | [] => .nil
  | n :: r => .cons (.int n) (dpa_ints r)
theorem dpa_strs {K : PySem.W.Frag} {H : Hp} : ∀ (ns : List Str), DpAll K H (ns.map V.str) (ns.map PyData.str)
  | [] => .nil
  | n :: r => .cons (.str n) (dpa_strs r)
theorem dpa_take {K : PySem.W.Frag} {H : Hp} : ∀ {vs : List V} {ds : List PyData} (n : Nat), DpAll K H vs ds → DpAll K H (vs.take n) (ds.take n)
  | _, _, 0, _ => .nil
  | _, _, _ + 1, .nil => .nil
  | _, _, n + 1, .cons h r => .cons h (dpa_take n r)
theorem dpa_drop {K : PySem.W.Frag} {H : Hp} : ∀ {vs : List V} {ds : List PyData} (n : Nat), DpAll K H vs ds → DpAll K H (vs.drop n) (ds.drop n)
  | _, _, 0, r => r
  | _, _, _ + 1, .nil => .nil
  | _, _, n + 1, .cons _ r => dpa_drop n r
/-- data, or an empty dict -/
def Dz (K : PySem.W.Frag) (H : Hp) (v : V) (d : PyData) : Prop := Dp K H v d ∨ (d = .dict [] ∧ ∃ a, v = .ref a ∧ H a = some (.dK []))
theorem dz_ext {K : PySem.W.Frag} {H H' : Hp} {v : V} {d : PyData} (e : ExtN H H') (h : Dz K H v d) : Dz K H' v d := by
  rcases h with h | ⟨h, a, h1, h2⟩
  · exact .inl (dp_ext e h)
  · exact .inr ⟨h, a, h1, e _ _ h2 (fun ps z => by cases z)⟩
theorem dz_same {K : PySem.W.Frag} {H H' : Hp} {v : V} {d : PyData} (e : Same H H') (h : Dz K H v d) : Dz K H' v d := dz_ext (ext_of e) h

/-! ### kinds -/
def tyD : PyData → String
  | .none => "NoneType"
  | .bool _ => "bool"
  | .int _ => "int"
  | .str _ => "str"
  | .list _ => "list"
  | .tuple _ => "tuple"
  | .dict _ => "dict"
theorem ty_lst {K : PySem.W.Frag} {H : Hp} {a : Addr} {xs : List V} (h : SqL K H a xs) : TyX K H (.ref a) (.type "list") := by
  rcases h with (h | ⟨o, h⟩) | ⟨o, its, n, h, hc, _⟩
  · exact .base (.lst h)
  · exact .base (.frz h)
  · exact .kList h hc
theorem ty_tup {K : PySem.W.Frag} {H : Hp} {a : Addr} {xs : List V} (h : SqT K H a xs) : TyX K H (.ref a) (.type "tuple") := by
  rcases h with (h | ⟨o, h⟩) | ⟨o, its, n, h, hc, _⟩
  · exact .base (.tup h)
  · exact .fTuple h
  · exact .kTuple h hc
theorem dz_ty {K : PySem.W.Frag} {H : Hp} {v : V} {d : PyData} (h : Dz K H v d) : TyX K H v (.type (tyD d)) := by
  rcases h with h | ⟨rfl, a, rfl, h⟩
  · cases h with
    | non => exact .base .non
    | bl b => exact .base (.bl b)
    | int i => exact .base (.int i)
    | str x => exact .base (.str x)
    | lst h _ => exact ty_lst h
    | tup h _ => exact ty_tup h
  · exact .base (.dK h)
def isIntD : PyData → Bool
  | .int _ => true
  | .bool _ => true
  | _ => false
def isBoolD : PyData → Bool
  | .bool _ => true
  | _ => false
def isStrD : PyData → Bool
  | .str _ => true
  | _ => false
def isLstD : PyData → Bool
  | .list _ => true
  | _ => false
def isTupD : PyData → Bool
  | .tuple _ => true
  | _ => false
theorem kit_int : ∀ d : PyData, kitB (tyD d) "int" = some (isIntD d)
  | .none => (by decide +kernel : kitB "NoneType" "int" = some false)
  | .bool _ => (by decide +kernel : kitB "bool" "int" = some true)
  | .int _ => (by decide +kernel : kitB "int" "int" = some true)
  | .str _ => (by decide +kernel : kitB "str" "int" = some false)
  | .list _ => (by decide +kernel : kitB "list" "int" = some false)
  | .tuple _ => (by decide +kernel : kitB "tuple" "int" = some false)
  | .dict _ => (by decide +kernel : kitB "dict" "int" = some false)
theorem kit_bool : ∀ d : PyData, kitB (tyD d) "bool" = some (isBoolD d)
  | .none => (by decide +kernel : kitB "NoneType" "bool" = some false)
  | .bool _ => (by decide +kernel : kitB "bool" "bool" = some true)
  | .int _ => (by decide +kernel : kitB "int" "bool" = some false)
  | .str _ => (by decide +kernel : kitB "str" "bool" = some false)
  | .list _ => (by decide +kernel : kitB "list" "bool" = some false)
  | .tuple _ => (by decide +kernel : kitB "tuple" "bool" = some false)
  | .dict _ => (by decide +kernel : kitB "dict" "bool" = some false)
theorem kit_str : ∀ d : PyData, kitB (tyD d) "str" = some (isStrD d)
  | .none => (by decide +kernel : kitB "NoneType" "str" = some false)
  | .bool _ => (by decide +kernel : kitB "bool" "str" = some false)
  | .int _ => (by decide +kernel : kitB "int" "str" = some false)
  | .str _ => (by decide +kernel : kitB "str" "str" = some true)
  | .list _ => (by decide +kernel : kitB "list" "str" = some false)
  | .tuple _ => (by decide +kernel : kitB "tuple" "str" = some false)
  | .dict _ => (by decide +kernel : kitB "dict" "str" = some false)
theorem kit_lst : ∀ d : PyData, kitB (tyD d) "list" = some (isLstD d)
  | .none => (by decide +kernel : kitB "NoneType" "list" = some false)
  | .bool _ => (by decide +kernel : kitB "bool" "list" = some false)
  | .int _ => (by decide +kernel : kitB "int" "list" = some false)
  | .str _ => (by decide +kernel : kitB "str" "list" = some false)
  | .list _ => (by decide +kernel : kitB "list" "list" = some true)
  | .tuple _ => (by decide +kernel : kitB "tuple" "list" = some false)
  | .dict _ => (by decide +kernel : kitB "dict" "list" = some false)
theorem kit_tup : ∀ d : PyData, kitB (tyD d) "tuple" = some (isTupD d)
  | .none => (by decide +kernel : kitB "NoneType" "tuple" = some false)
  | .bool _ => (by decide +kernel : kitB "bool" "tuple" = some false)
  | .int _ => (by decide +kernel : kitB "int" "tuple" = some false)
  | .str _ => (by decide +kernel : kitB "str" "tuple" = some false)
  | .list _ => (by decide +kernel : kitB "list" "tuple" = some false)
  | .tuple _ => (by decide +kernel : kitB "tuple" "tuple" = some true)
  | .dict _ => (by decide +kernel : kitB "dict" "tuple" = some false)
section
variable {K : PySem.W.Frag} {H : Hp} {v : V} {d : PyData} {Q : VK}
theorem isi_of {T : String} {b : Bool} (h : Dz K H v d) (e : kitB (tyD d) T = some b) (q : Q (.bl b) H) : rIsA K [v, .ty T] H Q :=
  .inl ⟨v, .ty T, _, _, b, rfl, .ty T, dz_ty h, kit_ty e, q⟩
theorem isi_int (h : Dz K H v d) (q : Q (.bl (isIntD d)) H) : rIsA K [v, .ty "int"] H Q := isi_of h (kit_int d) q
theorem isi_bool (h : Dz K H v d) (q : Q (.bl (isBoolD d)) H) : rIsA K [v, .ty "bool"] H Q := isi_of h (kit_bool d) q
theorem isi_str (h : Dz K H v d) (q : Q (.bl (isStrD d)) H) : rIsA K [v, .ty "str"] H Q := isi_of h (kit_str d) q
theorem isi_lst (h : Dz K H v d) (q : Q (.bl (isLstD d)) H) : rIsA K [v, .ty "list"] H Q := isi_of h (kit_lst d) q
theorem isi_tup (h : Dz K H v d) (q : Q (.bl (isTupD d)) H) : rIsA K [v, .ty "tuple"] H Q := isi_of h (kit_tup d) q
end

/-! ### exception classes of the module -/
def exNames : List Str := ["BadWay", "BadCount", "BadLists", "BadSeats", "BadPrice", "BadPlace", "BadGroups", "Tied", "BadText"]
/-- what raising x asks -/
structure ExF (K : PySem.W.Frag) (mg : Str → Option Value) (x : Str) : Prop where
  g : mg x = some (.ref (He.ga K x))
  e : PySem.W.excIn K (He.ga K x) He.veBase "ValueError.__new__" = true
  k : PySem.W.keepIn K (.ref (He.ga K x)) = true
  b : PySem.W.subIn K (.ref (He.ga K x)) (.type "BaseException") = some true
  t : PySem.W.typeIn K (.ref (He.ga K x)) = some (.type "type")
def exFB (K : PySem.W.Frag) (x : Str) : Bool := He.eqO (PySem.W.nsIn K mainGlobals x) (some (some (.ref (He.ga K x)))) && (He.Fa.exc x).ok K
theorem exF_of {K : PySem.W.Frag} {h : Heap} {mg : Str → Option Value} {x : Str} (X : K.In h) (G : h.Ns mainGlobals mg) (e : exFB K x = true) : ExF K mg x := by
  obtain ⟨e1, e2⟩ := He.ba e
  obtain ⟨a, b, c, d⟩ := He.exc_ok e2
  exact ⟨PySem.W.mg_of X G (He.eqO_ok e1), a, b, c, d⟩
def excCB (K : PySem.W.Frag) (D : Addr) : Bool :=
  decide (PySem.W.findIn K (.ref D) "__getattribute__" = some (some (.builtin "BaseException.__getattribute__"))) && (decide (PySem.W.findIn K (.ref D) "__getattr__" = some none) &&
  (decide (PySem.W.subIn K (.ref D) (.type "BaseException") = some true) && (PySem.W.hasDictIn K D && (decide (PySem.W.findIn K (.ref D) "__class__" = some (some (.builtin "object.__class__"))) &&
  (decide (PySem.W.specialIn K (.builtin "object.__class__") "__get__" = some (some (.builtin "getset_descriptor.__get__"))) && (decide (PySem.W.takesIn K (.builtin "object.__class__") = some true) && decide (PySem.W.mroIn K D (.type "object") = some true)))))))
theorem excC_of {K : PySem.W.Frag} {D : Addr} (e : excCB K D = true) : ExcC K D := by
  obtain ⟨a, e⟩ := He.ba e
  obtain ⟨b, e⟩ := He.ba e
  obtain ⟨c, e⟩ := He.ba e
  obtain ⟨d, e⟩ := He.ba e
  obtain ⟨f, e⟩ := He.ba e
  obtain ⟨g, e⟩ := He.ba e
  obtain ⟨h, i⟩ := He.ba e
  exact ⟨of_decide_eq_true a, of_decide_eq_true b, of_decide_eq_true c, d, of_decide_eq_true f, of_decide_eq_true g, of_decide_eq_true h, of_decide_eq_true i⟩
/-- all that the law asks of caught ones -/
structure ExAll (K : PySem.W.Frag) : Prop where
  c : ∀ x ∈ exNames, ExcC K (He.ga K x)
  m : ∀ x ∈ exNames, PySem.W.exmOne K (.ref (He.ga K x)) (.ref (He.ga K "ShareError")) = some true
  one : ∀ x ∈ exNames, ∀ y ∈ exNames, PySem.W.kitOne K (.ref (He.ga K x)) (.ref (He.ga K y)) = some (decide (x = y))
  ve : ∀ x ∈ exNames, PySem.W.kitOne K (.ref (He.ga K x)) (.type "ValueError") = some true
  no : ∀ y ∈ exNames, PySem.W.kitOne K (.type "NoneType") (.ref (He.ga K y)) = some false
def exAllB (K : PySem.W.Frag) : Bool := exNames.all fun x => excCB K (He.ga K x) && (decide (PySem.W.exmOne K (.ref (He.ga K x)) (.ref (He.ga K "ShareError")) = some true) &&
  ((exNames.all fun y => decide (PySem.W.kitOne K (.ref (He.ga K x)) (.ref (He.ga K y)) = some (decide (x = y)))) && (decide (PySem.W.kitOne K (.ref (He.ga K x)) (.type "ValueError") = some true) &&
  decide (PySem.W.kitOne K (.type "NoneType") (.ref (He.ga K x)) = some false))))
theorem exAll_of {K : PySem.W.Frag} (e : exAllB K = true) : ExAll K := by
  have h := List.all_eq_true.mp e
  have h1 : ∀ x ∈ exNames, _ := fun x hx => He.ba (h x hx)
  have h2 : ∀ x ∈ exNames, _ := fun x hx => He.ba (h1 x hx).2
  have h3 : ∀ x ∈ exNames, _ := fun x hx => He.ba (h2 x hx).2
  have h4 : ∀ x ∈ exNames, _ := fun x hx => He.ba (h3 x hx).2
  exact ⟨fun x hx => excC_of (h1 x hx).1, fun x hx => of_decide_eq_true (h2 x hx).1, fun x hx y hy => of_decide_eq_true (List.all_eq_true.mp (h3 x hx).1 y hy),
    fun x hx => of_decide_eq_true (h4 x hx).1, fun x hx => of_decide_eq_true (h4 x hx).2⟩

/-! ### small whole numbers' bounds -/
theorem iteB {b : Bool} {A B : Prop} (h1 : b = true → A) (h2 : b = false → B) : if b = true then A else B := by
  cases b with
  | true => exact iteT (h1 rfl)
  | false => exact iteF (h2 rfl)
/-- an and, an or of tests, by their answers -/
theorem if_and {b : Bool} {A : Prop} (h1 : b = true → A) {B : Prop} (h2 : b = false → B) : if b = true then A else B := iteB h1 h2
end SS

namespace SS
open PySem PySem.Spec PyProof.Rows L2 LamX

/-! ### a displayed dict, asked at once -/
def strPairs (kvs : List (Str × V)) : List (TE × TE) := kvs.map fun q => (tC (.str q.1), tC q.2)
theorem pairs_str {σ : L2.St} : ∀ {kvs : List (Str × V)} {H : Hp} {Q : List (V × V) → Hp → Prop}, Q (kvs.map fun q => (V.str q.1, q.2)) H → tPairs (strPairs kvs) σ H Q
  | [], _, _, q => q
  | kv :: r, H, Q, q => pairs_str (kvs := r) (Q := fun ps H' => Q ((V.str kv.1, kv.2) :: ps) H') q
theorem dispGet {σ : L2.St} {H : Hp} {Q : VK} {ty : TE} {x : Str} {v : V} (kvs : List (Str × V)) (hl : kvs.length ≤ 15) (hy : ∀ (H1 : Hp) (R : VK), R (.str x) H1 → ty σ H1 R)
    (hv : valV (mergeK [] (kvs.map fun q => ((Sum.inr q.1 : Key), q.2))) (Sum.inr x) = some v) (q : ∀ H', Same H H' → Q v H') : tDGet (tDisp (strPairs kvs)) ty σ H Q := by
  intro p hp
  refine pairs_str ⟨upd_same, kvs.map (fun q => ((Sum.inr q.1 : Key), q.2)), ?_, ?_, ?_⟩
  · rw [List.map_map]
    rfl
  · rw [List.length_map]
    exact hl
  · refine hy _ _ ⟨p, v, rfl, ?_, q _ ?_⟩
    · rw [← hv]
      exact DGet.k (k := Sum.inr x) upd_same
    · rw [upd_upd]
      exact same_new hp

/-! ### the law's word for a refusal -/
def exWords : List (Str × Str) := [("way", "BadWay"), ("count", "BadCount"), ("lists", "BadLists"), ("seats", "BadSeats"), ("price", "BadPrice"), ("place", "BadPlace"), ("groups", "BadGroups"), ("tied", "Tied"), ("text", "BadText")]
/-- what was caught: nothing, or an exception of the class named o -/
def Caught (K : PySem.W.Frag) (H : Hp) (v : V) (o : Option Str) : Prop := (v = .non ∧ o = none) ∨ ∃ a x, v = .ref a ∧ o = some x ∧ x ∈ exNames ∧ H a = some (ExV (He.ga K x) a)
theorem caught_same {K : PySem.W.Frag} {H H' : Hp} {v : V} {o : Option Str} (s : Same H H') (h : Caught K H v o) : Caught K H' v o := by
  rcases h with h | ⟨a, x, h1, h2, h3, h4⟩
  · exact .inl h
  · exact .inr ⟨a, x, h1, h2, h3, s _ _ h4⟩
section
variable {K : PySem.W.Frag} {H : Hp} {v : V} {o : Option Str} {y nm : Str} {Q : VK} {σ : L2.St} {i : Nat}
theorem isA_word (EA : ExAll K) (hc : Caught K H v o) (hy : y ∈ exNames) (q : Q (.bl (decide (o = some y))) H) : rIsA K [v, .ref (He.ga K y)] H Q := by
  rcases hc with ⟨rfl, rfl⟩ | ⟨a, x, rfl, rfl, hx, ha⟩
  · exact .inl ⟨.non, _, _, _, false, rfl, .own _, .base .non, EA.no y hy, by
      rw [decide_eq_false (by intro z; cases z)] at q
      exact q⟩
  · refine .inr ⟨a, _, _, _, decide (x = y), rfl, ha, EA.c x hx, .own _, EA.one x hx y hy, ?_⟩
    by_cases e : x = y
    · subst e
      rw [decide_eq_true rfl] at q ⊢
      exact q
    · rw [decide_eq_false (fun z => e (Option.some.inj z))] at q
      rw [decide_eq_false e]
      exact q
theorem isA_ve (EA : ExAll K) (hc : Caught K H v o) (hn : v ≠ .non) (q : Q (.bl true) H) : rIsA K [v, .ty "ValueError"] H Q := by
  rcases hc with ⟨rfl, rfl⟩ | ⟨a, x, rfl, rfl, hx, ha⟩
  · exact absurd rfl hn
  · exact .inr ⟨a, _, _, _, true, rfl, ha, EA.c x hx, .ty _, EA.ve x hx, q⟩
/-- ("way", isinstance(caught, BadWay)) -/
theorem pair_step (EA : ExAll K) (hσ : σ[i]? = some (some v)) (hc : Caught K H v o) (hy : y ∈ exNames)
    (k : ∀ H' t, Same H H' → H' t = some (.tup [.str nm, .bl (decide (o = some y))]) → Q (.ref t) H') :
    tTup (tCons (tC (.str nm)) (tCons (tCB (rIsA K) (tCons (tVar i) (tCons (tC (.ref (He.ga K y))) tNil))) tNil)) σ H Q :=
  ⟨v, hσ, isA_word EA hc hy ⟨by show 2 ≤ sizeLine; decide, fun t n => k _ t (same_new n) upd_same⟩⟩
end
def wordOf (x : Str) : Str := ((exWords.find? fun q => q.2 == x).map (·.1)).getD ""
def wordsOf (o : Option Str) : List Str := (exWords.filter fun q => decide (o = some q.2)).map (·.1)
theorem words_none : wordsOf none = [] := by decide +kernel
theorem words_some {x : Str} (h : x ∈ exNames) : wordsOf (some x) = [wordOf x] := by
  have e : ∀ x ∈ exNames, wordsOf (some x) = [wordOf x] := by decide +kernel
  exact e x h
/-- the pairs behind one another, by their list -/
def pairV (o : Option Str) (H : Hp) (t : V) (q : Str × Str) : Prop := ∃ a, t = .ref a ∧ H a = some (.tup [.str q.1, .bl (decide (o = some q.2))])
theorem pairV_same {o : Option Str} {H H' : Hp} {t : V} {q : Str × Str} (s : Same H H') (h : pairV o H t q) : pairV o H' t q := by
  obtain ⟨a, h1, h2⟩ := h
  exact ⟨a, h1, s _ _ h2⟩

/-- what _law_word makes of a deed (tl: the deed's reading) -/
def TTword (K : PySem.W.Frag) : (XK → Hp → VK → Prop) → Hp → VK → Prop := fun tl H Q =>
  ∀ (E1 : XK) (Q1 : VK), (∀ x ∈ exNames, ∀ H', (∀ H2 p, Same H' H2 → H' p = none → H2 p = some (.lst [.str (wordOf x)]) → Q (.ref p) H2) → E1 (.ref (He.ga K x)) none H') →
    (∀ v H', (∀ H2 p, Same H' H2 → H' p = none → H2 p = some (.lst []) → Q (.ref p) H2) → Q1 v H') → tl E1 H Q1
/-- a class of the module by its name -/
structure ExG (K : PySem.W.Frag) (mg : Str → Option Value) (x : Str) : Prop where
  g : mg x = some (.ref (He.ga K x))
/-- _law_word as it stands, for the caller X, whose table is at P -/
structure WordOk (P : Program) (w : World) (K : PySem.W.Frag) (mg : Str → Option Value) (base : Heap) : Prop where
  ok : ∀ {X : Cx}, X.prog = P → X.w = w → X.K = K → X.mg = mg → X.base = base →
    ∃ (g : Addr) (pg : Arguments) (bg : List Stmt) (sg : Scope) (dV kV doc pm cdv ct oc : Value) (an od : Option Addr) (osl : Array (Option Value)) (Ng : List Str),
      X.mg "_law_word" = some (.ref g) ∧ PySem.W.keepIn X.K (.ref g) = true ∧ X.K.lookup g = some ⟨oc, od, .func (PySem.W.fnOf "_law_word" "_law_word" pg bg sg dV kV doc pm an cdv ct), osl⟩ ∧ PySem.W.codeIn X.K cdv "_law_word" = true ∧
      L2.Binds X.K (PySem.W.fnOf "_law_word" "_law_word" pg bg sg dV kV doc pm an cdv ct) ["_law_deed"] [] ∧ FnScope Ng ["_law_deed"] sg ∧ Ng[0]? = some ("_law_deed" : Str) ∧ Vis sg "_law_deed" ∧
      GivesTo X Ng "_law_word" sg g cdv bg "_law_deed" (X.env.qual ++ "<lambda>") (TTword X.K)
section
variable {X : Cx}
/-- _law_word(lambda: body) -/
theorem pl_word {T : List (Addr × Str)} {c P : Addr} {k : Nat} {params : Arguments} {body : Expr} {scope : Scope} {t : XK → TE} {p lpos pos : Pos} (W : WordOk X.prog X.w X.K X.mg X.base)
    (hm : (P, X.env.qual ++ "<lambda>") ∈ T ∧ (∀ p ∈ T, p.1 = P → p.2 = X.env.qual ++ "<lambda>")) (TB : TabB X.base X.mg c P) (hcode : X.env.code = .ref c) (hr : Room (k + 2) X.A)
    (hbody : ∀ (A : Around) (outer : List Env) (s : Shared) (H : Hp) (E : XK) (f c' : Addr), Room k (A.deeper (lamEnv X scope s.heap.objs.size f c')) → PE (lamCx X A outer s H E scope f c') body (t E))
    (hg : Gl X "_law_word") (L : LamS X.env.scope scope) (hdef : defaultsOf params X.env = ([], []))
    (hbind : ∀ (q : Str) (cl : List (Str × Addr)) (pm cv ctv : Value), bindArgs (PySem.W.kla_fn "<lambda>" q params body scope cl pm cv ctv) ⟨[], []⟩ = pure []) :
    PE X (.Call (.Name "_law_word" p) [.Lambda params body scope lpos] [] pos) (tLam T (TTword X.K) t) := by
  obtain ⟨g, pg, bg, sg, dV, kV, doc, pm, cdv, ct, oc, an, od, osl, Ng, h1, h2, h3, h4, h5, h6, h7, h8, h9⟩ := W.ok (X := X) rfl rfl rfl rfl rfl
  exact pe_lamcall hg h1 h2 h3 h4 h5 h6 h7 h8 h9 TB hcode hm.1 hm.2 hr L hdef hbind hbody
end
/-- the def's table of code objects; the name that its lambdas bear -/
def tbl (K : PySem.W.Frag) (x : Str) : Addr := He.tabOf K (He.codeOf K (x, none))
def lamQ (x : Str) (st : Stmt) : Str := (envOfC x (defScope st) 0 0 .none).qual ++ "<lambda>"
theorem lenOf {H : Hp} {a : Addr} {K : PySem.W.Frag} {ns : List Int} (h : SqL K H a (ns.map V.int)) : True := trivial
theorem cut_mem {xs : List V} {lo hi : Option Int} {i : Nat} {x : V} (h : (cutV xs lo hi)[i]? = some x) : x ∈ xs := by
  have h1 := List.mem_of_getElem? h
  unfold cutV at h1
  exact List.mem_of_mem_drop (List.mem_of_mem_take h1)
/-- the reading of a deed that is refused, or not, as a function of the heap -/
theorem lam_word {K : PySem.W.Frag} {T : List (Addr × Str)} {t : XK → TE} {σ : L2.St} {H : Hp} {Q : VK} (hT : Tabs T H)
    (h : ∀ H1, ExtN H H1 → Tabs T H1 → TTword K (fun E H' Q' => t E σ H' Q') H1 Q) : tLam T (TTword K) t σ H Q := ⟨hT, h⟩
end SS

/-! rows as data; the deal as a plain function -/
namespace SS
open PySem PySem.Spec PyProof.Rows L2 LamX

abbrev Row := Int × Int × Int
def rowD (r : Row) : PyData := .tuple [.int r.1, .int r.2.1, .int r.2.2]
def rowsD (rs : List Row) : PyData := .list (rs.map rowD)
def GoodRow (r : Row) : Prop := 1 ≤ r.1 ∧ r.1 ≤ 10 ^ 30 ∧ 0 ≤ r.2.1 ∧ r.2.1 ≤ r.2.2 ∧ r.2.2 ≤ 200
def Good (rs : List Row) : Prop := 1 ≤ rs.length ∧ rs.length ≤ 12 ∧ ∀ r ∈ rs, GoodRow r
/-- a row's tuple on the heap -/
def Rw (K : PySem.W.Frag) (H : Hp) (x : V) (r : Row) : Prop := ∃ a, x = .ref a ∧ SqT K H a [.int r.1, .int r.2.1, .int r.2.2]
/-- the rows at p -/
structure Rws (K : PySem.W.Frag) (H : Hp) (p : Addr) (xs : List V) (rs : List Row) : Prop where
  l : SqL K H p xs
  n : xs.length = rs.length
  at_ : ∀ (i : Nat) (x : V) (r : Row), xs[i]? = some x → rs[i]? = some r → Rw K H x r
theorem rw_ext {K : PySem.W.Frag} {H H' : Hp} {x : V} {r : Row} (e : ExtN H H') (h : Rw K H x r) : Rw K H' x r := by
  obtain ⟨a, h1, h2⟩ := h
  exact ⟨a, h1, ext_tup e h2⟩
theorem rw_same {K : PySem.W.Frag} {H H' : Hp} {x : V} {r : Row} (e : Same H H') (h : Rw K H x r) : Rw K H' x r := rw_ext (ext_of e) h
theorem Rws.ext {K : PySem.W.Frag} {H H' : Hp} {p : Addr} {xs : List V} {rs : List Row} (h : Rws K H p xs rs) (e : ExtN H H') : Rws K H' p xs rs :=
  ⟨ext_seq e h.l, h.n, fun i x r h1 h2 => rw_ext e (h.at_ i x r h1 h2)⟩
theorem Rws.same {K : PySem.W.Frag} {H H' : Hp} {p : Addr} {xs : List V} {rs : List Row} (h : Rws K H p xs rs) (e : Same H H') : Rws K H' p xs rs := h.ext (ext_of e)
theorem Rws.get {K : PySem.W.Frag} {H : Hp} {p : Addr} {xs : List V} {rs : List Row} (h : Rws K H p xs rs) {i : Nat} {r : Row} (e : rs[i]? = some r) : ∃ a, xs[i]? = some (.ref a) ∧ SqT K H a [.int r.1, .int r.2.1, .int r.2.2] := by
  have hi : i < xs.length := by
    rw [h.n]
    exact (List.getElem?_eq_some_iff.mp e).1
  have ex : xs[i]? = some xs[i] := List.getElem?_eq_getElem hi
  obtain ⟨a, h1, h2⟩ := h.at_ i _ r ex e
  exact ⟨a, by rw [ex, h1], h2⟩
theorem Rws.getV {K : PySem.W.Frag} {H : Hp} {p : Addr} {xs : List V} {rs : List Row} (h : Rws K H p xs rs) {i : Nat} {x : V} (e : xs[i]? = some x) : ∃ r a, rs[i]? = some r ∧ x = .ref a ∧ SqT K H a [.int r.1, .int r.2.1, .int r.2.2] := by
  have hi : i < rs.length := by
    rw [← h.n]
    exact (List.getElem?_eq_some_iff.mp e).1
  have er : rs[i]? = some rs[i] := List.getElem?_eq_getElem hi
  obtain ⟨a, h1, h2⟩ := h.at_ i x _ e er
  exact ⟨_, a, er, h1, h2⟩
theorem dp_row {K : PySem.W.Frag} {H : Hp} {a : Addr} {r : Row} (h : SqT K H a [.int r.1, .int r.2.1, .int r.2.2]) : Dp K H (.ref a) (rowD r) := .tup h (.cons (.int _) (.cons (.int _) (.cons (.int _) .nil)))
theorem rw_of_dp {K : PySem.W.Frag} {H : Hp} {x : V} {r : Row} (h : Dp K H x (rowD r)) : Rw K H x r := by
  cases h with
  | tup h1 h2 =>
    cases h2 with
    | cons a h2 =>
      cases h2 with
      | cons b h2 =>
        cases h2 with
        | cons c h2 =>
          cases h2
          cases a
          cases b
          cases c
          exact ⟨_, rfl, h1⟩
theorem dp_rw {K : PySem.W.Frag} {H : Hp} {x : V} {r : Row} (h : Rw K H x r) : Dp K H x (rowD r) := by
  obtain ⟨a, rfl, h⟩ := h
  exact dp_row h
theorem dpa_rows {K : PySem.W.Frag} {H : Hp} : ∀ {xs : List V} {rs : List Row}, xs.length = rs.length → (∀ (i : Nat) (x : V) (r : Row), xs[i]? = some x → rs[i]? = some r → Rw K H x r) → DpAll K H xs (rs.map rowD)
  | [], [], _, _ => .nil
  | [], _ :: _, h, _ => by cases h
  | _ :: _, [], h, _ => by cases h
  | x :: xs, r :: rs, h, k => .cons (dp_rw (k 0 x r rfl rfl)) (dpa_rows (Nat.succ.inj h) fun i y s h1 h2 => k (i + 1) y s (by simpa using h1) (by simpa using h2))
theorem Rws.dp {K : PySem.W.Frag} {H : Hp} {p : Addr} {xs : List V} {rs : List Row} (h : Rws K H p xs rs) : Dp K H (.ref p) (rowsD rs) := .lst h.l (dpa_rows h.n h.at_)
theorem rws_of_dpa {K : PySem.W.Frag} {H : Hp} {p : Addr} {xs : List V} {rs : List Row} (h : SqL K H p xs) (hd : DpAll K H xs (rs.map rowD)) : Rws K H p xs rs := by
  refine ⟨h, by rw [dpa_len hd, List.length_map], fun i x r h1 h2 => ?_⟩
  obtain ⟨d, e1, e2⟩ := dpa_getV hd h1
  rw [List.getElem?_map, h2] at e1
  cases e1
  exact rw_of_dp e2
theorem rws_of_dp {K : PySem.W.Frag} {H : Hp} {p : Addr} {rs : List Row} (h : Dp K H (.ref p) (rowsD rs)) : ∃ xs, Rws K H p xs rs := by
  cases h with
  | lst h1 h2 => exact ⟨_, rws_of_dpa h1 h2⟩
theorem dp_rows_ref {K : PySem.W.Frag} {H : Hp} {v : V} {rs : List Row} (h : Dp K H v (rowsD rs)) : ∃ p xs, v = .ref p ∧ Rws K H p xs rs := by
  cases h with
  | lst h1 h2 => exact ⟨_, _, rfl, rws_of_dpa h1 h2⟩

/-! ### what is a list's tuple, what are lists, by their data -/
def isWh0 (d : PyData) (lo hi : Int) : Bool := match d with
  | .int i => decide (lo ≤ i) && decide (i ≤ hi)
  | _ => false
def isListD : PyData → Bool
  | .tuple [a, b, .int m] => isWh0 a 1 (10 ^ 30) && (isWh0 (.int m) 0 200 && isWh0 b 0 m)
  | _ => false
def areListsD : PyData → Bool
  | .list ds => decide (1 ≤ ds.length) && (decide (ds.length ≤ 12) && ds.all isListD)
  | _ => false
theorem wh_int {d : PyData} {lo hi : Int} (h : isWh0 d lo hi = true) : ∃ i, d = .int i ∧ lo ≤ i ∧ i ≤ hi := by
  cases d with
  | int i =>
    have h2 : (decide (lo ≤ i) && decide (i ≤ hi)) = true := h
    obtain ⟨h3, h4⟩ := He.ba h2
    exact ⟨i, rfl, of_decide_eq_true h3, of_decide_eq_true h4⟩
  | _ => cases h
theorem wh_of {i lo hi : Int} (h1 : lo ≤ i) (h2 : i ≤ hi) : isWh0 (.int i) lo hi = true := by
  show (decide (lo ≤ i) && decide (i ≤ hi)) = true
  rw [decide_eq_true h1, decide_eq_true h2]
  rfl
theorem wh_int_iff {i lo hi : Int} : isWh0 (.int i) lo hi = true ↔ lo ≤ i ∧ i ≤ hi := by
  show (decide (lo ≤ i) && decide (i ≤ hi)) = true ↔ _
  rw [Bool.and_eq_true, decide_eq_true_eq, decide_eq_true_eq]
theorem isListD_row {r : Row} : isListD (rowD r) = true ↔ GoodRow r := by
  show (isWh0 (.int r.1) 1 (10 ^ 30) && (isWh0 (.int r.2.2) 0 200 && isWh0 (.int r.2.1) 0 r.2.2)) = true ↔ _
  rw [Bool.and_eq_true, Bool.and_eq_true, wh_int_iff, wh_int_iff, wh_int_iff]
  unfold GoodRow
  constructor
  · rintro ⟨⟨a, b⟩, ⟨c, d⟩, e, f⟩
    exact ⟨a, b, e, f, d⟩
  · rintro ⟨a, b, e, f, d⟩
    exact ⟨⟨a, b⟩, ⟨by omega, d⟩, e, f⟩
theorem isListD_is {d : PyData} (h : isListD d = true) : ∃ r : Row, d = rowD r ∧ GoodRow r := by
  match d, h with
  | .tuple [a, b, .int m], h =>
    have h2 : (isWh0 a 1 (10 ^ 30) && (isWh0 (.int m) 0 200 && isWh0 b 0 m)) = true := h
    obtain ⟨h3, h4⟩ := He.ba h2
    obtain ⟨h4, h5⟩ := He.ba h4
    obtain ⟨x, rfl, _⟩ := wh_int h3
    obtain ⟨y, rfl, _⟩ := wh_int h5
    exact ⟨(x, y, m), rfl, isListD_row.mp h⟩
theorem all_rows : ∀ {ds : List PyData}, ds.all isListD = true → ∃ rs : List Row, ds = rs.map rowD ∧ ∀ r ∈ rs, GoodRow r
  | [], _ => ⟨[], rfl, fun r h => by cases h⟩
  | d :: ds, h => by
    rw [List.all_cons] at h
    obtain ⟨h1, h2⟩ := He.ba h
    obtain ⟨r, rfl, g⟩ := isListD_is h1
    obtain ⟨rs, rfl, gs⟩ := all_rows h2
    exact ⟨r :: rs, rfl, fun x hx => by
      rcases List.mem_cons.mp hx with rfl | hx
      · exact g
      · exact gs x hx⟩
theorem areListsD_is {d : PyData} (h : areListsD d = true) : ∃ rs : List Row, d = rowsD rs ∧ Good rs := by
  cases d with
  | list ds =>
    have h2 : (decide (1 ≤ ds.length) && (decide (ds.length ≤ 12) && ds.all isListD)) = true := h
    obtain ⟨h3, h4⟩ := He.ba h2
    obtain ⟨h4, h5⟩ := He.ba h4
    obtain ⟨rs, rfl, g⟩ := all_rows h5
    rw [List.length_map] at h3 h4
    exact ⟨rs, rfl, of_decide_eq_true h3, of_decide_eq_true h4, g⟩
  | _ => cases h
theorem areListsD_rows {rs : List Row} (g : Good rs) : areListsD (rowsD rs) = true := by
  show (decide (1 ≤ (rs.map rowD).length) && (decide ((rs.map rowD).length ≤ 12) && (rs.map rowD).all isListD)) = true
  rw [List.length_map, decide_eq_true g.1, decide_eq_true g.2.1, Bool.true_and, Bool.true_and, List.all_map, List.all_eq_true]
  intro r hr
  exact isListD_row.mpr (g.2.2 r hr)

/-! ### sums of a column -/
def lows (rs : List Row) : List Int := rs.map fun r => r.2.1
def caps (rs : List Row) : List Int := rs.map fun r => r.2.2
def votes (rs : List Row) : List Int := rs.map fun r => r.1
/-- [row[k] for row in rows], k = 0, 1, 2 -/
def col (k : Nat) (r : Row) : Int := match k with
  | 0 => r.1
  | 1 => r.2.1
  | _ => r.2.2
theorem col_at {K : PySem.W.Frag} {H : Hp} {a : Addr} {r : Row} {k : Nat} (hk : k < 3) (h : SqT K H a [.int r.1, .int r.2.1, .int r.2.2]) {Q : VK} (q : Q (.int (col k r)) H) : rIxT K (.ref a) (.int (k : Int)) H Q := by
  refine ⟨a, _, _, _, rfl, rfl, h, atI_nat (j := k) (v := .int (col k r)) ?_, q⟩
  match k, hk with
  | 0, _ => rfl
  | 1, _ => rfl
  | 2, _ => rfl

/-! ### the deal -/
/-- is_above of two claims -/
def above (a b : Int × Int) : Bool := decide (b.1 * a.2 < a.1 * b.2)
/-- the divisor of a seat -/
def dv (w : Str) (c : Int) : Int := if w = "whole" then c else if w = "odd" then 2 * c - 1 else if w = "third" then 3 * c - 2 else if w = "early" then c - 1 else if c = 1 then 7 else 10 * c - 5
def ways : List Str := ["whole", "odd", "third", "early", "bent"]
abbrev rw0 : Row := (0, 0, 0)
def rowAt (rs : List Row) (i : Nat) : Row := rs.getD i rw0
def cl (w : Str) (r : Row) (k : Int) : Int × Int := (r.1, dv w k)
def nxt (w : Str) (rs : List Row) (f : List Int) (i : Nat) : Int × Int := cl w (rowAt rs i) (f.getD i 0 + 1)
def opens (rs : List Row) (f : List Int) : List Nat := (List.range rs.length).filter fun i => decide (f.getD i 0 < (rowAt rs i).2.2)
def gStep (w : Str) (rs : List Row) (f : List Int) (best : List Nat) (i : Nat) : List Nat := match best with
  | [] => [i]
  | b :: r => if above (nxt w rs f b) (nxt w rs f i) then b :: r else if above (nxt w rs f i) (nxt w rs f b) then [i] else (b :: r) ++ [i]
def greatest (w : Str) (rs : List Row) (f : List Int) : List Nat := (opens rs f).foldl (gStep w rs f) []
def bump1 (f : List Int) (i : Nat) : List Int := f.set i (f.getD i 0 + 1)
def bump (f : List Int) (ps : List Nat) : List Int := ps.foldl bump1 f
structure Dealt where
  sure : List Int
  tied : List Nat
  left : Int
  last : List Nat
def dealtM (w : Str) (rs : List Row) : Nat → List Int → Int → List Nat → Dealt
  | 0, f, _, last => ⟨f, [], 0, last⟩
  | n + 1, f, left, last => if 0 < left then (if left < (greatest w rs f).length then ⟨f, greatest w rs f, left, greatest w rs f⟩ else dealtM w rs n (bump f (greatest w rs f)) (left - (greatest w rs f).length) (greatest w rs f)) else ⟨f, [], 0, last⟩
def dealM (w : Str) (rs : List Row) (seats : Int) : Dealt := dealtM w rs ((seats - (lows rs).sum).toNat + 1) (lows rs) (seats - (lows rs).sum) []
def natsV (l : List Nat) : List V := l.map fun (i : Nat) => V.int (i : Int)

theorem ways_cases {s : Str} (h : s ∈ ways) : s = "whole" ∨ s = "odd" ∨ s = "third" ∨ s = "early" ∨ s = "bent" := by
  simpa [ways] using h
theorem dv_whole (c : Int) : dv "whole" c = c := if_pos rfl
theorem dv_odd (c : Int) : dv "odd" c = 2 * c - 1 := by
  unfold dv
  rw [if_neg (by decide), if_pos rfl]
theorem dv_third (c : Int) : dv "third" c = 3 * c - 2 := by
  unfold dv
  rw [if_neg (by decide), if_neg (by decide), if_pos rfl]
theorem dv_early (c : Int) : dv "early" c = c - 1 := by
  unfold dv
  rw [if_neg (by decide), if_neg (by decide), if_neg (by decide), if_pos rfl]
theorem dv_bent (c : Int) : dv "bent" c = if c = 1 then 7 else 10 * c - 5 := by
  unfold dv
  rw [if_neg (by decide), if_neg (by decide), if_neg (by decide), if_neg (by decide)]
/-- divisors of good counts are small, not negative, and rise -/
theorem dv_bound {w : Str} (h : w ∈ ways) {c : Int} (h1 : 1 ≤ c) : 0 ≤ dv w c ∧ dv w c ≤ 10 * c ∧ dv w c < dv w (c + 1) := by
  rcases ways_cases h with rfl | rfl | rfl | rfl | rfl
  · rw [dv_whole, dv_whole]
    omega
  · rw [dv_odd, dv_odd]
    omega
  · rw [dv_third, dv_third]
    omega
  · rw [dv_early, dv_early]
    omega
  · rw [dv_bent, dv_bent]
    by_cases e : c = 1
    · subst e
      decide
    · rw [if_neg e, if_neg (by omega)]
      omega

/-! ### rules with the written part told (for comprehensions' blocks) -/
section
variable {X : Cx} {K : PySem.W.Frag}
theorem ix_listK (h : X.K = K) : IxR X (rIxL K) := h ▸ ix_list
theorem ix_tupK (h : X.K = K) : IxR X (rIxT K) := h ▸ ix_tup
theorem call_isAK (h : X.K = K) : CallR X (.builtin "isinstance") (rIsA K) := h ▸ call_isA
theorem cr_sumK (h : X.K = K) (hc : X.calm = true) : CallR X (.builtin "sum") (rSum K) := h ▸ cr_sum hc
theorem cr_anyK (h : X.K = K) (hc : X.calm = true) : CallR X (.builtin "any") (rAny K) := h ▸ cr_any hc
theorem cr_allK (h : X.K = K) (hc : X.calm = true) : CallR X (.builtin "all") (rAll K) := h ▸ cr_all hc
theorem cr_sortedK (h : X.K = K) : CallR X (.builtin "sorted") (rSorted K) := h ▸ cr_sorted
theorem call_len_seqK (h : X.K = K) : CallR X (.builtin "len") (fun xs H Q => ∃ p ys, xs = [.ref p] ∧ (SqL K H p ys ∨ SqT K H p ys) ∧ Q (.int ys.length) H) := h ▸ call_len_seq
theorem call_list_ofK (h : X.K = K) : CallR X (.type "list") (fun xs H Q => ∃ p ys, xs = [.ref p] ∧ (SqL K H p ys ∨ SqT K H p ys) ∧ ∀ l, H l = none → Q (.ref l) (upd H l (.lst ys))) := h ▸ call_list_of
theorem call_tuple_ofK (h : X.K = K) : CallR X (.type "tuple") (fun xs H Q => ∃ p ys, xs = [.ref p] ∧ ((SqL K H p ys ∧ ∀ l, H l = none → Q (.ref l) (upd H l (.tup ys))) ∨ (SqT K H p ys ∧ Q (.ref p) H))) := h ▸ call_tuple_of
theorem sl_listK (h : X.K = K) : SlR X (rSlL K) := h ▸ sl_list
theorem sl_tupK (h : X.K = K) : SlR X (rSlT K) := h ▸ sl_tup
theorem op_in_seqK (h : X.K = K) : OpR X (compareOp .In) (rIn K false) := h ▸ op_in_seq
theorem op_notIn_seqK (h : X.K = K) : OpR X (compareOp .NotIn) (rIn K true) := h ▸ op_notIn_seq
theorem op_eqDK (h : X.K = K) (hu : X.A.units + 64 < cLine) : OpR X (compareOp .Eq) (rEqD K) := h ▸ op_eqD hu
theorem op_neDK (h : X.K = K) (hu : X.A.units + 64 < cLine) : OpR X (compareOp .NotEq) (rNeD K) := h ▸ op_neD hu
end

/-! ### short rules of readings -/
theorem iteNB {b : Bool} {A B : Prop} (h1 : b = false → A) (h2 : b = true → B) : if (!b) = true then A else B := by
  cases b with
  | true => exact iteF (h2 rfl)
  | false => exact iteT (h1 rfl)
theorem int_ix {fs : List Int} {i : Nat} (hi : i < fs.length) : atI (fs.map V.int) (i : Int) = some (.int (fs.getD i 0)) := by
  refine atI_nat (j := i) ?_
  rw [List.getElem?_map, List.getElem?_eq_getElem hi, List.getD_eq_getElem?_getD, List.getElem?_eq_getElem hi]
  rfl
theorem decS {x y : Str} : (decide (V.str x = V.str y) = true) = (x = y) := by
  apply propext
  constructor
  · intro h
    exact V.str.inj (of_decide_eq_true h)
  · intro h
    rw [h]
    exact decide_eq_true rfl
theorem decI {x y : Int} : (decide (V.int x = V.int y) = true) = (x = y) := by
  apply propext
  constructor
  · intro h
    exact V.int.inj (of_decide_eq_true h)
  · intro h
    rw [h]
    exact decide_eq_true rfl
/-- a test of two texts, of two numbers -/
theorem ifS {x y : Str} {A B : Prop} (h1 : x = y → A) (h2 : ¬ x = y → B) : if decide (V.str x = V.str y) = true then A else B := by
  by_cases e : x = y
  · rw [if_pos (by rw [decS]; exact e)]
    exact h1 e
  · rw [if_neg (by rw [decS]; exact e)]
    exact h2 e
theorem ifI {x y : Int} {A B : Prop} (h1 : x = y → A) (h2 : ¬ x = y → B) : if decide (V.int x = V.int y) = true then A else B := by
  by_cases e : x = y
  · rw [if_pos (by rw [decI]; exact e)]
    exact h1 e
  · rw [if_neg (by rw [decI]; exact e)]
    exact h2 e
theorem ifNI {x y : Int} {A B : Prop} (h1 : ¬ x = y → A) (h2 : x = y → B) : if (!decide (V.int x = V.int y)) = true then A else B := by
  by_cases e : x = y
  · rw [show decide (V.int x = V.int y) = true by rw [decI]; exact e]
    exact iteF (h2 e)
  · rw [show decide (V.int x = V.int y) = false by
      rw [← Bool.not_eq_true, decI]
      exact e]
    exact iteT (h1 e)
theorem ifD {c : Prop} [Decidable c] {A B : Prop} (h1 : c → A) (h2 : ¬ c → B) : if decide c = true then A else B := by
  by_cases e : c
  · rw [decide_eq_true e]
    exact iteT (h1 e)
  · rw [decide_eq_false e]
    exact iteF (h2 e)
theorem ifND {c : Prop} [Decidable c] {A B : Prop} (h1 : ¬ c → A) (h2 : c → B) : if (!decide c) = true then A else B := by
  by_cases e : c
  · rw [decide_eq_true e]
    exact iteF (h2 e)
  · rw [decide_eq_false e]
    exact iteT (h1 e)
theorem small_l {i j : Int} (h : -(2 ^ 64) < i ∧ i < 2 ^ 64) : CMul i j := .inl h
theorem small_r {i j : Int} (h : -(2 ^ 64) < j ∧ j < 2 ^ 64) : CMul i j := .inr h
/-- what a comprehension's loop asks: J walked, D the new list -/
abbrev LcGoal (J : It) (g : TG) (tt : TT) (te : TE) (vs : List Nat) (σ : L2.St) (H1 : Hp) (D : Addr) (Qd : Hp → Prop) : Prop :=
  ∃ W : Nat → Nat → Hp → Prop, (∃ m, W 0 m (upd H1 D (.lst []))) ∧ ∀ i m H, W i m H →
    (J.stop i H ∧ Qd H) ∨ (J.go i H ∧ ∃ Nx : Hp → Prop, (∀ H', Nx H' → ∃ m', m' < m ∧ W (i + 1) m' H') ∧ ∀ x H', J.yld i H x H' → g x (wipe σ vs) H' fun σ2 H2 => wipe σ2 vs = wipe σ vs ∧ tt σ2 H2 fun b H3 =>
      if b = true then te σ2 H3 fun y H4 => ∃ acc, H4 D = some (.lst acc) ∧ acc.length < sizeLine ∧ Nx (upd H4 D (.lst (acc ++ [y]))) else Nx H3)
/-- a column: [row[k] for row in rows], the rows at p -/
theorem lc_col {K : PySem.W.Frag} {σ : L2.St} {H : Hp} {Qd : Hp → Prop} {i k : Nat} {p D : Addr} {xs : List V} {rs : List Row} (h : Rws K H p xs rs) (hk : k < 3) (hi : i < σ.length) (hl : rs.length ≤ 1000) (nD : H D = none)
    (q : ∀ H', Same H H' → H' D = some (.lst ((rs.map (col k)).map V.int)) → Qd H') : LcGoal (Itl K p) (gName i) tYes (tOp (rIxT K) (tVar i) (tC (.int (k : Int)))) [i] σ H D Qd := by
  refine lc_list (K := K) (a := p) (xs := xs) (fun j H' => Same H H' ∧ H' D = some (.lst (((rs.take j).map (col k)).map V.int))) ⟨same_new nD, upd_same⟩ (fun j H' _ ⟨s, _⟩ => same_seq s h.l) (fun j x H' hx ⟨s, e⟩ => ?_) (fun H' ⟨s, e⟩ => ?_)
  · obtain ⟨r, a, hr, rfl, ha⟩ := (h.same s).getV hx
    refine ⟨?_, .ref a, ?_, ?_⟩
    rotate_left 2
    · refine col_at (Q := fun y H4 => ∃ acc, H4 D = some (.lst acc) ∧ acc.length < sizeLine ∧ Same H (upd H4 D (.lst (acc ++ [y]))) ∧ upd H4 D (.lst (acc ++ [y])) D = some (.lst (((rs.take (j + 1)).map (col k)).map V.int))) hk ha ⟨_, e, szl ?_, same_mut s nD, ?_⟩
      · rw [List.length_map, List.length_map, List.length_take]
        omega
      · rw [upd_same, List.take_add_one, hr, List.map_append, List.map_append]
        rfl
    · show ((σ.set i none).set i (some (V.ref a))).set i none = σ.set i none
      rw [List.set_set, List.set_set]
    · show ((σ.set i none).set i (some (V.ref a)))[i]? = _
      rw [List.getElem?_set_self (by rw [List.length_set]; exact hi)]
  · have e2 : rs.take xs.length = rs := List.take_of_length_le (by rw [h.n]; exact Nat.le_refl _)
    rw [e2] at e
    exact q H' s e
end SS

/-! data of whole numbers: shaped, like itself; the greatest places -/
namespace SS
open PySem PySem.Spec PyProof.Rows L2 LamX

/-- numbers, texts of good signs, lists and tuples of such, so deep -/
def Lv : Nat → PyData → Prop
  | 0, d => (∃ i, d = .int i) ∨ (∃ b, d = .bool b)
  | n + 1, d => Lv n d ∨ ∃ ds, (d = .list ds ∨ d = .tuple ds) ∧ ∀ x ∈ ds, Lv n x
theorem lv_up {d : PyData} {n : Nat} (h : Lv n d) : Lv (n + 1) d := .inl h
theorem lv_int (n : Nat) (i : Int) : Lv n (.int i) := by
  induction n with
  | zero => exact .inl ⟨i, rfl⟩
  | succ n ih => exact .inl ih
theorem lv_list {n : Nat} {ds : List PyData} (h : ∀ x ∈ ds, Lv n x) : Lv (n + 1) (.list ds) := .inr ⟨ds, .inl rfl, h⟩
theorem lv_tup {n : Nat} {ds : List PyData} (h : ∀ x ∈ ds, Lv n x) : Lv (n + 1) (.tuple ds) := .inr ⟨ds, .inr rfl, h⟩
theorem lv_can : ∀ (n : Nat) (d : PyData), Lv n d → d.canLay0 = true ∧ d.depth ≤ n ∧ PyData.eqv d d = true
  | 0, _, .inl ⟨i, rfl⟩ => by simp [PyData.canLay0, PyData.depth, PyData.eqv]
  | 0, _, .inr ⟨i, rfl⟩ => by simp [PyData.canLay0, PyData.depth, PyData.eqv]
  | n + 1, d, .inl h => by
    obtain ⟨a, b, c⟩ := lv_can n d h
    exact ⟨a, by omega, c⟩
  | n + 1, d, .inr ⟨ds, hd, h⟩ => by
    have key : ∀ ds : List PyData, (∀ x ∈ ds, Lv n x) → PyData.canLayAll0 ds = true ∧ PyData.depthAll ds ≤ n ∧ PyData.eqvAll ds ds = true := by
      intro ds
      induction ds with
      | nil => intro _; simp [PyData.canLayAll0, PyData.depthAll, PyData.eqvAll]
      | cons x r ih =>
        intro h
        obtain ⟨a, b, c⟩ := lv_can n x (h x (List.mem_cons_self ..))
        obtain ⟨a2, b2, c2⟩ := ih fun y hy => h y (List.mem_cons_of_mem _ hy)
        refine ⟨by simp [PyData.canLayAll0, a, a2], ?_, by simp [PyData.eqvAll, c, c2]⟩
        simp only [PyData.depthAll]
        omega
    obtain ⟨a, b, c⟩ := key ds h
    rcases hd with rfl | rfl
    · exact ⟨by simp [PyData.canLay0, a], by simp only [PyData.depth]; omega, by simp [PyData.eqv, c]⟩
    · exact ⟨by simp [PyData.canLay0, a], by simp only [PyData.depth]; omega, by simp [PyData.eqv, c]⟩
theorem lv_shaped {n : Nat} {d : PyData} (h : Lv n d) (hn : n ≤ 64) : SeqAt.shaped d = true := by
  obtain ⟨a, b, _⟩ := lv_can n d h
  show (d.canLay0 && decide (d.depth ≤ 64)) = true
  rw [a, Bool.true_and]
  exact decide_eq_true (by omega)
theorem lv_refl {n : Nat} {d : PyData} (h : Lv n d) : PyData.eqv d d = true := (lv_can n d h).2.2
theorem lv_ints (ns : List Int) : Lv 1 (.list (ns.map PyData.int)) := lv_list (n := 0) fun x hx => by
  obtain ⟨i, _, rfl⟩ := List.mem_map.mp hx
  exact lv_int 0 i
theorem lv_row (r : Row) : Lv 1 (rowD r) := lv_tup (n := 0) fun x hx => by
  simp only [List.mem_cons, List.not_mem_nil, or_false] at hx
  rcases hx with rfl | rfl | rfl
  · exact lv_int 0 _
  · exact lv_int 0 _
  · exact lv_int 0 _
theorem lv_rows (rs : List Row) : Lv 2 (rowsD rs) := lv_list (n := 1) fun x hx => by
  obtain ⟨i, _, rfl⟩ := List.mem_map.mp hx
  exact lv_row i
theorem eqv_ints : ∀ ns ms : List Int, PyData.eqv (.list (ns.map PyData.int)) (.list (ms.map PyData.int)) = decide (ns = ms) := by
  have key : ∀ ns ms : List Int, PyData.eqvAll (ns.map PyData.int) (ms.map PyData.int) = decide (ns = ms) := by
    intro ns
    induction ns with
    | nil =>
      intro ms
      cases ms <;> simp [PyData.eqvAll]
    | cons n ns ih =>
      intro ms
      cases ms with
      | nil => simp [PyData.eqvAll]
      | cons m ms =>
        simp only [List.map_cons, PyData.eqvAll, PyData.eqv, ih ms]
        by_cases h : n = m <;> by_cases h' : ns = ms <;> simp [h, h']
  intro ns ms
  simp only [PyData.eqv]
  exact key ns ms
def natsI (l : List Nat) : List Int := l.map fun (i : Nat) => (i : Int)
theorem natsV_ints (l : List Nat) : natsV l = (natsI l).map V.int := by
  unfold natsV natsI
  rw [List.map_map]
  rfl
theorem natsI_nil {l : List Nat} : (natsI l = []) = (l = []) := by
  unfold natsI
  exact propext List.map_eq_nil_iff
theorem natsV_app (l m : List Nat) : natsV (l ++ m) = natsV l ++ natsV m := List.map_append
theorem natsV_len (l : List Nat) : (natsV l).length = l.length := List.length_map ..
theorem natsV_at {l : List Nat} {i : Nat} {x : V} (h : (natsV l)[i]? = some x) : ∃ j, l[i]? = some j ∧ x = .int (j : Int) := by
  unfold natsV at h
  rw [List.getElem?_map] at h
  cases e : l[i]? with
  | none => rw [e] at h; cases h
  | some j =>
    rw [e] at h
    cases h
    exact ⟨j, rfl, rfl⟩
/-- nats != [] -/
theorem ne_nil {K : PySem.W.Frag} {H : Hp} {a b : Addr} {l : List Nat} {Q : VK} (h1 : SqL K H a (natsV l)) (h2 : SqL K H b []) (q : Q (.bl (!decide (l = []))) H) : rNeD K (.ref a) (.ref b) H Q := by
  rw [natsV_ints] at h1
  refine ⟨_, _, .lst h1 (dpa_ints _), .lst h2 .nil, lv_shaped (lv_ints _) (by decide), by decide, ?_⟩
  have e := eqv_ints (natsI l) []
  rw [List.map_nil] at e
  rw [e, show decide (natsI l = []) = decide (l = []) from decide_eq_decide.mpr (by rw [natsI_nil])]
  exact q

/-! ### which are the greatest -/
variable {w : Str} {rs : List Row} {f : List Int}
theorem gStep_sub (b : List Nat) (i : Nat) : (gStep w rs f b i).Sublist (b ++ [i]) := by
  unfold gStep
  cases b with
  | nil => exact List.Sublist.refl _
  | cons x r =>
    dsimp only
    by_cases h1 : above (nxt w rs f x) (nxt w rs f i) = true
    · rw [if_pos h1]
      exact List.sublist_append_left _ _
    · rw [if_neg h1]
      by_cases h2 : above (nxt w rs f i) (nxt w rs f x) = true
      · rw [if_pos h2]
        exact List.sublist_append_right _ _
      · rw [if_neg h2]
        exact List.Sublist.refl _
theorem gFold_sub : ∀ (l b : List Nat), (l.foldl (gStep w rs f) b).Sublist (b ++ l)
  | [], b => by
    rw [List.append_nil]
    exact List.Sublist.refl _
  | i :: l, b => by
    rw [List.foldl_cons]
    refine (gFold_sub l _).trans ?_
    have h := (gStep_sub (w := w) (rs := rs) (f := f) b i).append_right l
    rw [List.append_assoc] at h
    exact h
theorem greatest_sub : (greatest w rs f).Sublist (opens rs f) := gFold_sub (opens rs f) []
theorem gStep_ne (b : List Nat) (i : Nat) : gStep w rs f b i ≠ [] := by
  unfold gStep
  cases b with
  | nil => simp
  | cons x r =>
    dsimp only
    by_cases h1 : above (nxt w rs f x) (nxt w rs f i) = true
    · rw [if_pos h1]; simp
    · rw [if_neg h1]
      by_cases h2 : above (nxt w rs f i) (nxt w rs f x) = true
      · rw [if_pos h2]; simp
      · rw [if_neg h2]; simp
theorem gFold_ne : ∀ (l b : List Nat), b ≠ [] → l.foldl (gStep w rs f) b ≠ []
  | [], b, h => h
  | i :: l, b, h => by
    rw [List.foldl_cons]
    exact gFold_ne l _ (gStep_ne b i)
theorem greatest_ne (h : opens rs f ≠ []) : greatest w rs f ≠ [] := by
  unfold greatest
  cases e : opens rs f with
  | nil => exact absurd e h
  | cons i l =>
    rw [List.foldl_cons]
    exact gFold_ne l _ (gStep_ne [] i)
theorem opens_mem {i : Nat} : i ∈ opens rs f ↔ i < rs.length ∧ f.getD i 0 < (rowAt rs i).2.2 := by
  unfold opens
  rw [List.mem_filter, List.mem_range, decide_eq_true_eq]
theorem opens_lt {i : Nat} (h : i ∈ opens rs f) : i < rs.length := (opens_mem.mp h).1
theorem opens_nodup : (opens rs f).Nodup := List.nodup_range.filter _
theorem opens_sorted : (opens rs f).Pairwise (· < ·) := List.pairwise_lt_range.filter _
theorem opens_len : (opens rs f).length ≤ rs.length := by
  have h := List.length_filter_le (fun i => decide (f.getD i 0 < (rowAt rs i).2.2)) (List.range rs.length)
  rw [List.length_range] at h
  exact h
theorem greatest_mem {i : Nat} (h : i ∈ greatest w rs f) : i ∈ opens rs f := greatest_sub.mem h
theorem greatest_len : (greatest w rs f).length ≤ rs.length := Nat.le_trans greatest_sub.length_le opens_len
theorem row_get {i : Nat} (h : i < rs.length) : rs[i]? = some (rowAt rs i) := by
  unfold rowAt
  rw [List.getD_eq_getElem?_getD, List.getElem?_eq_getElem h]
  rfl
theorem row_good (g : ∀ r ∈ rs, GoodRow r) {i : Nat} (h : i < rs.length) : GoodRow (rowAt rs i) := g _ (List.mem_of_getElem? (row_get h))
end SS

/-! the deal's turn: bounds and sums -/
namespace SS
open PySem PySem.Spec PyProof.Rows L2 LamX
variable {w : Str} {rs : List Row} {f : List Int}

theorem getD_set (l : List Int) (i j : Nat) (a : Int) (hi : i < l.length) : (l.set i a).getD j 0 = if i = j then a else l.getD j 0 := by
  rw [List.getD_eq_getElem?_getD, List.getElem?_set]
  by_cases e : i = j
  · rw [if_pos e, if_pos e, if_pos hi]
    rfl
  · rw [if_neg e, if_neg e, List.getD_eq_getElem?_getD]
theorem sum_set : ∀ (l : List Int) (i : Nat) (a : Int), i < l.length → (l.set i a).sum = l.sum - l.getD i 0 + a
  | [], i, a, h => by cases h
  | x :: l, 0, a, h => by
    show a + l.sum = x + l.sum - x + a
    omega
  | x :: l, i + 1, a, h => by
    show x + (l.set i a).sum = x + l.sum - l.getD i 0 + a
    rw [sum_set l i a (Nat.lt_of_succ_lt_succ h)]
    omega
theorem bump1_len (f : List Int) (i : Nat) : (bump1 f i).length = f.length := List.length_set ..
theorem bump_len : ∀ (ps : List Nat) (f : List Int), (bump f ps).length = f.length
  | [], f => rfl
  | i :: ps, f => by
    show (bump (bump1 f i) ps).length = _
    rw [bump_len ps, bump1_len]
theorem bump_app (f : List Int) (a b : List Nat) : bump f (a ++ b) = bump (bump f a) b := List.foldl_append
theorem bump_get : ∀ (ps : List Nat) (f : List Int), ps.Nodup → (∀ i ∈ ps, i < f.length) → ∀ j, (bump f ps).getD j 0 = f.getD j 0 + if j ∈ ps then 1 else 0
  | [], f, _, _, j => by
    show f.getD j 0 = _
    simp
  | i :: ps, f, hn, hl, j => by
    have hi := hl i (List.mem_cons_self ..)
    rw [List.nodup_cons] at hn
    show (bump (bump1 f i) ps).getD j 0 = _
    rw [bump_get ps (bump1 f i) hn.2 (fun k hk => by rw [bump1_len]; exact hl k (List.mem_cons_of_mem _ hk)) j]
    unfold bump1
    rw [getD_set _ _ _ _ hi]
    by_cases e : i = j
    · subst e
      rw [if_pos rfl, if_neg hn.1, if_pos (List.mem_cons_self ..)]
      omega
    · rw [if_neg e]
      by_cases m : j ∈ ps
      · rw [if_pos m, if_pos (List.mem_cons_of_mem _ m)]
      · rw [if_neg m, if_neg]
        intro h
        rcases List.mem_cons.mp h with h | h
        · exact e h.symm
        · exact m h
theorem bump_sum : ∀ (ps : List Nat) (f : List Int), (∀ i ∈ ps, i < f.length) → (bump f ps).sum = f.sum + ps.length
  | [], f, _ => by
    show f.sum = f.sum + ((0 : Nat) : Int)
    omega
  | i :: ps, f, hl => by
    have hi := hl i (List.mem_cons_self ..)
    show (bump (bump1 f i) ps).sum = _
    rw [bump_sum ps (bump1 f i) fun k hk => by rw [bump1_len]; exact hl k (List.mem_cons_of_mem _ hk)]
    unfold bump1
    rw [sum_set _ _ _ hi, List.length_cons]
    omega
theorem ixN_n {n j : Nat} (hj : j < n) : ixN n (j : Int) = some j := by
  unfold ixN
  rw [if_pos (Int.natCast_nonneg j), if_pos (Int.ofNat_lt.mpr hj)]
  rfl
theorem map_get {l : List Int} {i : Nat} (h : i < l.length) : (l.map V.int)[i]? = some (.int (l.getD i 0)) := by
  rw [List.getElem?_map, List.getD_eq_getElem?_getD, List.getElem?_eq_getElem h]
  rfl
theorem map_set_int (l : List Int) (i : Nat) (a : Int) : (l.map V.int).set i (.int a) = (l.set i a).map V.int := by
  rw [List.map_set]
theorem low_get (i : Nat) : (lows rs).getD i 0 = (rowAt rs i).2.1 := by
  unfold lows rowAt
  rw [List.getD_eq_getElem?_getD, List.getElem?_map, List.getD_eq_getElem?_getD]
  cases rs[i]? <;> rfl
theorem cap_get (i : Nat) : (caps rs).getD i 0 = (rowAt rs i).2.2 := by
  unfold caps rowAt
  rw [List.getD_eq_getElem?_getD, List.getElem?_map, List.getD_eq_getElem?_getD]
  cases rs[i]? <;> rfl
theorem lows_len : (lows rs).length = rs.length := List.length_map ..
theorem caps_len : (caps rs).length = rs.length := List.length_map ..
theorem list_ext {f g : List Int} (h : f.length = g.length) (k : ∀ i < f.length, f.getD i 0 = g.getD i 0) : f = g := by
  refine List.ext_getElem h fun i h1 h2 => ?_
  have := k i h1
  rw [List.getD_eq_getElem?_getD, List.getD_eq_getElem?_getD, List.getElem?_eq_getElem h1, List.getElem?_eq_getElem h2] at this
  exact this
theorem sum_le : ∀ (f g : List Int), f.length = g.length → (∀ i < f.length, f.getD i 0 ≤ g.getD i 0) → f.sum ≤ g.sum
  | [], [], _, _ => Int.le_refl _
  | [], _ :: _, h, _ => by cases h
  | _ :: _, [], h, _ => by cases h
  | a :: f, b :: g, h, k => by
    have h0 : a ≤ b := k 0 (Nat.zero_lt_succ _)
    have h1 := sum_le f g (Nat.succ.inj h) fun i hi => k (i + 1) (Nat.succ_lt_succ hi)
    show a + f.sum ≤ b + g.sum
    omega
theorem int_ixI {fs : List Int} {k : Int} (h0 : 0 ≤ k) (h1 : k < fs.length) : atI (fs.map V.int) k = some (.int (fs.getD k.toNat 0)) := by
  have e : ((k.toNat : Nat) : Int) = k := Int.toNat_of_nonneg h0
  rw [← e]
  have h := int_ix (fs := fs) (i := k.toNat) (by omega)
  rw [e] at h ⊢
  exact h
theorem getD_mem {fs : List Int} {j : Nat} (h : j < fs.length) : fs.getD j 0 ∈ fs := by
  rw [List.getD_eq_getElem?_getD, List.getElem?_eq_getElem h]
  exact List.getElem_mem h
theorem int_at {fs : List Int} {i : Nat} {v : V} (h : (fs.map V.int)[i]? = some v) : ∃ c, v = .int c ∧ fs[i]? = some c := by
  rw [List.getElem?_map] at h
  cases e : fs[i]? with
  | none => rw [e] at h; cases h
  | some c =>
    rw [e] at h
    cases h
    exact ⟨c, rfl, rfl⟩
/-- a list's change leaves tuples -/
theorem tup_mut {K : PySem.W.Frag} {H : Hp} {b a : Addr} {xs zs : List V} {ys : List V} (hb : H b = some (.lst xs)) (h : SqT K H a ys) : SqT K (upd H b (.lst zs)) a ys := by
  rcases h with (h | h) | h
  · refine .inl (.inl ?_)
    rw [upd_ne (fun e => by rw [e, hb] at h; cases h)]
    exact h
  · obtain ⟨o, h⟩ := h
    refine .inl (.inr ⟨o, ?_⟩)
    rw [upd_ne (fun e => by rw [e, hb] at h; cases h)]
    exact h
  · exact .inr h
/-- one of some numbers, by a number taken over their count -/
theorem pick {fs : List Int} {P : Int → Prop} {n : Int} (hn : 0 < fs.length) (h : ∀ x ∈ fs, P x) : ∃ z, P z ∧ atI (fs.map V.int) (n % fs.length) = some (.int z) := by
  have a0 := Int.emod_nonneg n (show (fs.length : Int) ≠ 0 by omega)
  have a1 := Int.emod_lt_of_pos n (show (0 : Int) < fs.length by omega)
  exact ⟨_, h _ (getD_mem (j := (n % fs.length).toNat) (by omega)), int_ixI a0 a1⟩
/-- the turn's state: so many seats each, so many left -/
structure DI (rs : List Row) (seats : Int) (f : List Int) (left : Int) : Prop where
  n : f.length = rs.length
  b : ∀ i < rs.length, (rowAt rs i).2.1 ≤ f.getD i 0 ∧ f.getD i 0 ≤ (rowAt rs i).2.2
  s : f.sum + left = seats
  p : 0 ≤ left
theorem di_start {seats : Int} (g : ∀ r ∈ rs, GoodRow r) (h : (lows rs).sum ≤ seats) : DI rs seats (lows rs) (seats - (lows rs).sum) := by
  refine ⟨lows_len, fun i hi => ?_, by omega, by omega⟩
  rw [low_get]
  obtain ⟨_, _, _, h1, _⟩ := row_good g hi
  exact ⟨Int.le_refl _, h1⟩
theorem di_open {seats left : Int} (D : DI rs seats f left) (hc : seats ≤ (caps rs).sum) (hl : 0 < left) : opens rs f ≠ [] := by
  intro e
  have all : ∀ i < f.length, (caps rs).getD i 0 ≤ f.getD i 0 := fun i hi => by
    rw [cap_get]
    have hi2 : i < rs.length := by rw [← D.n]; exact hi
    refine Int.not_lt.mp fun c => ?_
    have m : i ∈ opens rs f := opens_mem.mpr ⟨hi2, c⟩
    rw [e] at m
    cases m
  have h := sum_le (caps rs) f (by rw [caps_len, D.n]) fun i hi => all i (by rw [D.n, ← caps_len]; exact hi)
  have := D.s
  omega
theorem greatest_lt {D : f.length = rs.length} : ∀ i ∈ greatest w rs f, i < f.length := fun i hi => by
  rw [D]
  exact opens_lt (greatest_mem hi)
theorem greatest_nodup : (greatest w rs f).Nodup := greatest_sub.nodup opens_nodup
theorem di_step {seats left : Int} (D : DI rs seats f left) (hl : ((greatest w rs f).length : Int) ≤ left) : DI rs seats (bump f (greatest w rs f)) (left - (greatest w rs f).length) := by
  refine ⟨by rw [bump_len]; exact D.n, fun i hi => ?_, ?_, by omega⟩
  · rw [bump_get _ _ greatest_nodup (greatest_lt (D := D.n))]
    have b := D.b i hi
    by_cases m : i ∈ greatest w rs f
    · rw [if_pos m]
      have o := (opens_mem.mp (greatest_mem m)).2
      omega
    · rw [if_neg m]
      omega
  · rw [bump_sum _ _ (greatest_lt (D := D.n))]
    have := D.s
    omega
theorem di_200 {seats left : Int} (D : DI rs seats f left) (g : ∀ r ∈ rs, GoodRow r) : ∀ i < rs.length, 0 ≤ f.getD i 0 ∧ f.getD i 0 ≤ 200 := fun i hi => by
  have b := D.b i hi
  obtain ⟨_, _, h0, h1, h2⟩ := row_good g hi
  omega
end SS

/-! dicts by places; sorted lists -/
namespace SS
open PySem PySem.Spec PyProof.Rows L2 LamX

/-- a dict of places -/
def natD (l : List Nat) (ad : Nat → Addr) : List (Key × V) := l.map fun (k : Nat) => ((Sum.inl (k : Int) : Key), V.ref (ad k))
theorem natD_get (ad : Nat → Addr) : ∀ (l : List Nat) (j : Nat), valV (natD l ad) (Sum.inl (j : Int)) = if j ∈ l then some (.ref (ad j)) else none
  | [], j => by simp [natD, valV]
  | k :: l, j => by
    have ih := natD_get ad l j
    by_cases e : k = j
    · subst e
      rw [if_pos (List.mem_cons_self ..)]
      exact valV_pos rfl
    · have ne : ¬ ((Sum.inl (k : Int) : Key) = Sum.inl (j : Int)) := fun z => e (by injection z with z; omega)
      show valV ((Sum.inl (k : Int), V.ref (ad k)) :: natD l ad) _ = _
      rw [valV_neg ne, ih]
      by_cases m : j ∈ l
      · rw [if_pos m, if_pos (List.mem_cons_of_mem _ m)]
      · rw [if_neg m, if_neg]
        intro h
        rcases List.mem_cons.mp h with h | h
        · exact e h.symm
        · exact m h
theorem natD_put {ad : Nat → Addr} {l : List Nat} {j : Nat} {t : Addr} (h : j ∉ l) : putK (natD l ad) (Sum.inl (j : Int)) (.ref t) = natD (l ++ [j]) (fun k => if k = j then t else ad k) := by
  have e1 : (natD l ad).any (fun kv => decide (kv.1 = (Sum.inl (j : Int) : Key))) = false := by
    rw [valV_any, natD_get, if_neg h]
    rfl
  have e2 : natD l ad = natD l (fun k => if k = j then t else ad k) := by
    unfold natD
    refine List.map_congr_left fun k hk => ?_
    dsimp only
    rw [if_neg (fun (e : k = j) => h (by rw [← e]; exact hk))]
  unfold putK
  rw [e1, if_neg (by decide)]
  unfold natD at e2 ⊢
  rw [List.map_append, ← e2]
  simp
theorem natD_len (l : List Nat) (ad : Nat → Addr) : (natD l ad).length = l.length := List.length_map ..
theorem natD_at {l : List Nat} {ad : Nat → Addr} {i : Nat} {k : Key} {v : V} (h : (natD l ad)[i]? = some (k, v)) : ∃ j, l[i]? = some j ∧ k = Sum.inl (j : Int) ∧ v = .ref (ad j) := by
  unfold natD at h
  rw [List.getElem?_map] at h
  cases e : l[i]? with
  | none => rw [e] at h; cases h
  | some j =>
    rw [e] at h
    cases h
    exact ⟨j, rfl, rfl, rfl⟩
/-- sorted lists of the same numbers are alike -/
theorem sorted_eq : ∀ {a b : List Int}, a.Perm b → a.Pairwise (· ≤ ·) → b.Pairwise (· ≤ ·) → a = b
  | [], b, p, _, _ => (List.Perm.nil_eq p)
  | x :: a, [], p, _, _ => by have := p.length_eq; cases this
  | x :: a, y :: b, p, ha, hb => by
    rw [List.pairwise_cons] at ha hb
    have e : x = y := by
      have h1 : x ∈ y :: b := p.mem_iff.mp (List.mem_cons_self ..)
      have h2 : y ∈ x :: a := p.mem_iff.mpr (List.mem_cons_self ..)
      rcases List.mem_cons.mp h1 with h1 | h1
      · exact h1
      · rcases List.mem_cons.mp h2 with h2 | h2
        · exact h2.symm
        · exact Int.le_antisymm (ha.1 _ h2) (hb.1 _ h1)
    subst e
    rw [sorted_eq (List.Perm.cons_inv p) ha.2 hb.2]
theorem natsI_sorted {l : List Nat} (h : l.Pairwise (· < ·)) : (natsI l).Pairwise (· ≤ ·) := by
  unfold natsI
  rw [List.pairwise_map]
  exact h.imp fun {a b} h => by omega
theorem natsI_len (l : List Nat) : (natsI l).length = l.length := List.length_map ..
theorem inV_nat (l : List Nat) (j : Nat) : inV (.int (j : Int)) (natsV l) = decide (j ∈ l) := by
  induction l with
  | nil => rfl
  | cons k l ih =>
    show (eqV (.int (k : Int)) (.int (j : Int)) || inV (.int (j : Int)) (natsV l)) = _
    rw [ih]
    have e : eqV (.int (k : Int)) (.int (j : Int)) = decide (k = j) := by
      simp only [eqV]
      by_cases h : k = j
      · subst h; simp
      · have : ¬ (k : Int) = (j : Int) := by omega
        simp [h, this]
    rw [e]
    by_cases h : k = j
    · subst h; simp
    · have h2 : ¬ j = k := fun z => h z.symm
      simp [h, h2]
theorem flat_nats (l : List Nat) : (natsV l).all flatV = true := by
  unfold natsV
  rw [List.all_map, List.all_eq_true]
  intro x _
  rfl
/-- a claim told by its votes and its seat's number, against another -/
def rank (w : Str) (a b : Int × Int) : Int := (if decide (b.1 * dv w a.2 < a.1 * dv w b.2) = true then 1 else 0) - (if decide (a.1 * dv w b.2 < b.1 * dv w a.2) = true then 1 else 0)
/-- what is told of a good count: by claims alone -/
structure ToldOk (w : Str) (rs : List Row) (n : Int) (d : Dealt) : Prop where
  len : d.sure.length = rs.length
  sum : d.sure.sum + d.left = n
  tlen : d.tied.length ≤ rs.length
  srt : d.tied.Pairwise (· < ·)
  some_ : d.left ≠ 0 → 1 ≤ d.left ∧ d.left < d.tied.length
  none_ : d.left = 0 → d.tied = []
  bnd : ∀ i < rs.length, (rowAt rs i).2.1 ≤ d.sure.getD i 0 ∧ d.sure.getD i 0 ≤ (rowAt rs i).2.2
  opn : ∀ i ∈ d.tied, i ∈ opens rs d.sure
  alike : ∀ t r, d.tied = t :: r → ∀ k ∈ opens rs d.sure, rank w ((rowAt rs k).1, d.sure.getD k 0 + 1) ((rowAt rs t).1, d.sure.getD t 0 + 1) = (if k ∈ d.tied then 1 else 0) - 1
  over : ∀ k ∈ opens rs d.sure, ∀ i < rs.length, (rowAt rs i).2.1 < d.sure.getD i 0 → rank w ((rowAt rs i).1, d.sure.getD i 0) ((rowAt rs k).1, d.sure.getD k 0 + 1) = 1
theorem ways_at (n : Int) : ∃ wy, wy ∈ ways ∧ atI (ways.map V.str) (n % 5) = some (.str wy) := by
  have a0 := Int.emod_nonneg n (show (5 : Int) ≠ 0 by decide)
  have a1 := Int.emod_lt_of_pos n (show (0 : Int) < 5 by decide)
  have hj : (n % 5).toNat < ways.length := by
    show (n % 5).toNat < 5
    omega
  refine ⟨ways[(n % 5).toNat], List.getElem_mem hj, at_of (j := (n % 5).toNat) (by omega) ?_⟩
  rw [List.getElem?_map, List.getElem?_eq_getElem hj]
  rfl
theorem rowD_inj {a b : Row} (h : rowD a = rowD b) : a = b := by
  unfold rowD at h
  injection h with h
  injection h with h1 h
  injection h with h2 h
  injection h with h3 h
  injection h1 with h1
  injection h2 with h2
  injection h3 with h3
  exact Prod.ext h1 (Prod.ext h2 h3)
theorem rowsD_inj {a b : List Row} (h : rowsD a = rowsD b) : a = b := by
  unfold rowsD at h
  injection h with h
  exact (List.map_inj_right fun x y e => rowD_inj e).mp h
theorem areListsD_of {rs : List Row} (g : Good rs) : areListsD (rowsD rs) = true := areListsD_rows g
theorem int_ix0 {fs : List Int} {j : Nat} (h : j < fs.length) : atI (fs.map V.int) (0 + (j : Int)) = some (.int (fs.getD j 0)) := by
  rw [Int.zero_add]
  exact int_ix h
theorem inV_nat0 (l : List Nat) (j : Nat) : inV (.int (0 + (j : Int))) (natsV l) = decide (j ∈ l) := by
  rw [Int.zero_add]
  exact inV_nat l j
def has (k : Nat) (l : List Nat) : Int := if k ∈ l then 1 else 0
theorem has_01 (k : Nat) (l : List Nat) : 0 ≤ has k l ∧ has k l ≤ 1 := by
  unfold has
  split <;> omega
/-- int(k in l) -/
theorem int_in (l : List Nat) (k : Nat) : (if (if false = true then !inV (V.int (k : Int)) (natsV l) else inV (V.int (k : Int)) (natsV l)) = true then (1 : Int) else 0) = has k l := by
  rw [if_neg (show ¬ (false = true) by decide), inV_nat]
  unfold has
  by_cases h : k ∈ l
  · rw [if_pos h, if_pos (decide_eq_true h)]
  · rw [if_neg h, if_neg (by rw [decide_eq_false h]; decide)]
theorem int_in0 (l : List Nat) (k : Nat) : (if (if false = true then !inV (V.int (0 + (k : Int))) (natsV l) else inV (V.int (0 + (k : Int))) (natsV l)) = true then (1 : Int) else 0) = has k l := by
  rw [Int.zero_add]
  exact int_in l k
/-- what is told, as data -/
def toldD (s : List Int) (t : List Nat) (l : Int) : PyData := .tuple [.list (s.map PyData.int), .list ((natsI t).map PyData.int), .int l]
theorem lv_toldD (s : List Int) (t : List Nat) (l : Int) : Lv 2 (toldD s t l) := lv_tup (n := 1) fun x hx => by
  simp only [List.mem_cons, List.not_mem_nil, or_false] at hx
  rcases hx with rfl | rfl | rfl
  · exact lv_ints _
  · exact lv_ints _
  · exact lv_int 1 _
theorem dp_toldD {K : PySem.W.Frag} {H : Hp} {u s e : Addr} {a : List Int} {t : List Nat} {l : Int} (h1 : SqT K H u [.ref s, .ref e, .int l]) (h2 : SqL K H s (a.map V.int)) (h3 : SqL K H e (natsV t)) : Dp K H (.ref u) (toldD a t l) := by
  rw [natsV_ints] at h3
  exact .tup h1 (.cons (.lst h2 (dpa_ints _)) (.cons (.lst h3 (dpa_ints _)) (.cons (.int _) .nil)))
theorem dv_small {w : Str} (hw : w ∈ ways) {c : Int} (h1 : 1 ≤ c) (h2 : c ≤ 1000) (x : Int) : CMul x (dv w c) := by
  obtain ⟨d1, d2, _⟩ := dv_bound hw h1
  exact small_r (by omega)
theorem dz_str {K : PySem.W.Frag} {H : Hp} {v : V} {s : Str} (h : Dz K H v (.str s)) : v = .str s := by
  rcases h with h | ⟨h, _⟩
  · cases h
    rfl
  · cases h
theorem dz_int {K : PySem.W.Frag} {H : Hp} {v : V} {s : Int} (h : Dz K H v (.int s)) : v = .int s := by
  rcases h with h | ⟨h, _⟩
  · cases h
    rfl
  · cases h
theorem dz_rows {K : PySem.W.Frag} {H : Hp} {v : V} {rs : List Row} (h : Dz K H v (rowsD rs)) : ∃ p xs, v = .ref p ∧ Rws K H p xs rs := by
  rcases h with h | ⟨h, _⟩
  · exact dp_rows_ref h
  · cases h
theorem rowAt_of {rs : List Row} {i : Nat} {r : Row} (h : rs[i]? = some r) : rowAt rs i = r := by
  unfold rowAt
  rw [List.getD_eq_getElem?_getD, h]
  rfl
end SS

/-! the deal by claims -/
namespace SS
open PySem PySem.Spec PyProof.Rows L2 LamX

/-! ### claims in order -/
/-- a claim: votes, a divisor -/
def Cl (a : Int × Int) : Prop := 1 ≤ a.1 ∧ 0 ≤ a.2
/-- not above -/
def Le (a b : Int × Int) : Prop := a.1 * b.2 ≤ b.1 * a.2
def Lt (a b : Int × Int) : Prop := a.1 * b.2 < b.1 * a.2
theorem above_iff {a b : Int × Int} : above a b = true ↔ Lt b a := by
  unfold above Lt
  rw [decide_eq_true_eq]
theorem above_false {a b : Int × Int} : above a b = false ↔ Le a b := by
  unfold above Le
  rw [decide_eq_false_iff_not, Int.not_lt]
theorem not_lt {a b : Int × Int} : ¬ Lt a b ↔ Le b a := Int.not_lt
theorem not_le {a b : Int × Int} : ¬ Le a b ↔ Lt b a := Int.not_le
theorem Le.refl (a : Int × Int) : Le a a := Int.le_refl _
theorem Lt.le {a b : Int × Int} (h : Lt a b) : Le a b := Int.le_of_lt h
theorem Lt.irrefl {a : Int × Int} (h : Lt a a) : False := Int.lt_irrefl _ h
theorem le_total (a b : Int × Int) : Le a b ∨ Le b a := Int.le_total _ _
theorem mul3 (a b c : Int) : a * (b * c) = b * (a * c) := by rw [← Int.mul_assoc, Int.mul_comm a b, Int.mul_assoc]
theorem Le.trans {a b c : Int × Int} (ha : Cl a) (hb : Cl b) (hc : Cl c) (h1 : Le a b) (h2 : Le b c) : Le a c := by
  obtain ⟨a1, a2⟩ := a
  obtain ⟨b1, b2⟩ := b
  obtain ⟨c1, c2⟩ := c
  simp only [Le, Cl] at *
  have e1 : b1 * (a1 * c2) ≤ a1 * (c1 * b2) := by
    rw [mul3]
    exact Int.mul_le_mul_of_nonneg_left h2 (by omega)
  have e2 : a1 * (c1 * b2) ≤ b1 * (c1 * a2) := by
    rw [mul3 a1 c1 b2, mul3 b1 c1 a2]
    exact Int.mul_le_mul_of_nonneg_left h1 (by omega)
  exact Int.le_of_mul_le_mul_left (Int.le_trans e1 e2) (by omega)
theorem Lt.trans_le {a b c : Int × Int} (ha : Cl a) (hb : Cl b) (hc : Cl c) (h1 : Lt a b) (h2 : Le b c) : Lt a c := by
  rw [← not_le]
  intro h
  exact (not_le.mpr h1) (Le.trans hb hc ha h2 h)
theorem Le.trans_lt {a b c : Int × Int} (ha : Cl a) (hb : Cl b) (hc : Cl c) (h1 : Le a b) (h2 : Lt b c) : Lt a c := by
  rw [← not_le]
  intro h
  exact (not_le.mpr h2) (Le.trans hc ha hb h h1)
theorem Lt.trans {a b c : Int × Int} (ha : Cl a) (hb : Cl b) (hc : Cl c) (h1 : Lt a b) (h2 : Lt b c) : Lt a c := Lt.trans_le ha hb hc h1 h2.le
theorem dv_mono {w : Str} (hw : w ∈ ways) {j : Int} (h1 : 1 ≤ j) : ∀ n : Nat, dv w j < dv w (j + (n + 1 : Nat))
  | 0 => (dv_bound hw h1).2.2
  | n + 1 => by
    have a := dv_mono hw h1 n
    have b := (dv_bound hw (c := j + ((n + 1 : Nat) : Int)) (by omega)).2.2
    have e : j + ((n + 1 + 1 : Nat) : Int) = j + ((n + 1 : Nat) : Int) + 1 := by omega
    rw [e]
    omega
theorem dv_lt {w : Str} (hw : w ∈ ways) {j k : Int} (h1 : 1 ≤ j) (h2 : j < k) : dv w j < dv w k := by
  have h := dv_mono hw h1 (k - j - 1).toNat
  have e : j + (((k - j - 1).toNat + 1 : Nat) : Int) = k := by omega
  rw [e] at h
  exact h
theorem dv_le {w : Str} (hw : w ∈ ways) {j k : Int} (h1 : 1 ≤ j) (h2 : j ≤ k) : dv w j ≤ dv w k := by
  by_cases e : j = k
  · rw [e]
    exact Int.le_refl _
  · exact Int.le_of_lt (dv_lt hw h1 (by omega))
theorem dv_inj {w : Str} (hw : w ∈ ways) {j k : Int} (h1 : 1 ≤ j) (h2 : 1 ≤ k) (h : dv w j ≤ dv w k) : j ≤ k := by
  refine Int.not_lt.mp fun c => ?_
  have := dv_lt hw h2 c
  omega
theorem cl_cl {w : Str} (hw : w ∈ ways) {r : Row} (hr : 1 ≤ r.1) {k : Int} (h : 1 ≤ k) : Cl (cl w r k) := ⟨hr, (dv_bound hw h).1⟩
/-- a list's later seat has a lower claim -/
theorem cl_lt {w : Str} (hw : w ∈ ways) {r : Row} (hr : 1 ≤ r.1) {j k : Int} (h1 : 1 ≤ j) (h2 : j < k) : Lt (cl w r k) (cl w r j) := Int.mul_lt_mul_of_pos_left (dv_lt hw h1 h2) (by show 0 < r.1; omega)
theorem cl_le {w : Str} (hw : w ∈ ways) {r : Row} (hr : 1 ≤ r.1) {j k : Int} (h1 : 1 ≤ j) (h2 : j ≤ k) : Le (cl w r k) (cl w r j) := Int.mul_le_mul_of_nonneg_left (dv_le hw h1 h2) (by show 0 ≤ r.1; omega)

/-! ### the greatest of some -/
/-- r of s: alike ones, all others below -/
structure Grt (c : Nat → Int × Int) (s r : List Nat) : Prop where
  sub : ∀ x ∈ r, x ∈ s
  top : ∀ x ∈ r, ∀ y ∈ s, Le (c y) (c x)
  low : ∀ x ∈ r, ∀ y ∈ s, y ∉ r → Lt (c y) (c x)
variable {w : Str} {rs : List Row} {f : List Int}
theorem gStep_grt {s r : List Nat} {i : Nat} (hc : ∀ x ∈ s, Cl (nxt w rs f x)) (hi : Cl (nxt w rs f i)) (h : Grt (nxt w rs f) s r) (hr : r = [] → s = []) : Grt (nxt w rs f) (s ++ [i]) (gStep w rs f r i) := by
  have mm : ∀ {y : Nat}, y ∈ s ++ [i] → y ∈ s ∨ y = i := fun {y} hy => by
    rcases List.mem_append.mp hy with hy | hy
    · exact .inl hy
    · exact .inr (List.mem_singleton.mp hy)
  cases r with
  | nil =>
    rw [hr rfl]
    refine ⟨fun x hx => hx, fun x hx y hy => ?_, fun x hx y hy hn => absurd hy hn⟩
    rw [List.mem_singleton.mp hx]
    have hy2 : y ∈ [i] := hy
    rw [List.mem_singleton.mp hy2]
    exact Le.refl _
  | cons b r =>
    have hb : b ∈ b :: r := List.mem_cons_self ..
    have hbs := h.sub b hb
    have cb := hc b hbs
    show Grt _ _ (if above (nxt w rs f b) (nxt w rs f i) then b :: r else if above (nxt w rs f i) (nxt w rs f b) then [i] else (b :: r) ++ [i])
    by_cases h1 : above (nxt w rs f b) (nxt w rs f i) = true
    · rw [if_pos h1]
      have l1 := above_iff.mp h1
      have key : ∀ x ∈ b :: r, Lt (nxt w rs f i) (nxt w rs f x) := fun x hx => Lt.trans_le hi cb (hc x (h.sub x hx)) l1 (h.top x hx b hbs)
      refine ⟨fun x hx => List.mem_append_left _ (h.sub x hx), fun x hx y hy => ?_, fun x hx y hy hn => ?_⟩
      · rcases mm hy with hy | rfl
        · exact h.top x hx y hy
        · exact (key x hx).le
      · rcases mm hy with hy | rfl
        · exact h.low x hx y hy hn
        · exact key x hx
    · rw [if_neg h1]
      have l1 := above_false.mp (Bool.not_eq_true _ ▸ h1)
      by_cases h2 : above (nxt w rs f i) (nxt w rs f b) = true
      · rw [if_pos h2]
        have l2 := above_iff.mp h2
        refine ⟨fun x hx => by rw [List.mem_singleton.mp hx]; exact List.mem_append_right _ (List.mem_singleton.mpr rfl), fun x hx y hy => ?_, fun x hx y hy hn => ?_⟩
        · rw [List.mem_singleton.mp hx]
          rcases mm hy with hy | rfl
          · exact (Le.trans_lt (hc y hy) cb hi (h.top b hb y hy) l2).le
          · exact Le.refl _
        · rw [List.mem_singleton.mp hx]
          rcases mm hy with hy | rfl
          · exact Le.trans_lt (hc y hy) cb hi (h.top b hb y hy) l2
          · exact absurd (List.mem_singleton.mpr rfl) hn
      · rw [if_neg h2]
        have l2 := above_false.mp (Bool.not_eq_true _ ▸ h2)
        have mr : ∀ {x : Nat}, x ∈ (b :: r) ++ [i] → x ∈ b :: r ∨ x = i := fun {x} hx => by
          rcases List.mem_append.mp hx with hx | hx
          · exact .inl hx
          · exact .inr (List.mem_singleton.mp hx)
        refine ⟨fun x hx => ?_, fun x hx y hy => ?_, fun x hx y hy hn => ?_⟩
        · rcases mr hx with h1x | e1
          · exact List.mem_append_left _ (h.sub x h1x)
          · exact List.mem_append_right _ (List.mem_singleton.mpr e1)
        · rcases mr hx with h1x | e1
          · rcases mm hy with h1y | e2
            · exact h.top x h1x y h1y
            · rw [e2]
              exact Le.trans hi cb (hc x (h.sub x h1x)) l2 (h.top x h1x b hbs)
          · rw [e1]
            rcases mm hy with h1y | e2
            · exact Le.trans (hc y h1y) cb hi (h.top b hb y h1y) l1
            · rw [e2]
              exact Le.refl _
        · have hn2 : y ∉ b :: r := fun z => hn (List.mem_append_left _ z)
          rcases mm hy with h1y | e2
          · rcases mr hx with h1x | e1
            · exact h.low x h1x y h1y hn2
            · rw [e1]
              exact Lt.trans_le (hc y h1y) cb hi (h.low b hb y h1y hn2) l1
          · exact absurd (List.mem_append_right _ (List.mem_singleton.mpr e2)) hn
theorem gFold_grt : ∀ (l s r : List Nat), (∀ x ∈ s ++ l, Cl (nxt w rs f x)) → Grt (nxt w rs f) s r → (r = [] → s = []) → Grt (nxt w rs f) (s ++ l) (l.foldl (gStep w rs f) r)
  | [], s, r, _, h, _ => by
    rw [List.append_nil]
    exact h
  | i :: l, s, r, hc, h, hr => by
    have e : s ++ i :: l = (s ++ [i]) ++ l := by rw [List.append_assoc]; rfl
    rw [e] at hc ⊢
    rw [List.foldl_cons]
    exact gFold_grt l (s ++ [i]) _ hc (gStep_grt (fun x hx => hc x (List.mem_append_left _ (List.mem_append_left _ hx))) (hc i (List.mem_append_left _ (List.mem_append_right _ (List.mem_singleton.mpr rfl)))) h hr) (fun e => absurd e (gStep_ne r i))
/-- numbers that can be seats' -/
def Nn (rs : List Row) (f : List Int) : Prop := ∀ i < rs.length, 0 ≤ f.getD i 0
def Vt (rs : List Row) : Prop := ∀ i < rs.length, 1 ≤ (rowAt rs i).1
theorem vt_good (g : ∀ r ∈ rs, GoodRow r) : Vt rs := fun i hi => (row_good g hi).1
theorem nxt_cl (hw : w ∈ ways) (hv : Vt rs) (hf : Nn rs f) {i : Nat} (hi : i < rs.length) : Cl (nxt w rs f i) := cl_cl hw (hv i hi) (by have := hf i hi; omega)
theorem greatest_grt (hw : w ∈ ways) (hv : Vt rs) (hf : Nn rs f) : Grt (nxt w rs f) (opens rs f) (greatest w rs f) := by
  have h := gFold_grt (w := w) (rs := rs) (f := f) (opens rs f) [] [] (fun x hx => nxt_cl hw hv hf (opens_lt hx)) ⟨fun x hx => (by cases hx), fun x hx => (by cases hx), fun x hx => (by cases hx)⟩ (fun _ => rfl)
  exact h

/-! ### the dealing -/
/-- the claim of a list's last seat -/
def lst (w : Str) (rs : List Row) (f : List Int) (i : Nat) : Int × Int := cl w (rowAt rs i) (f.getD i 0)
/-- every seat beyond a floor has a claim above every next one -/
def Top (w : Str) (rs : List Row) (f : List Int) : Prop := ∀ i < rs.length, (rowAt rs i).2.1 < f.getD i 0 → ∀ k ∈ opens rs f, Lt (nxt w rs f k) (lst w rs f i)
/-- the places of the last seats: none at the start; else those of the least claims -/
structure LastOk (w : Str) (rs : List Row) (f : List Int) (last : List Nat) : Prop where
  none_ : last = [] → f = lows rs
  lt : ∀ i ∈ last, i < rs.length
  up : ∀ i ∈ last, (rowAt rs i).2.1 < f.getD i 0
  least : ∀ i ∈ last, ∀ j < rs.length, (rowAt rs j).2.1 < f.getD j 0 → Le (lst w rs f i) (lst w rs f j)
def Lo (rs : List Row) : Prop := ∀ i < rs.length, 0 ≤ (rowAt rs i).2.1
theorem lo_good (g : ∀ r ∈ rs, GoodRow r) : Lo rs := fun i hi => (row_good g hi).2.2.1
theorem top_start : Top w rs (lows rs) := fun i hi h => by
  rw [low_get] at h
  exact absurd h (Int.lt_irrefl _)
theorem last_start : LastOk w rs (lows rs) [] := ⟨fun _ => rfl, fun i h => (by cases h), fun i h => (by cases h), fun i h => (by cases h)⟩
theorem bump_greatest (hl : f.length = rs.length) (j : Nat) : (bump f (greatest w rs f)).getD j 0 = f.getD j 0 + if j ∈ greatest w rs f then 1 else 0 :=
  bump_get _ _ greatest_nodup (greatest_lt (D := hl)) j
theorem lst_bump (hl : f.length = rs.length) {i : Nat} (h : i ∈ greatest w rs f) : lst w rs (bump f (greatest w rs f)) i = nxt w rs f i := by
  unfold lst nxt
  rw [bump_greatest hl, if_pos h]
theorem lst_same (hl : f.length = rs.length) {i : Nat} (h : i ∉ greatest w rs f) : lst w rs (bump f (greatest w rs f)) i = lst w rs f i := by
  unfold lst
  rw [bump_greatest hl, if_neg h, Int.add_zero]
theorem nxt_same (hl : f.length = rs.length) {i : Nat} (h : i ∉ greatest w rs f) : nxt w rs (bump f (greatest w rs f)) i = nxt w rs f i := by
  unfold nxt
  rw [bump_greatest hl, if_neg h, Int.add_zero]
theorem nxt_bump (hl : f.length = rs.length) {i : Nat} (h : i ∈ greatest w rs f) : nxt w rs (bump f (greatest w rs f)) i = cl w (rowAt rs i) (f.getD i 0 + 2) := by
  unfold nxt
  rw [bump_greatest hl, if_pos h]
  congr 1
  omega
theorem open_bump (hl : f.length = rs.length) {i : Nat} (h : i ∈ opens rs (bump f (greatest w rs f))) : i ∈ opens rs f := by
  obtain ⟨h1, h2⟩ := opens_mem.mp h
  rw [bump_greatest hl] at h2
  refine opens_mem.mpr ⟨h1, ?_⟩
  by_cases m : i ∈ greatest w rs f
  · rw [if_pos m] at h2
    omega
  · rw [if_neg m] at h2
    omega
/-- every next claim behind the turn is below the greatest -/
theorem next_below (hw : w ∈ ways) (hv : Vt rs) (hf : Nn rs f) (hl : f.length = rs.length) {i k : Nat} (hi : i ∈ greatest w rs f) (hk : k ∈ opens rs (bump f (greatest w rs f))) : Lt (nxt w rs (bump f (greatest w rs f)) k) (nxt w rs f i) := by
  have G := greatest_grt (f := f) hw hv hf
  have ko := open_bump hl hk
  have kl := opens_lt ko
  have il := opens_lt (greatest_mem hi)
  by_cases m : k ∈ greatest w rs f
  · rw [nxt_bump hl m]
    have h0 := hf k kl
    exact Lt.trans_le (cl_cl hw (hv k kl) (by omega)) (nxt_cl hw hv hf kl) (nxt_cl hw hv hf il) (cl_lt hw (hv k kl) (j := f.getD k 0 + 1) (by omega) (by omega)) (G.top i hi k ko)
  · rw [nxt_same hl m]
    exact G.low i hi k ko m
theorem top_step (hw : w ∈ ways) (hv : Vt rs) (hf : Nn rs f) (hlo : Lo rs) (hl : f.length = rs.length) (T : Top w rs f) : Top w rs (bump f (greatest w rs f)) := by
  intro i hi h k hk
  have ko := open_bump hl hk
  have kl := opens_lt ko
  by_cases mi : i ∈ greatest w rs f
  · rw [lst_bump hl mi]
    exact next_below hw hv hf hl mi hk
  · rw [lst_same hl mi]
    rw [bump_greatest hl, if_neg mi, Int.add_zero] at h
    have t := T i hi h k ko
    by_cases mk : k ∈ greatest w rs f
    · have h0 := hf k kl
      have h1 := hlo i hi
      rw [nxt_bump hl mk]
      exact Lt.trans (cl_cl hw (hv k kl) (by omega)) (nxt_cl hw hv hf kl) (cl_cl hw (hv i hi) (by omega)) (cl_lt hw (hv k kl) (j := f.getD k 0 + 1) (by omega) (by omega)) t
    · rw [nxt_same hl mk]
      exact t
theorem last_step (hw : w ∈ ways) (hv : Vt rs) (hf : Nn rs f) (hlo : Lo rs) (hfl : ∀ i < rs.length, (rowAt rs i).2.1 ≤ f.getD i 0) (hl : f.length = rs.length) (T : Top w rs f) (hn : greatest w rs f ≠ []) : LastOk w rs (bump f (greatest w rs f)) (greatest w rs f) := by
  have G := greatest_grt (f := f) hw hv hf
  refine ⟨fun e => absurd e hn, fun i hi => opens_lt (greatest_mem hi), fun i hi => ?_, fun i hi j hj h => ?_⟩
  · rw [bump_greatest hl, if_pos hi]
    have := hfl i (opens_lt (greatest_mem hi))
    omega
  · rw [lst_bump hl hi]
    by_cases mj : j ∈ greatest w rs f
    · rw [lst_bump hl mj]
      exact G.top j mj i (greatest_mem hi)
    · rw [lst_same hl mj]
      rw [bump_greatest hl, if_neg mj, Int.add_zero] at h
      exact (T j hj h i (greatest_mem hi)).le
/-- what the dealing comes to -/
structure DealOk (w : Str) (rs : List Row) (n : Int) (d : Dealt) : Prop where
  di : DI rs n d.sure d.left
  top : Top w rs d.sure
  fin : (d.left = 0 ∧ d.tied = [] ∧ LastOk w rs d.sure d.last) ∨ (0 < d.left ∧ d.left < d.tied.length ∧ d.tied = greatest w rs d.sure ∧ d.last = d.tied)
theorem dealtM_ok (hw : w ∈ ways) (g : ∀ r ∈ rs, GoodRow r) {n : Int} (hc : n ≤ (caps rs).sum) : ∀ (m : Nat) (f : List Int) (left : Int) (last : List Nat), left.toNat < m → DI rs n f left → Top w rs f → LastOk w rs f last → DealOk w rs n (dealtM w rs m f left last)
  | 0, f, left, last, h, _, _, _ => by cases h
  | m + 1, f, left, last, h, D, T, L => by
    show DealOk w rs n (if 0 < left then _ else _)
    by_cases hp : 0 < left
    · rw [if_pos hp]
      by_cases h2 : left < (greatest w rs f).length
      · rw [if_pos h2]
        exact ⟨D, T, .inr ⟨hp, h2, rfl, rfl⟩⟩
      · rw [if_neg h2]
        have hne := greatest_ne (w := w) (di_open D hc hp)
        have hpos := List.length_pos_iff.mpr hne
        have hf : Nn rs f := fun i hi => (di_200 D g i hi).1
        exact dealtM_ok hw g hc m _ _ _ (by omega) (di_step D (Int.not_lt.mp h2)) (top_step hw (vt_good g) hf (lo_good g) D.n T) (last_step hw (vt_good g) hf (lo_good g) (fun i hi => (D.b i hi).1) D.n T hne)
    · rw [if_neg hp]
      have h0 : left = 0 := by have := D.p; omega
      subst h0
      exact ⟨D, T, .inl ⟨rfl, rfl, L⟩⟩
theorem deal_ok {n : Int} (hw : w ∈ ways) (g : ∀ r ∈ rs, GoodRow r) (h1 : (lows rs).sum ≤ n) (h2 : n ≤ (caps rs).sum) : DealOk w rs n (dealM w rs n) :=
  dealtM_ok hw g h2 _ _ _ _ (Nat.lt_succ_self _) (di_start g h1) top_start last_start
theorem rank_eq (a b : Int × Int) : rank w a b = (if above (a.1, dv w a.2) (b.1, dv w b.2) = true then 1 else 0) - (if above (b.1, dv w b.2) (a.1, dv w a.2) = true then 1 else 0) := rfl
theorem rank_lt {a b : Int × Int} (h : Lt (a.1, dv w a.2) (b.1, dv w b.2)) : rank w a b = -1 := by
  rw [rank_eq, if_pos (above_iff.mpr h), if_neg (by rw [above_false.mpr h.le]; decide)]
  rfl
theorem rank_gt {a b : Int × Int} (h : Lt (b.1, dv w b.2) (a.1, dv w a.2)) : rank w a b = 1 := by
  rw [rank_eq, if_pos (above_iff.mpr h), if_neg (by rw [above_false.mpr h.le]; decide)]
  rfl
theorem rank_same {a b : Int × Int} (h1 : Le (a.1, dv w a.2) (b.1, dv w b.2)) (h2 : Le (b.1, dv w b.2) (a.1, dv w a.2)) : rank w a b = 0 := by
  rw [rank_eq, if_neg (by rw [above_false.mpr h1]; decide), if_neg (by rw [above_false.mpr h2]; decide)]
  rfl
theorem deal_told {n : Int} (hw : w ∈ ways) (g : Good rs) (h1 : (lows rs).sum ≤ n) (h2 : n ≤ (caps rs).sum) : ToldOk w rs n (dealM w rs n) := by
  have O := deal_ok hw g.2.2 h1 h2
  generalize dealM w rs n = d at O
  obtain ⟨D, T, F⟩ := O
  have hf : Nn rs d.sure := fun i hi => (di_200 D g.2.2 i hi).1
  have G := greatest_grt (f := d.sure) hw (vt_good g.2.2) hf
  refine ⟨D.n, D.s, ?_, ?_, ?_, ?_, D.b, ?_, ?_, fun k hk i hi h => rank_gt (T i hi h k hk)⟩
  · rcases F with ⟨_, e, _⟩ | ⟨_, _, e, _⟩
    · rw [e]
      exact Nat.zero_le _
    · rw [e]
      exact greatest_len
  · rcases F with ⟨_, e, _⟩ | ⟨_, _, e, _⟩
    · rw [e]
      exact .nil
    · rw [e]
      exact opens_sorted.sublist greatest_sub
  · intro hne
    rcases F with ⟨e, _, _⟩ | ⟨p, q, _, _⟩
    · exact absurd e hne
    · exact ⟨by omega, q⟩
  · intro h0
    rcases F with ⟨_, e, _⟩ | ⟨p, _, _, _⟩
    · exact e
    · omega
  · intro i hi
    rcases F with ⟨_, e, _⟩ | ⟨_, _, e, _⟩
    · rw [e] at hi
      cases hi
    · rw [e] at hi
      exact greatest_mem hi
  · intro t r ht k hk
    rcases F with ⟨_, e, _⟩ | ⟨_, _, e, _⟩
    · rw [e] at ht
      cases ht
    · have mt : t ∈ greatest w rs d.sure := by
        rw [← e, ht]
        exact List.mem_cons_self ..
      rw [e]
      by_cases m : k ∈ greatest w rs d.sure
      · rw [if_pos m]
        exact rank_same (G.top t mt k hk) (G.top k m t (greatest_mem mt))
      · rw [if_neg m]
        exact rank_lt (G.low t mt k hk m)
end SS

/-! one seat more -/
namespace SS
open PySem PySem.Spec PyProof.Rows L2 LamX
variable {w : Str} {rs : List Row} {f : List Int}
/-- what one seat more makes of a deal -/
structure SuccOk (w : Str) (rs : List Row) (d e : Dealt) : Prop where
  on : 0 < d.left → d.left + 1 < d.tied.length → e.sure = d.sure ∧ e.tied = d.tied ∧ e.left = d.left + 1
  full : 0 < d.left → d.left + 1 = d.tied.length → e.sure = bump d.sure d.tied ∧ e.tied = [] ∧ e.left = 0
  one : d.left = 0 → 1 < (greatest w rs d.sure).length → e.sure = d.sure ∧ e.tied = greatest w rs d.sure ∧ e.left = 1
  new : d.left = 0 → (greatest w rs d.sure).length = 1 → e.sure = bump d.sure (greatest w rs d.sure) ∧ e.tied = [] ∧ e.left = 0
theorem dealtM_zero (m : Nat) (f : List Int) (last : List Nat) : dealtM w rs m f 0 last = ⟨f, [], 0, last⟩ := by
  cases m with
  | zero => rfl
  | succ m =>
    show (if (0 : Int) < 0 then _ else _) = _
    rw [if_neg (by decide)]
theorem dealtM_succ {n : Int} (hc : n ≤ (caps rs).sum) : ∀ (m m' : Nat) (f : List Int) (left : Int) (last last' : List Nat), DI rs n f left → left.toNat < m → (left + 1).toNat < m' →
    SuccOk w rs (dealtM w rs m f left last) (dealtM w rs m' f (left + 1) last')
  | 0, m', f, left, last, last', D, h1, h2 => by cases h1
  | m + 1, 0, f, left, last, last', D, h1, h2 => by cases h2
  | m + 1, m' + 1, f, left, last, last', D, h1, h2 => by
    have h0 := D.p
    have hp : (0 : Int) < left + 1 := by omega
    show SuccOk w rs (if 0 < left then _ else _) (if 0 < left + 1 then _ else _)
    rw [if_pos hp]
    by_cases h : 0 < left
    · rw [if_pos h]
      have hG := List.length_pos_iff.mpr (greatest_ne (w := w) (di_open D hc h))
      by_cases h5 : left < (greatest w rs f).length
      · rw [if_pos h5]
        by_cases h6 : left + 1 < (greatest w rs f).length
        · rw [if_pos h6]
          exact ⟨fun _ _ => ⟨rfl, rfl, rfl⟩, fun _ z => absurd z (Int.ne_of_lt h6), fun z => absurd z (by show ¬ left = 0; omega), fun z => absurd z (by show ¬ left = 0; omega)⟩
        · rw [if_neg h6]
          have e : left + 1 - ((greatest w rs f).length : Int) = 0 := by omega
          rw [e, dealtM_zero]
          exact ⟨fun _ z => absurd z h6, fun _ _ => ⟨rfl, rfl, rfl⟩, fun z => absurd z (by show ¬ left = 0; omega), fun z => absurd z (by show ¬ left = 0; omega)⟩
      · rw [if_neg h5, if_neg (by omega)]
        have e : left + 1 - ((greatest w rs f).length : Int) = left - ((greatest w rs f).length : Int) + 1 := by omega
        rw [e]
        exact dealtM_succ hc m m' _ _ _ _ (di_step D (Int.not_lt.mp h5)) (by omega) (by omega)
    · rw [if_neg h]
      have e0 : left = 0 := by omega
      subst e0
      by_cases h6 : (0 : Int) + 1 < (greatest w rs f).length
      · rw [if_pos h6]
        exact ⟨fun z => absurd z (Int.lt_irrefl 0), fun z => absurd z (Int.lt_irrefl 0), fun _ _ => ⟨rfl, rfl, rfl⟩, fun _ z => absurd z (by show ¬ (greatest w rs f).length = 1; omega)⟩
      · rw [if_neg h6]
        refine ⟨fun z => absurd z (Int.lt_irrefl 0), fun z => absurd z (Int.lt_irrefl 0), fun _ z => absurd z (by show ¬ 1 < (greatest w rs f).length; omega), fun _ z => ?_⟩
        have z2 : (greatest w rs f).length = 1 := z
        have e : (0 : Int) + 1 - ((greatest w rs f).length : Int) = 0 := by omega
        rw [e, dealtM_zero]
        exact ⟨rfl, rfl, rfl⟩
/-- the deals of a count and of one more -/
theorem deal_succ {n : Int} (g : ∀ r ∈ rs, GoodRow r) (h1 : (lows rs).sum ≤ n) (h2 : n ≤ (caps rs).sum) : SuccOk w rs (dealM w rs n) (dealM w rs (n + 1)) := by
  unfold dealM
  have e : n + 1 - (lows rs).sum = (n - (lows rs).sum) + 1 := by omega
  rw [e]
  exact dealtM_succ h2 _ _ _ _ _ _ (di_start g h1) (Nat.lt_succ_self _) (by omega)
/-- nobody loses a seat -/
theorem succ_up {n : Int} (hw : w ∈ ways) (g : ∀ r ∈ rs, GoodRow r) (h1 : (lows rs).sum ≤ n) (h2 : n + 1 ≤ (caps rs).sum) (k : Nat) :
    (dealM w rs n).sure.getD k 0 ≤ (dealM w rs (n + 1)).sure.getD k 0 ∧ (dealM w rs n).sure.getD k 0 + has k (dealM w rs n).tied ≤ (dealM w rs (n + 1)).sure.getD k 0 + has k (dealM w rs (n + 1)).tied := by
  have S := deal_succ (w := w) g h1 (by omega : n ≤ (caps rs).sum)
  have O := deal_ok hw g h1 (by omega : n ≤ (caps rs).sum)
  generalize dealM w rs n = d at *
  generalize dealM w rs (n + 1) = e at *
  have bg := fun k => bump_greatest (w := w) (f := d.sure) (rs := rs) O.di.n k
  rcases O.fin with ⟨l0, t0, _⟩ | ⟨lp, lt, tg, _⟩
  · have hne : 0 < (greatest w rs d.sure).length := by
      refine List.length_pos_iff.mpr (greatest_ne ?_)
      refine di_open (seats := n + 1) (left := 1) ⟨O.di.n, O.di.b, ?_, by decide⟩ h2 (by decide)
      have := O.di.s
      omega
    have e0 : has k d.tied = 0 := by
      rw [t0]
      rfl
    rw [e0]
    by_cases h : 1 < (greatest w rs d.sure).length
    · obtain ⟨s1, s2, _⟩ := S.one l0 h
      have := has_01 k e.tied
      rw [s1]
      omega
    · obtain ⟨s1, s2, _⟩ := S.new l0 (by omega)
      have := has_01 k e.tied
      rw [s1, bg]
      split <;> omega
  · by_cases h : d.left + 1 < d.tied.length
    · obtain ⟨s1, s2, _⟩ := S.on lp h
      rw [s1, s2]
      exact ⟨Int.le_refl _, Int.le_refl _⟩
    · obtain ⟨s1, s2, _⟩ := S.full lp (by omega)
      rw [s1, s2, tg, bg]
      unfold has
      rw [if_neg (by simp : k ∉ ([] : List Nat))]
      split <;> omega
end SS

/-! pairs on the heap; parts of lists; lowest terms; prices -/
namespace SS
open PySem PySem.Spec PyProof.Rows L2 LamX

abbrev Pr := Int × Int
def prD (r : Pr) : PyData := .tuple [.int r.1, .int r.2]
/-- the pairs at p -/
structure Prs (K : PySem.W.Frag) (H : Hp) (p : Addr) (xs : List V) (cs : List Pr) : Prop where
  l : SqL K H p xs
  n : xs.length = cs.length
  at_ : ∀ (i : Nat) (x : V) (c : Pr), xs[i]? = some x → cs[i]? = some c → ∃ a, x = .ref a ∧ SqT K H a [.int c.1, .int c.2]
theorem Prs.ext {K : PySem.W.Frag} {H H' : Hp} {p : Addr} {xs : List V} {cs : List Pr} (h : Prs K H p xs cs) (e : ExtN H H') : Prs K H' p xs cs :=
  ⟨ext_seq e h.l, h.n, fun i x r h1 h2 => by
    obtain ⟨a, h3, h4⟩ := h.at_ i x r h1 h2
    exact ⟨a, h3, ext_tup e h4⟩⟩
theorem Prs.same {K : PySem.W.Frag} {H H' : Hp} {p : Addr} {xs : List V} {cs : List Pr} (h : Prs K H p xs cs) (e : Same H H') : Prs K H' p xs cs := h.ext (ext_of e)
theorem Prs.get {K : PySem.W.Frag} {H : Hp} {p : Addr} {xs : List V} {cs : List Pr} (h : Prs K H p xs cs) {i : Nat} {c : Pr} (e : cs[i]? = some c) : ∃ a, xs[i]? = some (.ref a) ∧ SqT K H a [.int c.1, .int c.2] := by
  have hi : i < xs.length := by
    rw [h.n]
    exact (List.getElem?_eq_some_iff.mp e).1
  have ex : xs[i]? = some xs[i] := List.getElem?_eq_getElem hi
  obtain ⟨a, h1, h2⟩ := h.at_ i _ c ex e
  exact ⟨a, by rw [ex, h1], h2⟩
theorem Prs.getV {K : PySem.W.Frag} {H : Hp} {p : Addr} {xs : List V} {cs : List Pr} (h : Prs K H p xs cs) {i : Nat} {x : V} (e : xs[i]? = some x) : ∃ c a, cs[i]? = some c ∧ x = .ref a ∧ SqT K H a [.int c.1, .int c.2] := by
  have hi : i < cs.length := by
    rw [← h.n]
    exact (List.getElem?_eq_some_iff.mp e).1
  have er : cs[i]? = some cs[i] := List.getElem?_eq_getElem hi
  obtain ⟨a, h1, h2⟩ := h.at_ i x _ e er
  exact ⟨_, a, er, h1, h2⟩
theorem prs_nil {K : PySem.W.Frag} {H : Hp} {p : Addr} (h : H p = some (.lst [])) : Prs K H p [] [] := ⟨sqL h, rfl, fun i x c h1 _ => by cases h1⟩
/-- one more pair, by a change of the list -/
theorem prs_snoc {K : PySem.W.Frag} {H : Hp} {p : Addr} {xs : List V} {cs : List Pr} {t : Addr} {c : Pr} (h : Prs K H p xs cs) (hp : H p = some (.lst xs)) (ht : SqT K H t [.int c.1, .int c.2]) : Prs K (upd H p (.lst (xs ++ [.ref t]))) p (xs ++ [.ref t]) (cs ++ [c]) := by
  refine ⟨sqL upd_same, by rw [List.length_append, List.length_append, h.n]; rfl, fun i x s h1 h2 => ?_⟩
  by_cases hi : i < xs.length
  · rw [List.getElem?_append_left hi] at h1
    rw [List.getElem?_append_left (by rw [← h.n]; exact hi)] at h2
    obtain ⟨a, h3, h4⟩ := h.at_ i x s h1 h2
    exact ⟨a, h3, tup_mut hp h4⟩
  · rw [List.getElem?_append_right (Nat.not_lt.mp hi)] at h1
    rw [List.getElem?_append_right (by rw [← h.n]; exact Nat.not_lt.mp hi), ← h.n] at h2
    cases hj : i - xs.length with
    | zero =>
      rw [hj] at h1 h2
      cases h1
      cases h2
      exact ⟨t, rfl, tup_mut hp ht⟩
    | succ j =>
      rw [hj] at h1
      cases h1
theorem dpa_prs {K : PySem.W.Frag} {H : Hp} : ∀ {xs : List V} {cs : List Pr}, xs.length = cs.length → (∀ (i : Nat) (x : V) (c : Pr), xs[i]? = some x → cs[i]? = some c → ∃ a, x = .ref a ∧ SqT K H a [.int c.1, .int c.2]) → DpAll K H xs (cs.map prD)
  | [], [], _, _ => .nil
  | [], _ :: _, h, _ => by cases h
  | _ :: _, [], h, _ => by cases h
  | x :: xs, c :: cs, h, k => by
    obtain ⟨a, rfl, h2⟩ := k 0 x c rfl rfl
    exact .cons (.tup h2 (.cons (.int _) (.cons (.int _) .nil))) (dpa_prs (Nat.succ.inj h) fun i y s h1 h2 => k (i + 1) y s (by simpa using h1) (by simpa using h2))
theorem Prs.dp {K : PySem.W.Frag} {H : Hp} {p : Addr} {xs : List V} {cs : List Pr} (h : Prs K H p xs cs) : Dp K H (.ref p) (.list (cs.map prD)) := .lst h.l (dpa_prs h.n h.at_)
theorem lv_pr (c : Pr) : Lv 1 (prD c) := lv_tup (n := 0) fun x hx => by
  simp only [List.mem_cons, List.not_mem_nil, or_false] at hx
  rcases hx with rfl | rfl
  · exact lv_int 0 _
  · exact lv_int 0 _
theorem lv_prs (cs : List Pr) : Lv 2 (.list (cs.map prD)) := lv_list (n := 1) fun x hx => by
  obtain ⟨i, _, rfl⟩ := List.mem_map.mp hx
  exact lv_pr i
/-- l[:k] -/
theorem cut_take {xs : List V} {k : Int} (h0 : 0 ≤ k) : cutV xs none (some k) = xs.take k.toNat := by
  have e : ((k.toNat : Nat) : Int) = k := Int.toNat_of_nonneg h0
  unfold cutV
  rw [← e, HT.sIx_nat, HT.sIx_none, Int.toNat_natCast]
  rw [List.drop_zero, Nat.sub_zero]
  by_cases h : k.toNat ≤ xs.length
  · rw [Nat.min_eq_left h]
  · rw [Nat.min_eq_right (by omega), List.take_length, List.take_of_length_le (by omega)]
theorem natsV_take (l : List Nat) (n : Nat) : (natsV l).take n = natsV (l.take n) := by
  unfold natsV
  rw [List.map_take]

/-! ### lowest terms -/
def lowestN (a b : Nat) : Pr := (((a / Nat.gcd a b : Nat) : Int), ((b / Nat.gcd a b : Nat) : Int))
def lowest (p : Pr) : Pr := lowestN p.1.toNat p.2.toNat
theorem gcd_turn (x y : Nat) : Nat.gcd y (x % y) = Nat.gcd x y := by
  rw [Nat.gcd_comm x y, Nat.gcd_rec y x, Nat.gcd_comm]
theorem lowest_gcd {a b : Nat} (h : 0 < a) : Nat.gcd (a / Nat.gcd a b) (b / Nat.gcd a b) = 1 := Nat.gcd_div_gcd_div_gcd_of_pos_left h
/-- alike in lowest terms -/
theorem lowest_mul {p : Pr} (h : Cl p) : ∃ g : Int, 1 ≤ g ∧ (lowest p).1 * g = p.1 ∧ (lowest p).2 * g = p.2 ∧ 1 ≤ (lowest p).1 ∧ 0 ≤ (lowest p).2 ∧ (lowest p).1 ≤ p.1 ∧ (lowest p).2 ≤ p.2 := by
  obtain ⟨a, b⟩ := p
  obtain ⟨h1, h2⟩ := h
  have ea : ((a.toNat : Nat) : Int) = a := Int.toNat_of_nonneg (by show 0 ≤ a; have : 1 ≤ a := h1; omega)
  have eb : ((b.toNat : Nat) : Int) = b := Int.toNat_of_nonneg h2
  have ha : 0 < a.toNat := by have : 1 ≤ a := h1; omega
  have g0 := Nat.gcd_pos_of_pos_left b.toNat ha
  have d1 := Nat.div_mul_cancel (Nat.gcd_dvd_left a.toNat b.toNat)
  have d2 := Nat.div_mul_cancel (Nat.gcd_dvd_right a.toNat b.toNat)
  have l1 := Nat.div_le_self a.toNat (Nat.gcd a.toNat b.toNat)
  have l2 := Nat.div_le_self b.toNat (Nat.gcd a.toNat b.toNat)
  have p1 : 0 < a.toNat / Nat.gcd a.toNat b.toNat := Nat.div_pos (Nat.le_of_dvd ha (Nat.gcd_dvd_left _ _)) g0
  refine ⟨((Nat.gcd a.toNat b.toNat : Nat) : Int), by omega, ?_, ?_, ?_, ?_, ?_, ?_⟩
  · show ((a.toNat / Nat.gcd a.toNat b.toNat : Nat) : Int) * _ = a
    rw [← Int.natCast_mul, d1, ea]
  · show ((b.toNat / Nat.gcd a.toNat b.toNat : Nat) : Int) * _ = b
    rw [← Int.natCast_mul, d2, eb]
  · show 1 ≤ ((a.toNat / Nat.gcd a.toNat b.toNat : Nat) : Int)
    omega
  · exact Int.natCast_nonneg _
  · show ((a.toNat / Nat.gcd a.toNat b.toNat : Nat) : Int) ≤ a
    omega
  · show ((b.toNat / Nat.gcd a.toNat b.toNat : Nat) : Int) ≤ b
    omega
/-- the price of a deal: by the claim of the last seat -/
def priceD (w : Str) (rs : List Row) (d : Dealt) : Option Pr := match d.last with
  | [] => none
  | i :: _ => some (lowest (cl w (rowAt rs i) (d.sure.getD i 0 + if 0 < d.left then 1 else 0)))
end SS

/-! prices: alike to the least claim dealt -/
namespace SS
open PySem PySem.Spec PyProof.Rows L2 LamX
variable {w : Str} {rs : List Row} {f : List Int}
theorem atI_nat0 {xs : List V} {j : Nat} {v : V} (h : xs[j]? = some v) : atI xs (0 + (j : Int)) = some v := by
  rw [Int.zero_add]
  exact atI_nat h
/-- a right deal: what is sure and one seat more for the first of the tied -/
def goodN (d : Dealt) (k : Nat) : Int := d.sure.getD k 0 + has k (d.tied.take d.left.toNat)
def goodL (d : Dealt) : List Int := (List.range d.sure.length).map (goodN d)
theorem goodL_len (d : Dealt) : (goodL d).length = d.sure.length := by
  unfold goodL
  rw [List.length_map, List.length_range]
theorem goodL_get {d : Dealt} {k : Nat} (h : k < d.sure.length) : (goodL d).getD k 0 = goodN d k := by
  unfold goodL
  rw [List.getD_eq_getElem?_getD, List.getElem?_map, List.getElem?_range h]
  rfl
theorem eqv_nil (ds : List PyData) : PyData.eqv (.list ds) (.list []) = decide (ds = []) := by
  cases ds <;> simp [PyData.eqv, PyData.eqvAll]
/-- where the last seats went there is a claim alike to the price, and no claim below -/
theorem price_least {n : Int} (hw : w ∈ ways) (g : ∀ r ∈ rs, GoodRow r) {d : Dealt} (O : DealOk w rs n d) {i : Nat} {r : List Nat} (hl : d.last = i :: r) :
    (i < rs.length ∧ (rowAt rs i).2.1 < goodN d i ∧ cl w (rowAt rs i) (goodN d i) = cl w (rowAt rs i) (d.sure.getD i 0 + if 0 < d.left then 1 else 0)) ∧
    ∀ k < rs.length, (rowAt rs k).2.1 < goodN d k → Le (cl w (rowAt rs i) (d.sure.getD i 0 + if 0 < d.left then 1 else 0)) (cl w (rowAt rs k) (goodN d k)) := by
  have mi : i ∈ d.last := by rw [hl]; exact List.mem_cons_self ..
  have hf : Nn rs d.sure := fun i hi => (di_200 O.di g i hi).1
  rcases O.fin with ⟨l0, t0, L⟩ | ⟨lp, lt, tg, tl⟩
  · have gd : ∀ k, goodN d k = d.sure.getD k 0 := fun k => by
      unfold goodN has
      rw [t0, List.take_nil, if_neg (by simp), Int.add_zero]
    have e0 : ¬ 0 < d.left := by omega
    rw [if_neg e0, Int.add_zero, gd]
    refine ⟨⟨L.lt i mi, L.up i mi, rfl⟩, fun k hk h => ?_⟩
    rw [gd] at h ⊢
    exact L.least i mi k hk h
  · rw [if_pos lp]
    have G := greatest_grt (f := d.sure) hw (vt_good g) hf
    have mg : i ∈ greatest w rs d.sure := by rw [← tg, ← tl]; exact mi
    have mo := greatest_mem mg
    have il := opens_lt mo
    have mt : i ∈ d.tied.take d.left.toNat := by
      rw [← tl, hl]
      obtain ⟨m, hm⟩ : ∃ m, d.left.toNat = m + 1 := ⟨d.left.toNat - 1, by omega⟩
      rw [hm, List.take_succ_cons]
      exact List.mem_cons_self ..
    have gi : goodN d i = d.sure.getD i 0 + 1 := by
      unfold goodN has
      rw [if_pos mt]
    have bi := O.di.b i il
    refine ⟨⟨il, by omega, by rw [gi]⟩, fun k hk h => ?_⟩
    by_cases mk : k ∈ d.tied.take d.left.toNat
    · have gk : goodN d k = d.sure.getD k 0 + 1 := by
        unfold goodN has
        rw [if_pos mk]
      rw [gk]
      have mkg : k ∈ greatest w rs d.sure := by rw [← tg]; exact List.mem_of_mem_take mk
      exact G.top k mkg i mo
    · have gk : goodN d k = d.sure.getD k 0 := by
        unfold goodN has
        rw [if_neg mk, Int.add_zero]
      rw [gk] at h ⊢
      exact (O.top k hk h i mo).le
theorem price_none {n : Int} {d : Dealt} (O : DealOk w rs n d) (hl : d.last = []) : d.sure = lows rs ∧ d.left = 0 ∧ d.tied = [] ∧ n = (lows rs).sum := by
  rcases O.fin with ⟨l0, t0, L⟩ | ⟨lp, lt, tg, tl⟩
  · have e := L.none_ hl
    refine ⟨e, l0, t0, ?_⟩
    have := O.di.s
    rw [e, l0] at this
    omega
  · rw [← tl, hl] at lt
    exact absurd lt (by show ¬ d.left < 0; omega)
theorem priceD_some {d : Dealt} {c : Pr} (h : priceD w rs d = some c) : ∃ i r, d.last = i :: r ∧ c = lowest (cl w (rowAt rs i) (d.sure.getD i 0 + if 0 < d.left then 1 else 0)) := by
  unfold priceD at h
  cases e : d.last with
  | nil =>
    rw [e] at h
    cases h
  | cons i r =>
    rw [e] at h
    cases h
    exact ⟨i, r, rfl, rfl⟩
theorem priceD_none {d : Dealt} (h : priceD w rs d = none) : d.last = [] := by
  unfold priceD at h
  cases e : d.last with
  | nil => rfl
  | cons i r =>
    rw [e] at h
    cases h
theorem rank_neg {a b : Int × Int} : rank w a b < 0 ↔ Lt (a.1, dv w a.2) (b.1, dv w b.2) := by
  constructor
  · intro h
    refine not_le.mp fun c => ?_
    by_cases e : Lt (b.1, dv w b.2) (a.1, dv w a.2)
    · rw [rank_gt e] at h
      exact absurd h (by decide)
    · rw [rank_same (not_lt.mp e) c] at h
      exact absurd h (by decide)
  · intro h
    rw [rank_lt h]
    decide
/-- alike ones, one of them in lowest terms -/
theorem price_alike {p c : Pr} (hp : Cl p) (hc : Cl c) (h1 : Le p c) (h2 : Le c p) : (lowest p).1 * c.2 = c.1 * (lowest p).2 ∧ ((lowest p).2 = 0 ↔ c.2 = 0) := by
  obtain ⟨g, g1, e1, e2, l1, l2, _, _⟩ := lowest_mul hp
  obtain ⟨c1, c2⟩ := hc
  have e : p.1 * c.2 = c.1 * p.2 := Int.le_antisymm h1 h2
  rw [← e1, ← e2] at e
  have e3 : g * ((lowest p).1 * c.2) = g * (c.1 * (lowest p).2) := by
    rw [← Int.mul_assoc, Int.mul_comm g, e, mul3 g, Int.mul_comm g]
  have e4 : (lowest p).1 * c.2 = c.1 * (lowest p).2 := Int.eq_of_mul_eq_mul_left (by omega) e3
  refine ⟨e4, fun z => ?_, fun z => ?_⟩
  · rw [z, Int.mul_zero] at e4
    rcases Int.mul_eq_zero.mp e4 with h | h
    · omega
    · exact h
  · rw [z, Int.mul_zero] at e4
    rcases Int.mul_eq_zero.mp e4.symm with h | h
    · omega
    · exact h
end SS

/-! seats by a price -/
namespace SS
open PySem PySem.Spec PyProof.Rows L2 LamX
variable {w : Str} {rs : List Row} {f : List Int}
def fewM (w : Str) (r : Row) (c : Pr) : Nat → Int → Int
  | 0, few => few
  | n + 1, few => if above (cl w r (few + 1)) c = true then fewM w r c n (few + 1) else few
def few (w : Str) (r : Row) (c : Pr) : Int := fewM w r c (r.2.2 - r.2.1).toNat r.2.1
def many (w : Str) (r : Row) (c : Pr) : Int := if few w r c < r.2.2 then (if above c (cl w r (few w r c + 1)) = true then few w r c else few w r c + 1) else few w r c
def rnd (w : Str) (c : Pr) (r : Row) : Pr := (few w r c, many w r c)
theorem fewM_spec {r : Row} {c : Pr} (hw : w ∈ ways) (hr : 1 ≤ r.1) (hc : Cl c) : ∀ (n : Nat) (x : Int), 0 ≤ x → x ≤ fewM w r c n x ∧ fewM w r c n x ≤ x + n ∧ (x < fewM w r c n x → Lt c (cl w r (fewM w r c n x))) ∧ (fewM w r c n x < x + n → Le (cl w r (fewM w r c n x + 1)) c)
  | 0, x, h0 => by
    show x ≤ x ∧ x ≤ x + ((0 : Nat) : Int) ∧ (x < x → _) ∧ (x < x + ((0 : Nat) : Int) → _)
    exact ⟨Int.le_refl _, by omega, fun h => absurd h (Int.lt_irrefl _), fun h => absurd h (by omega)⟩
  | n + 1, x, h0 => by
    have e : fewM w r c (n + 1) x = if above (cl w r (x + 1)) c = true then fewM w r c n (x + 1) else x := rfl
    rw [e]
    by_cases h : above (cl w r (x + 1)) c = true
    · rw [if_pos h]
      obtain ⟨a1, a2, a3, a4⟩ := fewM_spec hw hr hc n (x + 1) (by omega)
      refine ⟨by omega, by omega, fun _ => ?_, fun h2 => a4 (by omega)⟩
      by_cases e2 : x + 1 < fewM w r c n (x + 1)
      · exact a3 e2
      · have e3 : fewM w r c n (x + 1) = x + 1 := by omega
        rw [e3]
        exact above_iff.mp h
    · rw [if_neg h]
      exact ⟨Int.le_refl _, by omega, fun h => absurd h (Int.lt_irrefl _), fun _ => above_false.mp (Bool.not_eq_true _ ▸ h)⟩
theorem few_spec {r : Row} {c : Pr} (hw : w ∈ ways) (g : GoodRow r) (hc : Cl c) : r.2.1 ≤ few w r c ∧ few w r c ≤ r.2.2 ∧ (r.2.1 < few w r c → Lt c (cl w r (few w r c))) ∧ (few w r c < r.2.2 → Le (cl w r (few w r c + 1)) c) := by
  obtain ⟨g1, _, g3, g4, _⟩ := g
  have e : ((r.2.2 - r.2.1).toNat : Int) = r.2.2 - r.2.1 := Int.toNat_of_nonneg (by omega)
  obtain ⟨a1, a2, a3, a4⟩ := fewM_spec (w := w) (r := r) (c := c) hw g1 hc (r.2.2 - r.2.1).toNat r.2.1 g3
  unfold few
  exact ⟨a1, by omega, a3, fun h => a4 (by omega)⟩
theorem many_spec {r : Row} {c : Pr} (hw : w ∈ ways) (g : GoodRow r) (hc : Cl c) : few w r c ≤ many w r c ∧ many w r c ≤ r.2.2 := by
  obtain ⟨a1, a2, _, _⟩ := few_spec hw g hc
  unfold many
  by_cases h : few w r c < r.2.2
  · rw [if_pos h]
    split <;> omega
  · rw [if_neg h]
    omega
/-- what the few are, by their claims alone -/
theorem few_is {r : Row} {c : Pr} (hw : w ∈ ways) (g : GoodRow r) (hc : Cl c) {x : Int} (h1 : r.2.1 ≤ x) (h2 : x ≤ r.2.2) (h3 : r.2.1 < x → Lt c (cl w r x)) (h4 : x < r.2.2 → Le (cl w r (x + 1)) c) : few w r c = x := by
  obtain ⟨a1, a2, a3, a4⟩ := few_spec hw g hc
  obtain ⟨g1, _, g3, _, _⟩ := g
  rcases Int.lt_trichotomy (few w r c) x with h | h | h
  · have l1 := a4 (by omega)
    have l2 := h3 (by omega)
    have l3 := cl_le hw (r := r) g1 (j := few w r c + 1) (k := x) (by omega) (by omega)
    exact (Lt.irrefl (Lt.trans_le hc (cl_cl hw g1 (by omega)) hc (Lt.trans_le hc (cl_cl hw g1 (by omega)) (cl_cl hw g1 (k := few w r c + 1) (by omega)) l2 l3) l1)).elim
  · exact h
  · have l1 := a3 (by omega)
    have l2 := h4 (by omega)
    have l3 := cl_le hw (r := r) g1 (j := x + 1) (k := few w r c) (by omega) (by omega)
    exact (Lt.irrefl (Lt.trans_le hc (cl_cl hw g1 (k := x + 1) (by omega)) hc (Lt.trans_le hc (cl_cl hw g1 (by omega)) (cl_cl hw g1 (k := x + 1) (by omega)) l1 l3) l2)).elim
theorem many_up {r : Row} {c : Pr} (h : few w r c < r.2.2) (h2 : Le c (cl w r (few w r c + 1))) : many w r c = few w r c + 1 := by
  unfold many
  rw [if_pos h, if_neg (by rw [above_false.mpr h2]; decide)]
theorem many_no {r : Row} {c : Pr} (h : few w r c < r.2.2 → Lt (cl w r (few w r c + 1)) c) : many w r c = few w r c := by
  unfold many
  by_cases e : few w r c < r.2.2
  · rw [if_pos e, if_pos (above_iff.mpr (h e))]
  · rw [if_neg e]
end SS

/-! the price of a deal shows it -/
namespace SS
open PySem PySem.Spec PyProof.Rows L2 LamX
variable {w : Str} {rs : List Row} {f : List Int}
def pcol (k : Nat) (c : Pr) : Int := match k with
  | 0 => c.1
  | _ => c.2
theorem pcol_at {K : PySem.W.Frag} {H : Hp} {a : Addr} {c : Pr} {k : Nat} (hk : k < 2) (h : SqT K H a [.int c.1, .int c.2]) {Q : VK} (q : Q (.int (pcol k c)) H) : rIxT K (.ref a) (.int (k : Int)) H Q := by
  refine ⟨a, _, _, _, rfl, rfl, h, atI_nat (j := k) (v := .int (pcol k c)) ?_, q⟩
  match k, hk with
  | 0, _ => rfl
  | 1, _ => rfl
/-- [pair[k] for pair in pairs] -/
theorem lc_pcol {K : PySem.W.Frag} {σ : L2.St} {H : Hp} {Qd : Hp → Prop} {i k : Nat} {p D : Addr} {xs : List V} {cs : List Pr} (h : Prs K H p xs cs) (hk : k < 2) (hi : i < σ.length) (hl : cs.length ≤ 1000) (nD : H D = none)
    (q : ∀ H', Same H H' → H' D = some (.lst ((cs.map (pcol k)).map V.int)) → Qd H') : LcGoal (Itl K p) (gName i) tYes (tOp (rIxT K) (tVar i) (tC (.int (k : Int)))) [i] σ H D Qd := by
  refine lc_list (K := K) (a := p) (xs := xs) (fun j H' => Same H H' ∧ H' D = some (.lst (((cs.take j).map (pcol k)).map V.int))) ⟨same_new nD, upd_same⟩ (fun j H' _ ⟨s, _⟩ => same_seq s h.l) (fun j x H' hx ⟨s, e⟩ => ?_) (fun H' ⟨s, e⟩ => ?_)
  · obtain ⟨r, a, hr, rfl, ha⟩ := (h.same s).getV hx
    refine ⟨?_, .ref a, ?_, ?_⟩
    rotate_left 2
    · refine pcol_at (Q := fun y H4 => ∃ acc, H4 D = some (.lst acc) ∧ acc.length < sizeLine ∧ Same H (upd H4 D (.lst (acc ++ [y]))) ∧ upd H4 D (.lst (acc ++ [y])) D = some (.lst (((cs.take (j + 1)).map (pcol k)).map V.int))) hk ha ⟨_, e, szl ?_, same_mut s nD, ?_⟩
      · rw [List.length_map, List.length_map, List.length_take]
        omega
      · rw [upd_same, List.take_add_one, hr, List.map_append, List.map_append]
        rfl
    · show ((σ.set i none).set i (some (V.ref a))).set i none = σ.set i none
      rw [List.set_set, List.set_set]
    · show ((σ.set i none).set i (some (V.ref a)))[i]? = _
      rw [List.getElem?_set_self (by rw [List.length_set]; exact hi)]
  · have e2 : cs.take xs.length = cs := List.take_of_length_le (by rw [h.n]; exact Nat.le_refl _)
    rw [e2] at e
    exact q H' s e
theorem lowest_cl {p : Pr} (h : Cl p) : Cl (lowest p) ∧ Le (lowest p) p ∧ Le p (lowest p) := by
  obtain ⟨g, g1, e1, e2, l1, l2, _, _⟩ := lowest_mul h
  have e : (lowest p).1 * p.2 = p.1 * (lowest p).2 := by
    rw [← e1, ← e2, ← Int.mul_assoc, Int.mul_assoc ((lowest p).1) g, Int.mul_comm g, ← Int.mul_assoc]
  exact ⟨⟨l1, l2⟩, Int.le_of_eq e, Int.le_of_eq e.symm⟩
def fewL (w : Str) (rs : List Row) (c : Pr) : List Int := (rs.map (rnd w c)).map (pcol 0)
def manyL (w : Str) (rs : List Row) (c : Pr) : List Int := (rs.map (rnd w c)).map (pcol 1)
theorem fewL_len (w : Str) (rs : List Row) (c : Pr) : (fewL w rs c).length = rs.length := by
  unfold fewL
  rw [List.length_map, List.length_map]
theorem manyL_len (w : Str) (rs : List Row) (c : Pr) : (manyL w rs c).length = rs.length := by
  unfold manyL
  rw [List.length_map, List.length_map]
theorem fewL_get {c : Pr} {k : Nat} (h : k < rs.length) : (fewL w rs c).getD k 0 = few w (rowAt rs k) c := by
  unfold fewL
  rw [List.getD_eq_getElem?_getD, List.getElem?_map, List.getElem?_map, row_get h]
  rfl
theorem manyL_get {c : Pr} {k : Nat} (h : k < rs.length) : (manyL w rs c).getD k 0 = many w (rowAt rs k) c := by
  unfold manyL
  rw [List.getD_eq_getElem?_getD, List.getElem?_map, List.getElem?_map, row_get h]
  rfl
/-- what a price of the deal shows -/
structure Shows (w : Str) (rs : List Row) (n : Int) (d : Dealt) (c : Pr) : Prop where
  last : ∀ k < rs.length, (rowAt rs k).2.1 < d.sure.getD k 0 → Le c (lst w rs d.sure k)
  next : ∀ k ∈ opens rs d.sure, Le (nxt w rs d.sure k) c
  fewT : 0 < d.left → fewL w rs c = d.sure
  loose : 0 < d.left → (List.range rs.length).filter (fun k => decide (few w (rowAt rs k) c < many w (rowAt rs k) c)) = d.tied
  manyS : d.left = 0 → manyL w rs c = d.sure
  lo : (fewL w rs c).sum ≤ n
  hi : n ≤ (manyL w rs c).sum
theorem few_le_many {c : Pr} (hw : w ∈ ways) (g : ∀ r ∈ rs, GoodRow r) (hc : Cl c) : (fewL w rs c).sum ≤ (manyL w rs c).sum := by
  refine sum_le _ _ (by rw [fewL_len, manyL_len]) fun i hi => ?_
  rw [fewL_len] at hi
  rw [fewL_get hi, manyL_get hi]
  exact (many_spec hw (row_good g hi) hc).1
theorem price_shows {n : Int} (hw : w ∈ ways) (g : ∀ r ∈ rs, GoodRow r) {d : Dealt} (O : DealOk w rs n d) {i : Nat} {r : List Nat} (hl : d.last = i :: r) {c : Pr}
    (hc : c = lowest (cl w (rowAt rs i) (d.sure.getD i 0 + if 0 < d.left then 1 else 0))) : Cl c ∧ Shows w rs n d c := by
  have hf : Nn rs d.sure := fun i hi => (di_200 O.di g i hi).1
  have hv := vt_good g
  have G := greatest_grt (f := d.sure) hw hv hf
  have mi : i ∈ d.last := by rw [hl]; exact List.mem_cons_self ..
  have hn := O.di.n
  have clN : ∀ {k : Nat}, k < rs.length → Cl (nxt w rs d.sure k) := fun {k} hk => nxt_cl hw hv hf hk
  have clL : ∀ {k : Nat}, k < rs.length → (rowAt rs k).2.1 < d.sure.getD k 0 → Cl (lst w rs d.sure k) := fun {k} hk h => cl_cl hw (hv k hk) (by have := lo_good g k hk; omega)
  have lstS : ∀ {k : Nat}, k < rs.length → d.sure.getD k 0 < (rowAt rs k).2.2 → k ∈ opens rs d.sure := fun {k} hk h => opens_mem.mpr ⟨hk, h⟩
  rcases O.fin with ⟨l0, t0, L⟩ | ⟨lp, lt, tg, tl⟩
  · rw [if_neg (by omega), Int.add_zero] at hc
    have hP : Cl (lst w rs d.sure i) := clL (L.lt i mi) (L.up i mi)
    have hcP : c = lowest (lst w rs d.sure i) := hc
    obtain ⟨hcc, p1, p2⟩ := lowest_cl hP
    rw [← hcP] at hcc p1 p2
    have last : ∀ k < rs.length, (rowAt rs k).2.1 < d.sure.getD k 0 → Le c (lst w rs d.sure k) := fun k hk h => Le.trans hcc hP (clL hk h) p1 (L.least i mi k hk h)
    have nextS : ∀ k ∈ opens rs d.sure, Lt (nxt w rs d.sure k) c := fun k hk => Lt.trans_le (clN (opens_lt hk)) hP hcc (O.top i (L.lt i mi) (L.up i mi) k hk) p2
    have manyK : ∀ k < rs.length, many w (rowAt rs k) c = d.sure.getD k 0 := fun k hk => by
      have gk := row_good g hk
      have bk := O.di.b k hk
      have lo0 := lo_good g k hk
      by_cases hlow : (rowAt rs k).2.1 < d.sure.getD k 0
      · by_cases hs : Lt c (lst w rs d.sure k)
        · have e : few w (rowAt rs k) c = d.sure.getD k 0 := few_is hw gk hcc bk.1 bk.2 (fun _ => hs) (fun h => (nextS k (lstS hk h)).le)
          rw [many_no (fun h => by rw [e] at h ⊢; exact nextS k (lstS hk h)), e]
        · have hs2 := not_lt.mp hs
          have e : few w (rowAt rs k) c = d.sure.getD k 0 - 1 := few_is hw gk hcc (by omega) (by omega)
            (fun h => Le.trans_lt hcc (clL hk hlow) (cl_cl hw gk.1 (by omega)) (last k hk hlow) (cl_lt hw gk.1 (by omega) (by omega)))
            (fun _ => by rw [show d.sure.getD k 0 - 1 + 1 = d.sure.getD k 0 by omega]; exact hs2)
          have e2 := many_up (w := w) (r := rowAt rs k) (c := c) (by rw [e]; omega) (by rw [e, show d.sure.getD k 0 - 1 + 1 = d.sure.getD k 0 by omega]; exact last k hk hlow)
          rw [e2, e]
          omega
      · have e0 : d.sure.getD k 0 = (rowAt rs k).2.1 := by omega
        have e : few w (rowAt rs k) c = d.sure.getD k 0 := few_is hw gk hcc bk.1 bk.2 (fun h => absurd h hlow) (fun h => (nextS k (lstS hk h)).le)
        rw [many_no (fun h => by rw [e] at h ⊢; exact nextS k (lstS hk h)), e]
    have hm : manyL w rs c = d.sure := list_ext (by rw [manyL_len, hn]) fun k hk => by
      rw [manyL_len] at hk
      rw [manyL_get hk, manyK k hk]
    have hs := O.di.s
    refine ⟨hcc, last, fun k hk => (nextS k hk).le, fun h => absurd h (by omega), fun h => absurd h (by omega), fun _ => hm, ?_, ?_⟩
    · have := few_le_many (c := c) hw g hcc
      rw [hm] at this
      omega
    · rw [hm]
      omega
  · rw [if_pos lp] at hc
    have mg : i ∈ greatest w rs d.sure := by rw [← tg, ← tl]; exact mi
    have mo := greatest_mem mg
    have hP : Cl (nxt w rs d.sure i) := clN (opens_lt mo)
    have hcP : c = lowest (nxt w rs d.sure i) := hc
    obtain ⟨hcc, p1, p2⟩ := lowest_cl hP
    rw [← hcP] at hcc p1 p2
    have lastS : ∀ k < rs.length, (rowAt rs k).2.1 < d.sure.getD k 0 → Lt c (lst w rs d.sure k) := fun k hk h => Le.trans_lt hcc hP (clL hk h) p1 (O.top k hk h i mo)
    have next : ∀ k ∈ opens rs d.sure, Le (nxt w rs d.sure k) c := fun k hk => Le.trans (clN (opens_lt hk)) hP hcc (G.top i mg k hk) p2
    have fewK : ∀ k < rs.length, few w (rowAt rs k) c = d.sure.getD k 0 := fun k hk => by
      have bk := O.di.b k hk
      exact few_is hw (row_good g hk) hcc bk.1 bk.2 (fun h => lastS k hk h) (fun h => next k (lstS hk h))
    have manyIn : ∀ k ∈ greatest w rs d.sure, many w (rowAt rs k) c = d.sure.getD k 0 + 1 := fun k hk => by
      have ko := greatest_mem hk
      have kl := opens_lt ko
      have e := fewK k kl
      rw [many_up (by rw [e]; exact (opens_mem.mp ko).2) (by rw [e]; exact Le.trans hcc hP (clN kl) p1 (G.top k hk i mo)), e]
    have manyOut : ∀ k < rs.length, k ∉ greatest w rs d.sure → many w (rowAt rs k) c = d.sure.getD k 0 := fun k hk hn => by
      have e := fewK k hk
      rw [many_no (fun h => by rw [e] at h ⊢; exact Lt.trans_le (clN hk) hP hcc (G.low i mg k (lstS hk h) hn) p2), e]
    have hfew : fewL w rs c = d.sure := list_ext (by rw [fewL_len, hn]) fun k hk => by
      rw [fewL_len] at hk
      rw [fewL_get hk, fewK k hk]
    have hmany : manyL w rs c = bump d.sure (greatest w rs d.sure) := list_ext (by rw [manyL_len, bump_len, hn]) fun k hk => by
      rw [manyL_len] at hk
      rw [manyL_get hk, bump_greatest hn]
      by_cases m : k ∈ greatest w rs d.sure
      · rw [if_pos m, manyIn k m]
      · rw [if_neg m, manyOut k hk m, Int.add_zero]
    have hs := O.di.s
    refine ⟨hcc, fun k hk h => (lastS k hk h).le, next, fun _ => hfew, fun _ => ?_, fun h => absurd h (by omega), ?_, ?_⟩
    · rw [tg]
      have e : (List.range rs.length).filter (fun k => decide (few w (rowAt rs k) c < many w (rowAt rs k) c)) = (List.range rs.length).filter (fun k => decide (k ∈ greatest w rs d.sure)) := by
        refine List.filter_congr fun k hk => ?_
        have hk2 := List.mem_range.mp hk
        rw [fewK k hk2]
        by_cases m : k ∈ greatest w rs d.sure
        · rw [manyIn k m, decide_eq_true m, decide_eq_true (by omega)]
        · rw [manyOut k hk2 m, decide_eq_false m, decide_eq_false (Int.lt_irrefl _)]
      rw [e]
      refine List.Perm.eq_of_pairwise (le := (· < ·)) (fun a b _ _ h1 h2 => absurd h1 (Nat.lt_asymm h2)) (List.pairwise_lt_range.filter _) (opens_sorted.sublist greatest_sub) ?_
      refine (List.perm_ext_iff_of_nodup (List.nodup_range.filter _) greatest_nodup).mpr fun k => ?_
      rw [List.mem_filter, List.mem_range, decide_eq_true_eq]
      exact ⟨fun h => h.2, fun h => ⟨opens_lt (greatest_mem h), h⟩⟩
    · rw [hfew]
      omega
    · rw [hmany, bump_sum _ _ (greatest_lt (D := hn))]
      rw [tg] at lt
      omega
end SS

/-! right deals -/
namespace SS
open PySem PySem.Spec PyProof.Rows L2 LamX
variable {w : Str} {rs : List Row} {f : List Int}
def seatB (p : PyData × Row) : Bool := isWh0 p.1 p.2.2.1 p.2.2.2
def areSeatsD (rs : List Row) : PyData → Bool
  | .list ds => decide (ds.length = rs.length) && (List.zip ds rs).all seatB
  | _ => false
theorem areSeatsD_other {d : PyData} (h : isLstD d = false) : areSeatsD rs d = false := by
  cases d with
  | list ds => cases h
  | _ => rfl
theorem areSeatsD_def (ds : List PyData) : areSeatsD rs (.list ds) = (decide (ds.length = rs.length) && (List.zip ds rs).all seatB) := rfl
theorem zip_seats : ∀ {ds : List PyData} {rs : List Row}, ds.length = rs.length → (List.zip ds rs).all seatB = true → ∃ fs : List Int, ds = fs.map PyData.int ∧ fs.length = rs.length ∧ ∀ i < rs.length, (rowAt rs i).2.1 ≤ fs.getD i 0 ∧ fs.getD i 0 ≤ (rowAt rs i).2.2
  | [], [], _, _ => ⟨[], rfl, rfl, fun i hi => by cases hi⟩
  | [], _ :: _, h, _ => by cases h
  | _ :: _, [], h, _ => by cases h
  | d :: ds, r :: rs, h, k => by
    rw [List.zip_cons_cons, List.all_cons] at k
    obtain ⟨k1, k2⟩ := He.ba k
    obtain ⟨x, rfl, x1, x2⟩ := wh_int k1
    obtain ⟨fs, rfl, l, b⟩ := zip_seats (Nat.succ.inj h) k2
    refine ⟨x :: fs, rfl, congrArg Nat.succ l, fun i hi => ?_⟩
    cases i with
    | zero => exact ⟨x1, x2⟩
    | succ i => exact b i (Nat.lt_of_succ_lt_succ hi)
theorem areSeatsD_is {d : PyData} (h : areSeatsD rs d = true) : ∃ fs : List Int, d = .list (fs.map PyData.int) ∧ fs.length = rs.length ∧ ∀ i < rs.length, (rowAt rs i).2.1 ≤ fs.getD i 0 ∧ fs.getD i 0 ≤ (rowAt rs i).2.2 := by
  cases d with
  | list ds =>
    rw [areSeatsD_def] at h
    obtain ⟨h1, h2⟩ := He.ba h
    obtain ⟨fs, e, l, b⟩ := zip_seats (of_decide_eq_true h1) h2
    exact ⟨fs, by rw [e], l, b⟩
  | _ => cases h
theorem zip_seats_of : ∀ {fs : List Int} {rs : List Row}, fs.length = rs.length → (∀ i < rs.length, (rowAt rs i).2.1 ≤ fs.getD i 0 ∧ fs.getD i 0 ≤ (rowAt rs i).2.2) → (List.zip (fs.map PyData.int) rs).all seatB = true
  | [], [], _, _ => rfl
  | [], _ :: _, h, _ => by cases h
  | _ :: _, [], h, _ => by cases h
  | x :: fs, r :: rs, h, b => by
    rw [List.map_cons, List.zip_cons_cons, List.all_cons, zip_seats_of (Nat.succ.inj h) fun i hi => b (i + 1) (Nat.succ_lt_succ hi)]
    have b0 := b 0 (Nat.zero_lt_succ _)
    rw [show seatB (PyData.int x, r) = true from wh_of b0.1 b0.2]
    rfl
theorem areSeatsD_of {fs : List Int} (h : fs.length = rs.length) (b : ∀ i < rs.length, (rowAt rs i).2.1 ≤ fs.getD i 0 ∧ fs.getD i 0 ≤ (rowAt rs i).2.2) : areSeatsD rs (.list (fs.map PyData.int)) = true := by
  rw [areSeatsD_def, zip_seats_of h b, List.length_map, decide_eq_true h]
  rfl
/-- no next claim is above this list's last one -/
def okB (w : Str) (rs : List Row) (f : List Int) (k : Nat) : Bool := decide (f.getD k 0 ≤ (rowAt rs k).2.1) || (opens rs f).all fun j => !above (nxt w rs f j) (lst w rs f k)
def rightB (w : Str) (rs : List Row) (f : List Int) : Bool := (List.range rs.length).all (okB w rs f)
/-- no claim passes -/
def Right (w : Str) (rs : List Row) (f : List Int) : Prop := ∀ k < rs.length, (rowAt rs k).2.1 < f.getD k 0 → ∀ j ∈ opens rs f, Le (nxt w rs f j) (lst w rs f k)
theorem okB_iff {k : Nat} : okB w rs f k = true ↔ ((rowAt rs k).2.1 < f.getD k 0 → ∀ j ∈ opens rs f, Le (nxt w rs f j) (lst w rs f k)) := by
  unfold okB
  rw [Bool.or_eq_true, decide_eq_true_eq, List.all_eq_true]
  constructor
  · rintro (h | h) hl j hj
    · omega
    · have := h j hj
      rw [Bool.not_eq_true'] at this
      exact above_false.mp this
  · intro h
    by_cases hl : (rowAt rs k).2.1 < f.getD k 0
    · refine .inr fun j hj => ?_
      rw [Bool.not_eq_true']
      exact above_false.mpr (h hl j hj)
    · exact .inl (by omega)
theorem rightB_iff : rightB w rs f = true ↔ Right w rs f := by
  unfold rightB Right
  rw [List.all_eq_true]
  constructor
  · intro h k hk
    exact okB_iff.mp (h k (List.mem_range.mpr hk))
  · intro h k hk
    exact okB_iff.mpr (h k (List.mem_range.mp hk))
theorem rightB_false {k : Nat} (hk : k < rs.length) (h : okB w rs f k = false) : rightB w rs f = false := by
  rw [← Bool.not_eq_true]
  intro z
  unfold rightB at z
  rw [List.all_eq_true] at z
  rw [z k (List.mem_range.mpr hk)] at h
  cases h
def intD : PyData → Int
  | .int i => i
  | _ => 0
def isRightD (w : Str) (rs : List Row) : PyData → Bool
  | .list ds => areSeatsD rs (.list ds) && rightB w rs (ds.map intD)
  | _ => false
theorem isRightD_no {d : PyData} (h : areSeatsD rs d = false) : isRightD w rs d = false := by
  cases d with
  | list ds =>
    show (areSeatsD rs (.list ds) && _) = false
    rw [h, Bool.false_and]
  | _ => rfl
theorem map_intD (fs : List Int) : (fs.map PyData.int).map intD = fs := by
  rw [List.map_map]
  exact List.map_id'' (fun _ => rfl) fs
theorem isRightD_ints {fs : List Int} (h : areSeatsD rs (.list (fs.map PyData.int)) = true) : isRightD w rs (.list (fs.map PyData.int)) = rightB w rs fs := by
  show (areSeatsD rs (.list (fs.map PyData.int)) && rightB w rs ((fs.map PyData.int).map intD)) = _
  rw [h, map_intD, Bool.true_and]
end SS

/-! what is sure, with one seat more for some of the tied, is right -/
namespace SS
open PySem PySem.Spec PyProof.Rows L2 LamX
variable {w : Str} {rs : List Row} {f : List Int}
/-- f with one seat more for the places of S -/
def PickOf (f g : List Int) (S : List Nat) : Prop := g.length = f.length ∧ ∀ k, g.getD k 0 = f.getD k 0 + has k S
theorem has_in {k : Nat} {S : List Nat} (h : k ∈ S) : has k S = 1 := by
  unfold has
  rw [if_pos h]
theorem has_out {k : Nat} {S : List Nat} (h : k ∉ S) : has k S = 0 := by
  unfold has
  rw [if_neg h]
theorem pick_seats {n : Int} {d : Dealt} (O : DealOk w rs n d) {g : List Int} {S : List Nat} (hS : ∀ k ∈ S, k ∈ d.tied) (hg : PickOf d.sure g S) : g.length = rs.length ∧ ∀ i < rs.length, (rowAt rs i).2.1 ≤ g.getD i 0 ∧ g.getD i 0 ≤ (rowAt rs i).2.2 := by
  refine ⟨by rw [hg.1, O.di.n], fun i hi => ?_⟩
  have b := O.di.b i hi
  rw [hg.2]
  by_cases m : i ∈ S
  · rw [has_in m]
    have ho : i ∈ opens rs d.sure := by
      have ht := hS i m
      rcases O.fin with ⟨_, t0, _⟩ | ⟨_, _, tg, _⟩
      · rw [t0] at ht
        cases ht
      · rw [tg] at ht
        exact greatest_mem ht
    have := (opens_mem.mp ho).2
    omega
  · rw [has_out m]
    omega
theorem pick_right {n : Int} (hw : w ∈ ways) (g0 : ∀ r ∈ rs, GoodRow r) {d : Dealt} (O : DealOk w rs n d) {g : List Int} {S : List Nat} (hS : ∀ k ∈ S, k ∈ d.tied) (hg : PickOf d.sure g S) : Right w rs g := by
  have hv := vt_good g0
  have hf : Nn rs d.sure := fun i hi => (di_200 O.di g0 i hi).1
  have G := greatest_grt (f := d.sure) hw hv hf
  have hn := O.di.n
  obtain ⟨gl, gs⟩ := pick_seats O hS hg
  have tied : ∀ k ∈ S, k ∈ greatest w rs d.sure := fun k hk => by
    have ht := hS k hk
    rcases O.fin with ⟨_, t0, _⟩ | ⟨_, _, tg, _⟩
    · rw [t0] at ht
      cases ht
    · rw [tg] at ht
      exact ht
  have op : ∀ j ∈ opens rs g, j ∈ opens rs d.sure := fun j hj => by
    obtain ⟨h1, h2⟩ := opens_mem.mp hj
    rw [hg.2] at h2
    have := has_01 j S
    exact opens_mem.mpr ⟨h1, by omega⟩
  have nx : ∀ j ∈ opens rs g, Le (nxt w rs g j) (nxt w rs d.sure j) := fun j hj => by
    have jl := opens_lt hj
    have := has_01 j S
    have h0 := hf j jl
    refine cl_le hw (hv j jl) (j := d.sure.getD j 0 + 1) (k := g.getD j 0 + 1) (by omega) ?_
    rw [hg.2]
    omega
  have clN : ∀ {k : Nat}, k < rs.length → Cl (nxt w rs d.sure k) := fun {k} hk => nxt_cl hw hv hf hk
  have clG : ∀ {k : Nat}, k < rs.length → Cl (nxt w rs g k) := fun {k} hk => cl_cl hw (hv k hk) (by
    have := gs k hk
    have := lo_good g0 k hk
    omega)
  intro k hk hup j hj
  have jo := op j hj
  have jl := opens_lt jo
  by_cases m : k ∈ S
  · have e : lst w rs g k = nxt w rs d.sure k := by
      unfold lst nxt
      rw [hg.2, has_in m]
    rw [e]
    exact Le.trans (clG jl) (clN jl) (clN hk) (nx j hj) (G.top k (tied k m) j jo)
  · have e : lst w rs g k = lst w rs d.sure k := by
      unfold lst
      rw [hg.2, has_out m, Int.add_zero]
    rw [hg.2, has_out m, Int.add_zero] at hup
    rw [e]
    have hlo := lo_good g0 k hk
    exact Le.trans (clG jl) (clN jl) (cl_cl hw (hv k hk) (by omega)) (nx j hj) (O.top k hk hup j jo).le
theorem pick_isRight {n : Int} (hw : w ∈ ways) (g0 : ∀ r ∈ rs, GoodRow r) {d : Dealt} (O : DealOk w rs n d) {g : List Int} {S : List Nat} (hS : ∀ k ∈ S, k ∈ d.tied) (hg : PickOf d.sure g S) : isRightD w rs (.list (g.map PyData.int)) = true := by
  obtain ⟨a, b⟩ := pick_seats O hS hg
  rw [isRightD_ints (areSeatsD_of a b)]
  exact rightB_iff.mpr (pick_right hw g0 O hS hg)
theorem good_pick {n : Int} {d : Dealt} (O : DealOk w rs n d) : PickOf d.sure (goodL d) (d.tied.take d.left.toNat) := by
  refine ⟨goodL_len d, fun k => ?_⟩
  by_cases h : k < d.sure.length
  · rw [goodL_get h]
    rfl
  · rw [List.getD_eq_getElem?_getD, List.getElem?_eq_none (by rw [goodL_len]; omega), List.getD_eq_getElem?_getD, List.getElem?_eq_none (by omega)]
    rw [has_out]
    · rfl
    · intro m
      have mt := List.mem_of_mem_take m
      rcases O.fin with ⟨_, t0, _⟩ | ⟨_, _, tg, _⟩
      · rw [t0] at mt
        cases mt
      · rw [tg] at mt
        have := opens_lt (greatest_mem mt)
        rw [O.di.n] at h
        omega
theorem good_isRight {n : Int} (hw : w ∈ ways) (g0 : ∀ r ∈ rs, GoodRow r) {d : Dealt} (O : DealOk w rs n d) : isRightD w rs (.list ((goodL d).map PyData.int)) = true :=
  pick_isRight hw g0 O (fun k hk => List.mem_of_mem_take hk) (good_pick O)
end SS

/-! sorted(l) of lists of whole numbers -/
namespace SS
open PySem PySem.Spec PyProof.Rows L2 LamX PySem.W

def rSortedL (K : PySem.W.Frag) : List V → Hp → VK → Prop := fun vs H Q => ∃ (a : Addr) (bs : List (V × List Int)), vs = [V.ref a] ∧ SqL K H a (bs.map Prod.fst) ∧ (∀ b ∈ bs, ∃ c, b.1 = V.ref c ∧ SqL K H c (b.2.map V.int)) ∧
  ∀ p, H p = none → Q (.ref p) (upd H p (.lst ((bs.mergeSort fun x y => decide (x.2 ≤ y.2)).map Prod.fst)))
theorem each_vals : ∀ {bs : List (V × List Int)} {its : List Value}, Vals (bs.map Prod.fst) its → EachIs (fun v b => RelV b.1 v) its bs
  | [], _, r => by
    cases r
    exact .nil
  | b :: bs, _, r => by
    cases r with
    | cons h t => exact .cons h (each_vals t)
theorem vals_each : ∀ {bs : List (V × List Int)} {its : List Value}, EachIs (fun v (b : V × List Int) => RelV b.1 v) its bs → Vals (bs.map Prod.fst) its
  | [], _, r => by
    cases r
    exact .nil
  | b :: bs, _, r => by
    cases r with
    | cons h t => exact .cons h (vals_each t)
theorem each_reads {X : Cx} {pins : List (Addr × Obj)} {σ : L2.St} {H : Hp} {s : Shared} (I : Inv X pins σ H s) : ∀ {bs : List (V × List Int)} {its : List Value}, (∀ b ∈ bs, ∃ c, b.1 = V.ref c ∧ SqL X.K H c (b.2.map V.int)) → EachIs (fun v (b : V × List Int) => RelV b.1 v) its bs → EachIs (fun v (b : V × List Int) => ∃ as, Reads s.heap v (PyData.list (b.2.map PyData.int)) as) its bs
  | [], _, _, e => by
    cases e
    exact .nil
  | b :: bs, _, hb, e => by
    cases e with
    | cons h t =>
      refine .cons ?_ (each_reads I (fun x hx => hb x (List.mem_cons_of_mem _ hx)) t)
      obtain ⟨c, e, hS⟩ := hb b (List.mem_cons_self ..)
      exact Dp.reads I _ _ _ (by rw [e]; exact .lst hS (dpa_ints _)) h
theorem cr_sortedL {X : Cx} (hu : X.A.units + 64 < cLine) : CallR X (.builtin "sorted") (rSortedL X.K) := by
  intro pins s σ H vs us Q I r h
  obtain ⟨a, bs, rfl, hs, hb, q⟩ := h
  obtain ⟨its, rv, hl, hz⟩ := I.list hs
  rw [Vals.ref1 r]
  have e := each_vals rv
  have er := each_reads I hb e
  have hz2 : bs.length ≤ sizeLine := by rw [List.length_map] at hz; exact hz
  refine PySem.W.sorted_data (enc := fun b : V × List Int => PyData.list (b.2.map PyData.int)) hl.isList e er (AllAlike.of fun b b' => by
    show alike (.list _) (.list _) = true
    rw [alike]
    exact alike_ints _ _) (Sortable.others fun b => ⟨(fun z => by cases z), fun xs z => by cases z⟩) hz2 (fun b _ => ?_) fun out h1 h2 => ?_
  · show X.A.units + 2 + (PyData.list (b.2.map PyData.int)).depth < cLine
    rw [PyData.depth, depth_ints]
    omega
  · rw [dataLe_rows] at h2
    obtain ⟨ep, he'⟩ := PyProof.Rows.sortedAll_at s.heap its out.toArray
    have hlen : ((bs.mergeSort fun x y => decide (x.2 ≤ y.2)).map Prod.fst).length ≤ sizeLine := by
      rw [List.length_map, List.length_mergeSort]
      exact hz2
    exact ⟨.ref _, upd H (s.heap.objs.size + 1) (.lst ((bs.mergeSort fun x y => decide (x.2 ≤ y.2)).map Prod.fst)), I.laid (t' := s.toks) (fun _ _ => PyProof.Rows.sortedAll_old) (Nat.le_succ _) ⟨hlen, out, ep, vals_each h2, he'⟩, rfl, q _ (I.hok.fresh (Nat.le_succ _))⟩
theorem cr_sortedLK {X : Cx} {K : PySem.W.Frag} (h : X.K = K) (hu : X.A.units + 64 < cLine) : CallR X (.builtin "sorted") (rSortedL K) := h ▸ cr_sortedL hu

/-! ### lists of lists of whole numbers on the heap -/
structure Lls (H : Hp) (p : Addr) (xs : List V) (ls : List (List Int)) : Prop where
  l : H p = some (.lst xs)
  n : xs.length = ls.length
  at_ : ∀ (i : Nat) (x : V) (c : List Int), xs[i]? = some x → ls[i]? = some c → ∃ a, x = .ref a ∧ a ≠ p ∧ H a = some (.lst (c.map V.int))
theorem Lls.same {H H' : Hp} {p : Addr} {xs : List V} {ls : List (List Int)} (h : Lls H p xs ls) (s : Same H H') : Lls H' p xs ls :=
  ⟨s _ _ h.l, h.n, fun i x c h1 h2 => by
    obtain ⟨a, h3, h4, h5⟩ := h.at_ i x c h1 h2
    exact ⟨a, h3, h4, s _ _ h5⟩⟩
theorem Lls.get {H : Hp} {p : Addr} {xs : List V} {ls : List (List Int)} (h : Lls H p xs ls) {i : Nat} {c : List Int} (e : ls[i]? = some c) : ∃ a, xs[i]? = some (.ref a) ∧ a ≠ p ∧ H a = some (.lst (c.map V.int)) := by
  have hi : i < xs.length := by
    rw [h.n]
    exact (List.getElem?_eq_some_iff.mp e).1
  have ex : xs[i]? = some xs[i] := List.getElem?_eq_getElem hi
  obtain ⟨a, h1, h2, h3⟩ := h.at_ i _ c ex e
  exact ⟨a, by rw [ex, h1], h2, h3⟩
theorem Lls.getV {H : Hp} {p : Addr} {xs : List V} {ls : List (List Int)} (h : Lls H p xs ls) {i : Nat} {x : V} (e : xs[i]? = some x) : ∃ c a, ls[i]? = some c ∧ x = .ref a ∧ a ≠ p ∧ H a = some (.lst (c.map V.int)) := by
  have hi : i < ls.length := by
    rw [← h.n]
    exact (List.getElem?_eq_some_iff.mp e).1
  have er : ls[i]? = some ls[i] := List.getElem?_eq_getElem hi
  obtain ⟨a, h1, h2, h3⟩ := h.at_ i x _ e er
  exact ⟨_, a, er, h1, h2, h3⟩
theorem lls_nil {H : Hp} {p : Addr} (h : H p = some (.lst [])) : Lls H p [] [] := ⟨h, rfl, fun i x c h1 _ => by cases h1⟩
theorem lls_snoc {H : Hp} {p : Addr} {xs : List V} {ls : List (List Int)} {t : Addr} {c : List Int} (h : Lls H p xs ls) (ht : H t = some (.lst (c.map V.int))) (hn : t ≠ p) : Lls (upd H p (.lst (xs ++ [.ref t]))) p (xs ++ [.ref t]) (ls ++ [c]) := by
  refine ⟨upd_same, by rw [List.length_append, List.length_append, h.n]; rfl, fun i x s h1 h2 => ?_⟩
  by_cases hi : i < xs.length
  · rw [List.getElem?_append_left hi] at h1
    rw [List.getElem?_append_left (by rw [← h.n]; exact hi)] at h2
    obtain ⟨a, h3, h4, h5⟩ := h.at_ i x s h1 h2
    exact ⟨a, h3, h4, by rw [upd_ne h4]; exact h5⟩
  · rw [List.getElem?_append_right (Nat.not_lt.mp hi)] at h1
    rw [List.getElem?_append_right (by rw [← h.n]; exact Nat.not_lt.mp hi), ← h.n] at h2
    cases hj : i - xs.length with
    | zero =>
      rw [hj] at h1 h2
      cases h1
      cases h2
      exact ⟨t, rfl, hn, by rw [upd_ne hn]; exact ht⟩
    | succ j =>
      rw [hj] at h1
      cases h1
def llsD (ls : List (List Int)) : PyData := .list (ls.map fun c => PyData.list (c.map PyData.int))
theorem dpa_lls {K : PySem.W.Frag} {H : Hp} : ∀ {xs : List V} {ls : List (List Int)}, xs.length = ls.length → (∀ (i : Nat) (x : V) (c : List Int), xs[i]? = some x → ls[i]? = some c → ∃ a, x = .ref a ∧ H a = some (.lst (c.map V.int))) → DpAll K H xs (ls.map fun c => PyData.list (c.map PyData.int))
  | [], [], _, _ => .nil
  | [], _ :: _, h, _ => by cases h
  | _ :: _, [], h, _ => by cases h
  | x :: xs, c :: cs, h, k => by
    obtain ⟨a, rfl, h2⟩ := k 0 x c rfl rfl
    exact .cons (.lst (sqL h2) (dpa_ints _)) (dpa_lls (Nat.succ.inj h) fun i y s h1 h2 => k (i + 1) y s (by simpa using h1) (by simpa using h2))
theorem Lls.dp {K : PySem.W.Frag} {H : Hp} {p : Addr} {xs : List V} {ls : List (List Int)} (h : Lls H p xs ls) : Dp K H (.ref p) (llsD ls) := .lst (sqL h.l) (dpa_lls h.n fun i x c h1 h2 => by
  obtain ⟨a, h3, _, h5⟩ := h.at_ i x c h1 h2
  exact ⟨a, h3, h5⟩)
theorem lv_lls (ls : List (List Int)) : Lv 2 (llsD ls) := lv_list (n := 1) fun x hx => by
  obtain ⟨c, _, rfl⟩ := List.mem_map.mp hx
  exact lv_ints c
theorem eq_nilI {K : PySem.W.Frag} {H : Hp} {a b : Addr} {l : List Int} {Q : VK} (h1 : SqL K H a (l.map V.int)) (h2 : SqL K H b []) (q : Q (.bl (decide (l = []))) H) : rEqD K (.ref a) (.ref b) H Q := by
  refine ⟨_, _, .lst h1 (dpa_ints _), .lst h2 .nil, lv_shaped (lv_ints _) (by decide), by decide, ?_⟩
  have e := eqv_ints l []
  rw [List.map_nil] at e
  rw [e]
  exact q
theorem inV_int (l : List Int) (j : Int) : inV (.int j) (l.map V.int) = decide (j ∈ l) := by
  induction l with
  | nil => rfl
  | cons k l ih =>
    show (eqV (.int k) (.int j) || inV (.int j) (l.map V.int)) = _
    rw [ih]
    have e : eqV (.int k) (.int j) = decide (k = j) := by
      simp only [eqV]
      by_cases h : k = j
      · subst h; simp
      · simp [h]
    rw [e]
    by_cases h : k = j
    · subst h; simp
    · have h2 : ¬ j = k := fun z => h z.symm
      simp [h, h2]
theorem flat_ints (l : List Int) : (l.map V.int).all flatV = true := by
  rw [List.all_map, List.all_eq_true]
  intro x _
  rfl
/-- ahead[-1] -/
theorem atI_last {c : List Int} (h : c ≠ []) : atI (c.map V.int) (-1) = some (.int (c.getLast h)) := by
  have hl := List.length_pos_iff.mpr h
  unfold atI ixN
  rw [if_neg (by decide), if_pos (by rw [List.length_map]; omega), List.length_map]
  show (c.map V.int)[(-1 + (c.length : Int)).toNat]? = _
  rw [show (-1 + (c.length : Int)).toNat = c.length - 1 by omega, List.getElem?_map, ← List.getLast?_eq_getElem?, List.getLast?_eq_some_getLast h]
  rfl

/-! ### taking some of some places -/
def goesOn (c : List Int) (p : Int) : Bool := match c.getLast? with
  | none => true
  | some l => decide (l < p)
def extI (ps c : List Int) : List (List Int) := (ps.filter (goesOn c)).map fun p => c ++ [p]
def someI (ps : List Int) : Nat → List (List Int)
  | 0 => [[]]
  | n + 1 => (someI ps n).flatMap (extI ps)
theorem extI_len (ps c : List Int) : (extI ps c).length ≤ ps.length := by
  unfold extI
  rw [List.length_map]
  exact List.length_filter_le _ _
def pickI (sure S : List Int) : List Int := (List.range sure.length).map fun k => sure.getD k 0 + if (k : Int) ∈ S then 1 else 0
def dealsL (d : Dealt) : List (List Int) := (someI (natsI d.tied) d.left.toNat).map (pickI d.sure)
def allL (d : Dealt) : List (List Int) := (dealsL d).mergeSort fun x y => decide (x ≤ y)
end SS

/-! taking some of some places: as many as there are ways -/
namespace SS
open PySem PySem.Spec PyProof.Rows L2 LamX

/-- all ways to take n of some, each rising, in order -/
def comb : List Int → Nat → List (List Int)
  | _, 0 => [[]]
  | [], _ + 1 => []
  | p :: ps, n + 1 => (comb ps n).map (p :: ·) ++ comb ps (n + 1)
def choose : Nat → Nat → Nat
  | _, 0 => 1
  | 0, _ + 1 => 0
  | m + 1, n + 1 => choose m n + choose m (n + 1)
theorem comb_zero (ps : List Int) : comb ps 0 = [[]] := by cases ps <;> rfl
theorem choose_zero (m : Nat) : choose m 0 = 1 := by cases m <;> rfl
theorem comb_len : ∀ (ps : List Int) (n : Nat), (comb ps n).length = choose ps.length n
  | ps, 0 => by
    rw [comb_zero, choose_zero]
    rfl
  | [], n + 1 => rfl
  | p :: ps, n + 1 => by
    show ((comb ps n).map (p :: ·) ++ comb ps (n + 1)).length = choose ps.length n + choose ps.length (n + 1)
    rw [List.length_append, List.length_map, comb_len ps n, comb_len ps (n + 1)]
theorem choose_le : ∀ (m n : Nat), choose m n ≤ 2 ^ m
  | m, 0 => by
    rw [choose_zero]
    exact Nat.one_le_two_pow
  | 0, n + 1 => Nat.zero_le _
  | m + 1, n + 1 => by
    have a := choose_le m n
    have b := choose_le m (n + 1)
    show choose m n + choose m (n + 1) ≤ 2 ^ (m + 1)
    rw [Nat.pow_succ]
    omega
/-- the first taken, then the rest of the greater ones -/
theorem comb_first : ∀ {qs : List Int} (n : Nat), qs.Pairwise (· < ·) → comb qs (n + 1) = qs.flatMap fun p => (comb (qs.filter fun x => decide (p < x)) n).map (p :: ·)
  | [], n, _ => rfl
  | q :: qs, n, h => by
    rw [List.pairwise_cons] at h
    show (comb qs n).map (q :: ·) ++ comb qs (n + 1) = _
    rw [List.flatMap_cons, comb_first n h.2]
    have e1 : ((q :: qs).filter fun x => decide (q < x)) = qs := by
      rw [List.filter_cons, if_neg (by rw [decide_eq_false (Int.lt_irrefl q)]; decide)]
      exact List.filter_eq_self.mpr fun x hx => decide_eq_true (h.1 x hx)
    rw [e1]
    congr 1
    rw [List.flatMap_def, List.flatMap_def]
    congr 1
    refine List.map_congr_left fun p hp => ?_
    have hq : ¬ p < q := Int.not_lt.mpr (Int.le_of_lt (h.1 p hp))
    rw [List.filter_cons, if_neg (by rw [decide_eq_false hq]; decide)]
/-- n more steps from some beginnings -/
def itI (ps : List Int) (L : List (List Int)) : Nat → List (List Int)
  | 0 => L
  | n + 1 => itI ps (L.flatMap (extI ps)) n
theorem itI_snoc (ps : List Int) : ∀ (n : Nat) (L : List (List Int)), itI ps L (n + 1) = (itI ps L n).flatMap (extI ps)
  | 0, L => rfl
  | n + 1, L => by
    show itI ps (L.flatMap (extI ps)) (n + 1) = (itI ps (L.flatMap (extI ps)) n).flatMap (extI ps)
    exact itI_snoc ps n _
theorem itI_some (ps : List Int) : ∀ n : Nat, itI ps [[]] n = someI ps n
  | 0 => rfl
  | n + 1 => by
    rw [itI_snoc, itI_some ps n]
    rfl
theorem itI_flat (ps : List Int) : ∀ (n : Nat) (L : List (List Int)), itI ps L n = L.flatMap fun c => itI ps [c] n
  | 0, L => by
    show L = L.flatMap fun c => [c]
    rw [List.flatMap_singleton']
  | n + 1, L => by
    show itI ps (L.flatMap (extI ps)) n = L.flatMap fun c => itI ps ([c].flatMap (extI ps)) n
    rw [itI_flat ps n, List.flatMap_assoc]
    congr 1
    funext c
    rw [itI_flat ps n ([c].flatMap (extI ps)), List.flatMap_cons, List.flatMap_nil, List.append_nil]
theorem goesOn_snoc (c : List Int) (p x : Int) : goesOn (c ++ [p]) x = decide (p < x) := by
  unfold goesOn
  rw [List.getLast?_append]
  rfl
theorem itI_comb {ps : List Int} (hs : ps.Pairwise (· < ·)) : ∀ (n : Nat) (c : List Int), itI ps [c] n = (comb (ps.filter (goesOn c)) n).map (c ++ ·)
  | 0, c => by
    rw [comb_zero]
    show [c] = [c ++ []]
    rw [List.append_nil]
  | n + 1, c => by
    show itI ps ([c].flatMap (extI ps)) n = _
    rw [List.flatMap_cons, List.flatMap_nil, List.append_nil, itI_flat, comb_first n (hs.filter _)]
    unfold extI
    rw [List.flatMap_map, List.map_flatMap, List.flatMap_def, List.flatMap_def]
    congr 1
    refine List.map_congr_left fun p hp => ?_
    rw [itI_comb hs n, List.map_map]
    have hgp := (List.mem_filter.mp hp).2
    have e : ps.filter (goesOn (c ++ [p])) = (ps.filter (goesOn c)).filter fun x => decide (p < x) := by
      rw [List.filter_filter]
      refine List.filter_congr fun x _ => ?_
      rw [goesOn_snoc]
      by_cases hpx : p < x
      · have hgx : goesOn c x = true := by
          unfold goesOn at hgp ⊢
          cases h : c.getLast? with
          | none => rfl
          | some l =>
            rw [h] at hgp
            have := of_decide_eq_true hgp
            exact decide_eq_true (by omega)
        rw [decide_eq_true hpx, hgx]
        rfl
      · rw [decide_eq_false hpx]
        rfl
    rw [e]
    refine List.map_congr_left fun s _ => ?_
    show (c ++ [p]) ++ s = c ++ (p :: s)
    rw [List.append_assoc]
    rfl
theorem someI_comb {ps : List Int} (hs : ps.Pairwise (· < ·)) (n : Nat) : someI ps n = comb ps n := by
  rw [← itI_some, itI_comb hs n []]
  have e : ps.filter (goesOn []) = ps := List.filter_eq_self.mpr fun x _ => rfl
  rw [e]
  show (comb ps n).map (fun x => [] ++ x) = _
  simp
theorem some_bound {ps : List Int} (hs : ps.Pairwise (· < ·)) (hl : ps.length ≤ 12) (n : Nat) : (someI ps n).length ≤ 10000 := by
  rw [someI_comb hs, comb_len]
  exact Nat.le_trans (choose_le _ _) (Nat.le_trans (Nat.pow_le_pow_right (by decide) hl) (by decide))
end SS

/-! every right deal is what is sure and one seat more for some of the tied -/
namespace SS
open PySem PySem.Spec PyProof.Rows L2 LamX
variable {w : Str} {rs : List Row} {f : List Int}
theorem sum_lt {f g : List Int} (h : f.length = g.length) (k : ∀ i < f.length, f.getD i 0 ≤ g.getD i 0) {j : Nat} (hj : j < f.length) (hs : f.getD j 0 < g.getD j 0) : f.sum < g.sum := by
  have h1 := sum_le (bump1 f j) g (by rw [bump1_len, h]) fun i hi => by
    rw [bump1_len] at hi
    unfold bump1
    rw [getD_set _ _ _ _ hj]
    by_cases e : j = i
    · rw [if_pos e, ← e]
      omega
    · rw [if_neg e]
      exact k i hi
  have h2 : (bump1 f j).sum = f.sum + 1 := by
    unfold bump1
    rw [sum_set _ _ _ hj]
    omega
  omega
/-- numbers of seats within floors and caps -/
def Seats (rs : List Row) (g : List Int) : Prop := g.length = rs.length ∧ ∀ i < rs.length, (rowAt rs i).2.1 ≤ g.getD i 0 ∧ g.getD i 0 ≤ (rowAt rs i).2.2
theorem right_low {n : Int} (hw : w ∈ ways) (g0 : ∀ r ∈ rs, GoodRow r) {d : Dealt} (O : DealOk w rs n d) {g : List Int} (hg : Seats rs g) (hs : g.sum = n) (R : Right w rs g) : ∀ k < rs.length, d.sure.getD k 0 ≤ g.getD k 0 := by
  intro k hk
  refine Int.not_lt.mp fun hlt => ?_
  have hv := vt_good g0
  have hdl := O.di.n
  have hds := O.di.s
  have hdp := O.di.p
  have ex : ∃ j, j < rs.length ∧ d.sure.getD j 0 < g.getD j 0 := by
    refine Classical.byContradiction fun hn => ?_
    have all : ∀ i < g.length, g.getD i 0 ≤ d.sure.getD i 0 := fun i hi => by
      refine Int.not_lt.mp fun c => hn ⟨i, by rw [← hg.1]; exact hi, c⟩
    have := sum_lt (by rw [hg.1, hdl]) all (j := k) (by rw [hg.1]; exact hk) hlt
    omega
  obtain ⟨j, hj, hjl⟩ := ex
  have bk := hg.2 k hk
  have bj := hg.2 j hj
  have dk := O.di.b k hk
  have dj := O.di.b j hj
  have lk := lo_good g0 k hk
  have lj := lo_good g0 j hj
  have ko : k ∈ opens rs g := opens_mem.mpr ⟨hk, by omega⟩
  have jo : j ∈ opens rs d.sure := opens_mem.mpr ⟨hj, by omega⟩
  have r1 := R j hj (by omega) k ko
  have t1 := O.top k hk (by omega) j jo
  have c1 : Le (lst w rs d.sure k) (nxt w rs g k) := cl_le hw (hv k hk) (j := g.getD k 0 + 1) (k := d.sure.getD k 0) (by omega) (by omega)
  have c2 : Le (lst w rs g j) (nxt w rs d.sure j) := cl_le hw (hv j hj) (j := d.sure.getD j 0 + 1) (k := g.getD j 0) (by omega) (by omega)
  have C1 : Cl (nxt w rs d.sure j) := cl_cl hw (hv j hj) (by omega)
  have C2 : Cl (lst w rs d.sure k) := cl_cl hw (hv k hk) (by omega)
  have C3 : Cl (nxt w rs g k) := cl_cl hw (hv k hk) (by omega)
  have C4 : Cl (lst w rs g j) := cl_cl hw (hv j hj) (by omega)
  exact Lt.irrefl (Lt.trans_le C1 C4 C1 (Lt.trans_le C1 C3 C4 (Lt.trans_le C1 C2 C3 t1 c1) r1) c2)
theorem right_high {n : Int} (hw : w ∈ ways) (g0 : ∀ r ∈ rs, GoodRow r) {d : Dealt} (O : DealOk w rs n d) {g : List Int} (hg : Seats rs g) (hs : g.sum = n) (R : Right w rs g) : ∀ k < rs.length, g.getD k 0 ≤ d.sure.getD k 0 + has k d.tied := by
  have low := right_low hw g0 O hg hs R
  have hv := vt_good g0
  have hdl := O.di.n
  have hds := O.di.s
  have hf : Nn rs d.sure := fun i hi => (di_200 O.di g0 i hi).1
  intro k hk
  refine Int.not_lt.mp fun hlt => ?_
  rcases O.fin with ⟨l0, t0, _⟩ | ⟨lp, lt, tg, _⟩
  · rw [t0, has_out (by simp), Int.add_zero] at hlt
    have := sum_lt (f := d.sure) (g := g) (by rw [hg.1, hdl]) (fun i hi => low i (by rw [← hdl]; exact hi)) (j := k) (by rw [hdl]; exact hk) hlt
    omega
  · have G := greatest_grt (f := d.sure) hw hv hf
    have ex : ∃ t, t ∈ greatest w rs d.sure ∧ g.getD t 0 = d.sure.getD t 0 := by
      refine Classical.byContradiction fun hn => ?_
      have all : ∀ i < (bump d.sure (greatest w rs d.sure)).length, (bump d.sure (greatest w rs d.sure)).getD i 0 ≤ g.getD i 0 := fun i hi => by
        rw [bump_len, hdl] at hi
        rw [bump_greatest hdl]
        have h1 := low i hi
        by_cases m : i ∈ greatest w rs d.sure
        · rw [if_pos m]
          have h2 : ¬ g.getD i 0 = d.sure.getD i 0 := fun z => hn ⟨i, m, z⟩
          omega
        · rw [if_neg m]
          omega
      have h1 := sum_le _ g (by rw [bump_len, hdl, hg.1]) all
      rw [bump_sum _ _ (greatest_lt (D := hdl))] at h1
      rw [tg] at lt
      omega
    obtain ⟨t, mt, et⟩ := ex
    have to := greatest_mem mt
    have tl := opens_lt to
    have tog : t ∈ opens rs g := opens_mem.mpr ⟨tl, by rw [et]; exact (opens_mem.mp to).2⟩
    have bk := hg.2 k hk
    have dk := O.di.b k hk
    have lk := lo_good g0 k hk
    have h01 := has_01 k d.tied
    have ko : k ∈ opens rs d.sure := opens_mem.mpr ⟨hk, by omega⟩
    have r1 := R k hk (by omega) t tog
    have en : nxt w rs g t = nxt w rs d.sure t := by
      unfold nxt
      rw [et]
    rw [en] at r1
    have C1 : Cl (nxt w rs d.sure t) := nxt_cl hw hv hf tl
    have C2 : Cl (nxt w rs d.sure k) := nxt_cl hw hv hf hk
    have C3 : Cl (lst w rs g k) := cl_cl hw (hv k hk) (by omega)
    by_cases m : k ∈ d.tied
    · rw [has_in m] at hlt
      have c1 : Lt (lst w rs g k) (nxt w rs d.sure k) := cl_lt hw (hv k hk) (j := d.sure.getD k 0 + 1) (k := g.getD k 0) (by omega) (by omega)
      have c2 := G.top t mt k ko
      exact Lt.irrefl (Lt.trans_le C3 C1 C3 (Lt.trans_le C3 C2 C1 c1 c2) r1)
    · rw [has_out m] at hlt
      have c1 : Le (lst w rs g k) (nxt w rs d.sure k) := cl_le hw (hv k hk) (j := d.sure.getD k 0 + 1) (k := g.getD k 0) (by omega) (by omega)
      rw [tg] at m
      have c2 := G.low t mt k ko m
      exact Lt.irrefl (Lt.trans_le C3 C1 C3 (Le.trans_lt C3 C2 C1 c1 c2) r1)
/-- a deal whose seats all have claims above all next ones is the only one -/
theorem strict_unique {n : Int} (hw : w ∈ ways) (g0 : ∀ r ∈ rs, GoodRow r) {d : Dealt} (O : DealOk w rs n d) {g : List Int} (hg : Seats rs g) (hs : g.sum = n) (T : Top w rs g) : d.sure = g ∧ d.tied = [] ∧ d.left = 0 := by
  have R : Right w rs g := fun k hk hu j hj => (T k hk hu j hj).le
  have low := right_low hw g0 O hg hs R
  have high := right_high hw g0 O hg hs R
  have hdl := O.di.n
  have hds := O.di.s
  have hf : Nn rs d.sure := fun i hi => (di_200 O.di g0 i hi).1
  rcases O.fin with ⟨l0, t0, _⟩ | ⟨lp, lt, tg, _⟩
  · refine ⟨list_ext (by rw [hdl, hg.1]) fun k hk => ?_, t0, l0⟩
    rw [hdl] at hk
    have h1 := low k hk
    have h2 := high k hk
    rw [t0, has_out (by simp)] at h2
    omega
  · exfalso
    have G := greatest_grt (f := d.sure) hw (vt_good g0) hf
    have ex1 : ∃ t, t ∈ greatest w rs d.sure ∧ g.getD t 0 = d.sure.getD t 0 := by
      refine Classical.byContradiction fun hn => ?_
      have h1 := sum_le (bump d.sure (greatest w rs d.sure)) g (by rw [bump_len, hdl, hg.1]) (fun i hi => by
        rw [bump_len, hdl] at hi
        rw [bump_greatest hdl]
        have h1 := low i hi
        by_cases m : i ∈ greatest w rs d.sure
        · rw [if_pos m]
          have h2 : ¬ g.getD i 0 = d.sure.getD i 0 := fun z => hn ⟨i, m, z⟩
          omega
        · rw [if_neg m]
          omega)
      rw [bump_sum _ _ (greatest_lt (D := hdl))] at h1
      rw [tg] at lt
      omega
    have ex2 : ∃ k, k < rs.length ∧ d.sure.getD k 0 < g.getD k 0 := by
      refine Classical.byContradiction fun hn => ?_
      have h1 := sum_le g d.sure (by rw [hg.1, hdl]) (fun i hi => Int.not_lt.mp fun c => hn ⟨i, by rw [← hg.1]; exact hi, c⟩)
      omega
    obtain ⟨t, mt, et⟩ := ex1
    obtain ⟨k, hk, hkl⟩ := ex2
    have hh := high k hk
    have mk : k ∈ greatest w rs d.sure := by
      rw [← tg]
      refine Classical.byContradiction fun m => ?_
      rw [has_out m] at hh
      omega
    have e1 := has_in (k := k) (S := d.tied) (by rw [tg]; exact mk)
    have ek : g.getD k 0 = d.sure.getD k 0 + 1 := by omega
    have to := greatest_mem mt
    have tl := opens_lt to
    have tog : t ∈ opens rs g := opens_mem.mpr ⟨tl, by rw [et]; exact (opens_mem.mp to).2⟩
    have dk := O.di.b k hk
    have t1 := T k hk (by omega) t tog
    have en : nxt w rs g t = nxt w rs d.sure t := by
      unfold nxt
      rw [et]
    have el : lst w rs g k = nxt w rs d.sure k := by
      unfold lst nxt
      rw [ek]
    rw [en, el] at t1
    exact not_le.mpr t1 (G.top t mt k (greatest_mem mk))
/-! ### exact shares -/
theorem share_lt {w : Str} (hw : w ∈ ways) {a b : Int} (ha : 1 ≤ a) (hb : 1 ≤ b) : a * dv w b < b * dv w (a + 1) := by
  have hab : 0 < a * b := Int.mul_pos (by omega) (by omega)
  rcases ways_cases hw with rfl | rfl | rfl | rfl | rfl
  · rw [dv_whole, dv_whole, Int.mul_add, Int.mul_comm b a]
    omega
  · rw [dv_odd, dv_odd, Int.mul_sub, Int.mul_sub, Int.mul_add, Int.mul_add, ← Int.mul_assoc, ← Int.mul_assoc, Int.mul_comm a 2, Int.mul_comm b 2, Int.mul_assoc, Int.mul_assoc, Int.mul_comm b a]
    omega
  · rw [dv_third, dv_third, Int.mul_sub, Int.mul_sub, Int.mul_add, Int.mul_add, ← Int.mul_assoc, ← Int.mul_assoc, Int.mul_comm a 3, Int.mul_comm b 3, Int.mul_assoc, Int.mul_assoc, Int.mul_comm b a]
    omega
  · rw [dv_early, dv_early, Int.mul_sub, show a + 1 - 1 = a by omega, Int.mul_comm b a]
    omega
  · rw [dv_bent, dv_bent, if_neg (by omega : ¬ a + 1 = 1)]
    by_cases e : b = 1
    · rw [if_pos e, e]
      omega
    · rw [if_neg e, Int.mul_sub, Int.mul_sub, Int.mul_add, Int.mul_add, ← Int.mul_assoc, ← Int.mul_assoc, Int.mul_comm a 10, Int.mul_comm b 10, Int.mul_assoc, Int.mul_assoc, Int.mul_comm b a]
      omega
/-- votes that are so many times the seats -/
theorem exact_top {t : Int} (ht : 1 ≤ t) (hw : w ∈ ways) {g : List Int} (hl : g.length = rs.length) (h : ∀ i < rs.length, 1 ≤ g.getD i 0 ∧ (rowAt rs i).1 = t * g.getD i 0) : Top w rs g := by
  intro k hk _ j hj
  have jl := opens_lt hj
  obtain ⟨k1, k2⟩ := h k hk
  obtain ⟨j1, j2⟩ := h j jl
  have s := share_lt hw (a := g.getD j 0) (b := g.getD k 0) j1 k1
  show (rowAt rs j).1 * dv w (g.getD k 0) < (rowAt rs k).1 * dv w (g.getD j 0 + 1)
  rw [k2, j2, Int.mul_assoc, Int.mul_assoc]
  exact Int.mul_lt_mul_of_pos_left s (by omega)
end SS

/-! list < list; Pascal's rows -/
namespace SS
open PySem PySem.Spec PyProof.Rows L2 LamX PySem.W

theorem dataLt_ints (q p : List Int) : dataLt (.list (q.map PyData.int)) (.list (p.map PyData.int)) = !decide (p ≤ q) := by
  have h := congrFun (congrFun (dataLe_rows (β := List Int) id) p) q
  have h2 : (!dataLt (.list (q.map PyData.int)) (.list (p.map PyData.int))) = decide (p ≤ q) := h
  rw [← h2, Bool.not_not]
def rLtL (K : PySem.W.Frag) : R2 := fun x y H Q => ∃ (a b : Addr) (cs ds : List Int), x = .ref a ∧ y = .ref b ∧ SqL K H a (cs.map V.int) ∧ SqL K H b (ds.map V.int) ∧ Q (.bl (!decide (ds ≤ cs))) H
theorem op_ltL {X : Cx} (hu : X.A.units + 64 < cLine) : OpR X (compareOp .Lt) (rLtL X.K) := by
  intro pins s σ H x y v u Q I rx ry h
  obtain ⟨a, b, cs, ds, rfl, rfl, h1, h2, q⟩ := h
  obtain ⟨as, r1⟩ := Dp.reads I (.list (cs.map PyData.int)) _ v (.lst h1 (dpa_ints _)) rx
  obtain ⟨bs, r2⟩ := Dp.reads I (.list (ds.map PyData.int)) _ u (.lst h2 (dpa_ints _)) ry
  refine rcLt_alike _ _ X.A s v u as bs r1 r2 (by rw [alike]; exact alike_ints _ _) (fun z => by cases z) ?_ X.prog X.w X.xe _ ?_
  · have d1 : (PyData.list (cs.map PyData.int)).depth ≤ 1 := by
      rw [PyData.depth, depth_ints]
      exact Nat.le_refl _
    have := Nat.min_le_left (PyData.list (cs.map PyData.int)).depth (PyData.list (ds.map PyData.int)).depth
    omega
  · rw [dataLt_ints]
    exact ⟨.bl _, H, I, rfl, q⟩
theorem op_ltLK {X : Cx} {K : PySem.W.Frag} (h : X.K = K) (hu : X.A.units + 64 < cLine) : OpR X (compareOp .Lt) (rLtL K) := h ▸ op_ltL hu
/-! ### Pascal -/
theorem choose_one (m : Nat) : choose m m = 1 ∧ ∀ n, m < n → choose m n = 0 := by
  induction m with
  | zero =>
    refine ⟨rfl, fun n h => ?_⟩
    cases n with
    | zero => cases h
    | succ n => rfl
  | succ m ih =>
    refine ⟨?_, fun n h => ?_⟩
    · show choose m m + choose m (m + 1) = 1
      rw [ih.1, ih.2 (m + 1) (Nat.lt_succ_self m)]
    · cases n with
      | zero => cases h
      | succ n =>
        show choose m n + choose m (n + 1) = 0
        rw [ih.2 n (by omega), ih.2 (n + 1) (by omega)]
def pascal (m : Nat) : List Int := (List.range (m + 1)).map fun k => ((choose m k : Nat) : Int)
theorem pascal_len (m : Nat) : (pascal m).length = m + 1 := by
  unfold pascal
  rw [List.length_map, List.length_range]
theorem pascal_get {m k : Nat} (h : k < m + 1) : (pascal m).getD k 0 = ((choose m k : Nat) : Int) := by
  unfold pascal
  rw [List.getD_eq_getElem?_getD, List.getElem?_map, List.getElem?_range h]
  rfl
theorem pascal_succ (m : Nat) : [1] ++ ((List.range m).map fun k => (pascal m).getD k 0 + (pascal m).getD (k + 1) 0) ++ [1] = pascal (m + 1) := by
  refine list_ext (by rw [List.length_append, List.length_append, List.length_map, List.length_range, pascal_len]; simp; omega) fun i hi => ?_
  rw [List.length_append, List.length_append, List.length_map, List.length_range] at hi
  have hi2 : i < m + 2 := by
    have : ([1] : List Int).length = 1 := rfl
    omega
  rw [pascal_get (by omega)]
  cases i with
  | zero =>
    rw [choose_zero]
    rfl
  | succ i =>
    show ((((List.range m).map fun k => (pascal m).getD k 0 + (pascal m).getD (k + 1) 0) ++ [1]) : List Int).getD i 0 = _
    by_cases h : i < m
    · rw [List.getD_eq_getElem?_getD, List.getElem?_append_left (by rw [List.length_map, List.length_range]; exact h), List.getElem?_map, List.getElem?_range h]
      show (pascal m).getD i 0 + (pascal m).getD (i + 1) 0 = _
      rw [pascal_get (by omega), pascal_get (by omega)]
      show ((choose m i : Nat) : Int) + ((choose m (i + 1) : Nat) : Int) = ((choose m i + choose m (i + 1) : Nat) : Int)
      omega
    · have e : i = m := by omega
      subst e
      rw [List.getD_eq_getElem?_getD, List.getElem?_append_right (by rw [List.length_map, List.length_range]; exact Nat.le_refl _), List.length_map, List.length_range, Nat.sub_self]
      show (1 : Int) = ((choose (i + 1) (i + 1) : Nat) : Int)
      rw [(choose_one (i + 1)).1]
      rfl
end SS

/-! all deals: how many, what they are -/
namespace SS
open PySem PySem.Spec PyProof.Rows L2 LamX
variable {w : Str} {rs : List Row} {f : List Int}
theorem comb_sub : ∀ {ps : List Int} {n : Nat} {c : List Int}, c ∈ comb ps n → c.Sublist ps ∧ c.length = n
  | ps, 0, c, h => by
    rw [comb_zero] at h
    rw [List.mem_singleton.mp h]
    exact ⟨List.nil_sublist _, rfl⟩
  | [], n + 1, c, h => by cases h
  | p :: ps, n + 1, c, h => by
    rcases List.mem_append.mp (show c ∈ (comb ps n).map (p :: ·) ++ comb ps (n + 1) from h) with h | h
    · obtain ⟨d, hd, rfl⟩ := List.mem_map.mp h
      obtain ⟨h1, h2⟩ := comb_sub hd
      exact ⟨h1.cons₂ p, congrArg Nat.succ h2⟩
    · obtain ⟨h1, h2⟩ := comb_sub h
      exact ⟨h1.cons p, h2⟩
theorem comb_nodup : ∀ {ps : List Int} (n : Nat), ps.Pairwise (· < ·) → (comb ps n).Nodup
  | ps, 0, _ => by
    rw [comb_zero]
    exact List.pairwise_singleton _ _
  | [], n + 1, _ => List.nodup_nil
  | p :: ps, n + 1, h => by
    rw [List.pairwise_cons] at h
    show ((comb ps n).map (p :: ·) ++ comb ps (n + 1)).Nodup
    rw [List.nodup_append]
    refine ⟨List.Pairwise.map _ (fun a b hne e => hne (List.cons.inj e).2) (comb_nodup n h.2), comb_nodup (n + 1) h.2, fun a ha b hb e => ?_⟩
    obtain ⟨d, _, rfl⟩ := List.mem_map.mp ha
    have h1 := (comb_sub hb).1
    rw [← e] at h1
    have := h.1 p (h1.mem (List.mem_cons_self ..))
    exact absurd this (Int.lt_irrefl _)
/-- the places of a choice -/
def nat_of (S : List Int) : List Nat := S.map Int.toNat
theorem nat_of_mem {S : List Int} {t : List Nat} (h : S.Sublist (natsI t)) {k : Nat} : k ∈ nat_of S ↔ (k : Int) ∈ S := by
  unfold nat_of
  rw [List.mem_map]
  constructor
  · rintro ⟨a, ha, rfl⟩
    obtain ⟨b, _, rfl⟩ := List.mem_map.mp (h.mem ha)
    simpa using ha
  · intro hk
    exact ⟨(k : Int), hk, Int.toNat_natCast k⟩
theorem nat_of_sub {S : List Int} {t : List Nat} (h : S.Sublist (natsI t)) : (nat_of S).Sublist t := by
  have h2 : (S.map Int.toNat).Sublist ((natsI t).map Int.toNat) := h.map _
  have e : (natsI t).map Int.toNat = t := by
    unfold natsI
    rw [List.map_map]
    exact List.map_id'' (fun x => Int.toNat_natCast x) t
  rw [e] at h2
  exact h2
theorem pickI_pick {sure S : List Int} {t : List Nat} (h : S.Sublist (natsI t)) (ht : ∀ k ∈ t, k < sure.length) : PickOf sure (pickI sure S) (nat_of S) := by
  refine ⟨by unfold pickI; rw [List.length_map, List.length_range], fun k => ?_⟩
  unfold pickI has
  by_cases hk : k < sure.length
  · rw [List.getD_eq_getElem?_getD, List.getElem?_map, List.getElem?_range hk]
    show sure.getD k 0 + (if (k : Int) ∈ S then 1 else 0) = _
    by_cases m : (k : Int) ∈ S
    · rw [if_pos m, if_pos ((nat_of_mem h).mpr m)]
    · rw [if_neg m, if_neg (fun z => m ((nat_of_mem h).mp z))]
  · rw [List.getD_eq_getElem?_getD, List.getElem?_eq_none (by rw [List.length_map, List.length_range]; omega), List.getD_eq_getElem?_getD, List.getElem?_eq_none (by omega)]
    rw [if_neg (fun m => hk (ht k ((nat_of_sub h).mem m)))]
    rfl
theorem pick_sum {g : List Int} {S : List Nat} (hn : S.Nodup) (hS : ∀ k ∈ S, k < f.length) (h : PickOf f g S) : g.sum = f.sum + S.length := by
  have e : g = bump f S := list_ext (by rw [h.1, bump_len]) fun k _ => by
    rw [h.2, bump_get S f hn hS]
    rfl
  rw [e, bump_sum S f hS]
/-- a deal told by all_deals -/
structure OneDeal (w : Str) (rs : List Row) (n : Int) (d : Dealt) (g : List Int) : Prop where
  seats : Seats rs g
  sum : g.sum = n
  right : Right w rs g
  pick : ∀ k, g.getD k 0 = d.sure.getD k 0 ∨ (k ∈ d.tied ∧ g.getD k 0 = d.sure.getD k 0 + 1)
theorem tied_lt {n : Int} {d : Dealt} (O : DealOk w rs n d) : ∀ k ∈ d.tied, k < d.sure.length := fun k hk => by
  rcases O.fin with ⟨_, t0, _⟩ | ⟨_, _, tg, _⟩
  · rw [t0] at hk
    cases hk
  · rw [tg] at hk
    rw [O.di.n]
    exact opens_lt (greatest_mem hk)
theorem tied_srt {n : Int} {d : Dealt} (O : DealOk w rs n d) : d.tied.Pairwise (· < ·) := by
  rcases O.fin with ⟨_, t0, _⟩ | ⟨_, _, tg, _⟩
  · rw [t0]
    exact .nil
  · rw [tg]
    exact opens_sorted.sublist greatest_sub
theorem natsI_up {l : List Nat} (h : l.Pairwise (· < ·)) : (natsI l).Pairwise (· < ·) := by
  unfold natsI
  rw [List.pairwise_map]
  exact h.imp fun {a b} h => by omega
theorem deals_comb {n : Int} {d : Dealt} (O : DealOk w rs n d) : dealsL d = (comb (natsI d.tied) d.left.toNat).map (pickI d.sure) := by
  unfold dealsL
  rw [someI_comb (natsI_up (tied_srt O))]
theorem deals_one {n : Int} (hw : w ∈ ways) (g0 : ∀ r ∈ rs, GoodRow r) {d : Dealt} (O : DealOk w rs n d) {g : List Int} (h : g ∈ dealsL d) : OneDeal w rs n d g := by
  rw [deals_comb O] at h
  obtain ⟨S, hS, rfl⟩ := List.mem_map.mp h
  obtain ⟨h1, h2⟩ := comb_sub hS
  have P := pickI_pick h1 (tied_lt O)
  have sub := nat_of_sub h1
  have hin : ∀ k ∈ nat_of S, k ∈ d.tied := fun k hk => sub.mem hk
  have nd : (nat_of S).Nodup := sub.nodup ((tied_srt O).imp fun h => Nat.ne_of_lt h)
  refine ⟨pick_seats O hin P, ?_, pick_right hw g0 O hin P, fun k => ?_⟩
  · rw [pick_sum nd (fun k hk => tied_lt O k (hin k hk)) P]
    have e : (nat_of S).length = d.left.toNat := by
      unfold nat_of
      rw [List.length_map, h2]
    have := O.di.s
    have := O.di.p
    omega
  · rw [P.2]
    by_cases m : k ∈ nat_of S
    · rw [has_in m]
      exact .inr ⟨hin k m, rfl⟩
    · rw [has_out m, Int.add_zero]
      exact .inl rfl
theorem deals_nodup {n : Int} {d : Dealt} (O : DealOk w rs n d) : (dealsL d).Nodup := by
  rw [deals_comb O]
  refine List.pairwise_map.mpr ((comb_nodup d.left.toNat (natsI_up (tied_srt O))).imp_of_mem fun {a b} ha hb hne e => hne ?_)
  have a1 := (comb_sub ha).1
  have b1 := (comb_sub hb).1
  have Pa := pickI_pick a1 (tied_lt O)
  have Pb := pickI_pick b1 (tied_lt O)
  have sa : a.Pairwise (· < ·) := (natsI_up (tied_srt O)).sublist a1
  have sb : b.Pairwise (· < ·) := (natsI_up (tied_srt O)).sublist b1
  refine List.Perm.eq_of_pairwise (le := (· < ·)) (fun x y _ _ h1 h2 => absurd h1 (Int.lt_asymm h2)) sa sb ?_
  refine (List.perm_ext_iff_of_nodup (sa.imp fun h => Int.ne_of_lt h) (sb.imp fun h => Int.ne_of_lt h)).mpr fun x => ?_
  have key : ∀ k : Nat, (k : Int) ∈ a ↔ (k : Int) ∈ b := fun k => by
    have e2 : (pickI d.sure a).getD k 0 = (pickI d.sure b).getD k 0 := by rw [e]
    rw [Pa.2, Pb.2] at e2
    have e3 : has k (nat_of a) = has k (nat_of b) := by omega
    rw [← nat_of_mem a1, ← nat_of_mem b1]
    constructor
    · intro m
      refine Classical.byContradiction fun z => ?_
      rw [has_in m, has_out z] at e3
      cases e3
    · intro m
      refine Classical.byContradiction fun z => ?_
      rw [has_in m, has_out z] at e3
      cases e3
  constructor
  · intro hx
    obtain ⟨k, _, rfl⟩ := List.mem_map.mp (a1.mem hx)
    exact (key k).mp hx
  · intro hx
    obtain ⟨k, _, rfl⟩ := List.mem_map.mp (b1.mem hx)
    exact (key k).mpr hx
theorem allL_len {n : Int} {d : Dealt} (O : DealOk w rs n d) : (allL d).length = choose d.tied.length d.left.toNat := by
  unfold allL
  rw [List.length_mergeSort, deals_comb O, List.length_map, comb_len, natsI_len]
theorem allL_mem {d : Dealt} {g : List Int} : g ∈ allL d ↔ g ∈ dealsL d := (List.mergeSort_perm _ _).mem_iff
theorem allL_rise {n : Int} {d : Dealt} (O : DealOk w rs n d) : (allL d).Pairwise fun a b => ¬ b ≤ a := by
  have h1 : (allL d).Pairwise fun a b => decide (a ≤ b) = true := List.pairwise_mergeSort (le := fun x y : List Int => decide (x ≤ y)) (fun a b c h1 h2 => decide_eq_true (List.le_trans (of_decide_eq_true h1) (of_decide_eq_true h2))) (fun a b => by
    rw [Bool.or_eq_true, decide_eq_true_eq, decide_eq_true_eq]
    exact List.le_total a b) _
  have h2 : (allL d).Nodup := (List.mergeSort_perm _ _).nodup_iff.mpr (deals_nodup O)
  exact h1.imp₂ (fun {a b} h h' z => h' (List.le_antisymm (of_decide_eq_true h) z)) h2
end SS

/-! every right deal is told -/
namespace SS
open PySem PySem.Spec PyProof.Rows L2 LamX
variable {w : Str} {rs : List Row} {f : List Int}
theorem comb_mem : ∀ {ps c : List Int}, c.Sublist ps → c ∈ comb ps c.length
  | [], c, h => by
    rw [List.sublist_nil.mp h]
    exact List.mem_singleton.mpr rfl
  | p :: ps, [], _ => by
    show [] ∈ comb (p :: ps) 0
    rw [comb_zero]
    exact List.mem_singleton.mpr rfl
  | p :: ps, x :: c, h => by
    show x :: c ∈ (comb ps c.length).map (p :: ·) ++ comb ps (c.length + 1)
    cases h with
    | cons _ h => exact List.mem_append_right _ (comb_mem h)
    | cons_cons _ h => exact List.mem_append_left _ (List.mem_map.mpr ⟨c, comb_mem h, rfl⟩)
theorem natsI_mem {l : List Nat} {k : Nat} : (k : Int) ∈ natsI l ↔ k ∈ l := by
  unfold natsI
  rw [List.mem_map]
  constructor
  · rintro ⟨a, ha, e⟩
    have : a = k := by omega
    rw [← this]
    exact ha
  · intro h
    exact ⟨k, h, rfl⟩
theorem right_told {n : Int} (hw : w ∈ ways) (g0 : ∀ r ∈ rs, GoodRow r) {d : Dealt} (O : DealOk w rs n d) {g : List Int} (hg : Seats rs g) (hs : g.sum = n) (R : Right w rs g) : g ∈ dealsL d := by
  have low := right_low hw g0 O hg hs R
  have high := right_high hw g0 O hg hs R
  have hdl := O.di.n
  have hds := O.di.s
  have hdp := O.di.p
  let S := d.tied.filter fun k => decide (d.sure.getD k 0 < g.getD k 0)
  have sub : S.Sublist d.tied := List.filter_sublist
  have sI : (natsI S).Sublist (natsI d.tied) := sub.map _
  have P : PickOf d.sure g S := by
    refine ⟨by rw [hg.1, hdl], fun k => ?_⟩
    by_cases hk : k < rs.length
    · have h1 := low k hk
      have h2 := high k hk
      by_cases m : k ∈ S
      · have h3 := (List.mem_filter.mp m)
        rw [has_in h3.1] at h2
        have h4 := of_decide_eq_true h3.2
        rw [has_in m]
        omega
      · rw [has_out m]
        by_cases mt : k ∈ d.tied
        · have h3 : ¬ d.sure.getD k 0 < g.getD k 0 := fun z => m (List.mem_filter.mpr ⟨mt, decide_eq_true z⟩)
          omega
        · rw [has_out mt] at h2
          omega
    · rw [has_out (fun m => hk (by rw [← hdl]; exact tied_lt O k (sub.mem m)))]
      rw [List.getD_eq_getElem?_getD, List.getElem?_eq_none (by rw [hg.1]; omega), List.getD_eq_getElem?_getD, List.getElem?_eq_none (by rw [hdl]; omega)]
      rfl
  have nd : S.Nodup := sub.nodup ((tied_srt O).imp fun h => Nat.ne_of_lt h)
  have hsum := pick_sum nd (fun k hk => tied_lt O k (sub.mem hk)) P
  have hlen : S.length = d.left.toNat := by omega
  rw [deals_comb O]
  refine List.mem_map.mpr ⟨natsI S, ?_, ?_⟩
  · have h := comb_mem sI
    rw [natsI_len, hlen] at h
    exact h
  · have Q := pickI_pick (sure := d.sure) sI (tied_lt O)
    refine list_ext (by rw [Q.1, P.1]) fun k _ => ?_
    rw [Q.2, P.2]
    have e : k ∈ nat_of (natsI S) ↔ k ∈ S := by rw [nat_of_mem sI, natsI_mem]
    unfold has
    by_cases m : k ∈ S
    · rw [if_pos m, if_pos (e.mpr m)]
    · rw [if_neg m, if_neg (fun z => m (e.mp z))]
end SS

/-! all numbers within floors and caps, tried one by one -/
namespace SS
open PySem PySem.Spec PyProof.Rows L2 LamX
variable {w : Str} {rs : List Row} {f : List Int}
/-- from lo to hi -/
def rng (lo hi : Int) : List Int := (List.range (hi + 1 - lo).toNat).map fun (k : Nat) => lo + (k : Int)
theorem rng_mem {lo hi x : Int} : x ∈ rng lo hi ↔ lo ≤ x ∧ x ≤ hi := by
  unfold rng
  rw [List.mem_map]
  constructor
  · rintro ⟨k, hk, rfl⟩
    have := List.mem_range.mp hk
    omega
  · rintro ⟨h1, h2⟩
    exact ⟨(x - lo).toNat, List.mem_range.mpr (by omega), by omega⟩
def tryStep (r : Row) (c : List Int) : List (List Int) := (rng r.2.1 r.2.2).map fun m => c ++ [m]
def tryL (rs : List Row) : List (List Int) := rs.foldl (fun L r => L.flatMap (tryStep r)) [[]]
/-- the same, from the front -/
def tryF : List Row → List (List Int)
  | [] => [[]]
  | r :: rs => (rng r.2.1 r.2.2).flatMap fun m => (tryF rs).map (m :: ·)
theorem try_fold : ∀ (rs : List Row) (L : List (List Int)), rs.foldl (fun L r => L.flatMap (tryStep r)) L = L.flatMap fun c => (tryF rs).map (c ++ ·)
  | [], L => by
    show L = L.flatMap fun c => [c ++ []]
    have e : (fun c : List Int => [c ++ []]) = fun c => [c] := by
      funext c
      rw [List.append_nil]
    rw [e, List.flatMap_singleton']
  | r :: rs, L => by
    rw [List.foldl_cons, try_fold rs, List.flatMap_assoc]
    congr 1
    funext c
    unfold tryStep
    show _ = ((rng r.2.1 r.2.2).flatMap fun m => (tryF rs).map (m :: ·)).map (c ++ ·)
    rw [List.flatMap_map, List.map_flatMap]
    congr 1
    funext m
    rw [List.map_map]
    refine List.map_congr_left fun s _ => ?_
    show (c ++ [m]) ++ s = c ++ (m :: s)
    rw [List.append_assoc]
    rfl
theorem tryL_F (rs : List Row) : tryL rs = tryF rs := by
  unfold tryL
  rw [try_fold rs [[]], List.flatMap_cons, List.flatMap_nil, List.append_nil]
  show (tryF rs).map (fun x => [] ++ x) = _
  simp
theorem tryF_mem : ∀ {rs : List Row} {c : List Int}, c ∈ tryF rs ↔ Seats rs c
  | [], c => by
    constructor
    · intro h
      rw [List.mem_singleton.mp h]
      exact ⟨rfl, fun i hi => by cases hi⟩
    · rintro ⟨h, _⟩
      rw [List.length_eq_zero_iff.mp h]
      exact List.mem_singleton.mpr rfl
  | r :: rs, c => by
    show c ∈ ((rng r.2.1 r.2.2).flatMap fun m => (tryF rs).map (m :: ·)) ↔ _
    rw [List.mem_flatMap]
    constructor
    · rintro ⟨m, hm, hc⟩
      obtain ⟨s, hs, rfl⟩ := List.mem_map.mp hc
      obtain ⟨h1, h2⟩ := tryF_mem.mp hs
      refine ⟨congrArg Nat.succ h1, fun i hi => ?_⟩
      cases i with
      | zero => exact rng_mem.mp hm
      | succ i => exact h2 i (Nat.lt_of_succ_lt_succ hi)
    · rintro ⟨h1, h2⟩
      cases c with
      | nil => cases h1
      | cons m s =>
        refine ⟨m, rng_mem.mpr (h2 0 (Nat.zero_lt_succ _)), List.mem_map.mpr ⟨s, tryF_mem.mpr ⟨Nat.succ.inj h1, fun i hi => h2 (i + 1) (Nat.succ_lt_succ hi)⟩, rfl⟩⟩
theorem rng_rise (lo hi : Int) : (rng lo hi).Pairwise (· < ·) := by
  unfold rng
  rw [List.pairwise_map]
  exact List.pairwise_lt_range.imp fun {a b} h => by omega
theorem tryF_rise : ∀ rs : List Row, (tryF rs).Pairwise fun a b => a < b
  | [] => List.pairwise_singleton _ _
  | r :: rs => by
    show ((rng r.2.1 r.2.2).flatMap fun m => (tryF rs).map (m :: ·)).Pairwise _
    rw [List.pairwise_flatMap]
    refine ⟨fun m _ => List.pairwise_map.mpr ((tryF_rise rs).imp fun {a b} h => ?_), (rng_rise _ _).imp fun {m k} h x hx y hy => ?_⟩
    · exact List.cons_lt_cons_iff.mpr (.inr ⟨rfl, h⟩)
    · obtain ⟨a, _, rfl⟩ := List.mem_map.mp hx
      obtain ⟨b, _, rfl⟩ := List.mem_map.mp hy
      exact List.cons_lt_cons_iff.mpr (.inl h)
/-- the right ones of all tried that come to n are those told -/
theorem tried_told {n : Int} (hw : w ∈ ways) (g0 : ∀ r ∈ rs, GoodRow r) {d : Dealt} (O : DealOk w rs n d) : ((tryL rs).filter (rightB w rs)).filter (fun g => decide (g.sum = n)) = allL d := by
  rw [tryL_F]
  have r1 : (((tryF rs).filter (rightB w rs)).filter (fun g => decide (g.sum = n))).Pairwise fun a b : List Int => a < b := ((tryF_rise rs).filter _).filter _
  have r2 : (allL d).Pairwise fun a b : List Int => a < b := (allL_rise O).imp fun {a b} h => List.not_le.mp h
  refine List.Perm.eq_of_pairwise (le := fun a b : List Int => a < b) (fun x y _ _ h1 h2 => absurd h1 (List.lt_asymm h2)) r1 r2 ?_
  refine (List.perm_ext_iff_of_nodup (r1.imp fun {a b} h e => by rw [e] at h; exact List.lt_irrefl _ h) (r2.imp fun {a b} h e => by rw [e] at h; exact List.lt_irrefl _ h)).mpr fun g => ?_
  rw [List.mem_filter, List.mem_filter, tryF_mem, rightB_iff, decide_eq_true_eq, allL_mem]
  constructor
  · rintro ⟨⟨h1, h2⟩, h3⟩
    exact right_told hw g0 O h1 h3 h2
  · intro h
    have := deals_one hw g0 O h
    exact ⟨⟨this.seats, this.right⟩, this.sum⟩
end SS

/-! trying, turn by turn; sums of a column; lists of lists put together -/
namespace SS
open PySem PySem.Spec PyProof.Rows L2 LamX
variable {w : Str} {rs : List Row} {f : List Int}
theorem u65 {k : Nat} {A : Around} (r : Room k A) : A.units + 65 < cLine := by
  have := r.un
  omega
theorem op_inDK {X : Cx} {K : PySem.W.Frag} (h : X.K = K) (hu : X.A.units + 65 < cLine) : OpR X (compareOp .In) (rInD K) := h ▸ op_inD hu
theorem tryL_succ {j : Nat} {r : Row} (h : rs[j]? = some r) : tryL (rs.take (j + 1)) = (tryL (rs.take j)).flatMap (tryStep r) := by
  unfold tryL
  rw [List.take_add_one, h, Option.toList_some, List.foldl_append]
  rfl
theorem tryStep_len {r : Row} (h : r.2.2 ≤ r.2.1 + 3) (c : List Int) : (tryStep r c).length ≤ 4 := by
  unfold tryStep rng
  rw [List.length_map, List.length_map, List.length_range]
  omega
theorem flat_len {r : Row} (h : r.2.2 ≤ r.2.1 + 3) : ∀ L : List (List Int), (L.flatMap (tryStep r)).length ≤ 4 * L.length
  | [] => by
    show 0 ≤ _
    exact Nat.zero_le _
  | c :: L => by
    rw [List.flatMap_cons, List.length_append, List.length_cons]
    have h1 := tryStep_len h c
    have h2 := flat_len h L
    omega
theorem try_len (h : ∀ r ∈ rs, r.2.2 ≤ r.2.1 + 3) : ∀ j : Nat, (tryL (rs.take j)).length ≤ 4 ^ j
  | 0 => by
    show (tryL []).length ≤ _
    exact Nat.le_refl 1
  | j + 1 => by
    have ih := try_len h j
    cases e : rs[j]? with
    | none =>
      rw [List.take_add_one, e, Option.toList_none, List.append_nil, Nat.pow_succ]
      omega
    | some r =>
      rw [tryL_succ e, Nat.pow_succ]
      have := flat_len (h r (List.mem_of_getElem? e)) (tryL (rs.take j))
      omega
theorem try_len64 (h : ∀ r ∈ rs, r.2.2 ≤ r.2.1 + 3) (hl : rs.length ≤ 3) {j : Nat} (hj : j ≤ rs.length) : (tryL (rs.take j)).length ≤ 64 :=
  Nat.le_trans (try_len h j) (Nat.le_trans (Nat.pow_le_pow_right (by decide) (Nat.le_trans hj hl)) (by decide))
theorem any_eqvL (gs : List (List Int)) (g : List Int) : ((gs.map fun c => PyData.list (c.map PyData.int)).any fun z => PyData.eqv z (.list (g.map PyData.int))) = decide (g ∈ gs) := by
  induction gs with
  | nil => rfl
  | cons c gs ih =>
    rw [List.map_cons, List.any_cons, ih, eqv_ints]
    by_cases h : c = g
    · subst h
      rw [decide_eq_true rfl, Bool.true_or, decide_eq_true (List.mem_cons_self ..)]
    · rw [decide_eq_false h, Bool.false_or]
      refine decide_eq_decide.mpr ⟨fun m => List.mem_cons_of_mem _ m, fun m => ?_⟩
      rcases List.mem_cons.mp m with m | m
      · exact absurd m.symm h
      · exact m
theorem eqvL_nil (gs : List (List Int)) : PyData.eqv (llsD gs) (.list []) = decide (gs = []) := by
  unfold llsD
  rw [eqv_nil]
  cases gs with
  | nil => rfl
  | cons c gs => rfl
theorem lls_app {H : Hp} {p q : Addr} {xs ys : List V} {ls ms : List (List Int)} (h : Lls H p xs ls) (h2 : Lls H q ys ms) (hn : ∀ y ∈ ys, y ≠ V.ref p) : Lls (upd H p (.lst (xs ++ ys))) p (xs ++ ys) (ls ++ ms) := by
  refine ⟨upd_same, by rw [List.length_append, List.length_append, h.n, h2.n], fun i x s h1 h3 => ?_⟩
  by_cases hi : i < xs.length
  · rw [List.getElem?_append_left hi] at h1
    rw [List.getElem?_append_left (by rw [← h.n]; exact hi)] at h3
    obtain ⟨a, h4, h5, h6⟩ := h.at_ i x s h1 h3
    exact ⟨a, h4, h5, by rw [upd_ne h5]; exact h6⟩
  · rw [List.getElem?_append_right (Nat.not_lt.mp hi)] at h1
    rw [List.getElem?_append_right (by rw [← h.n]; exact Nat.not_lt.mp hi), ← h.n] at h3
    obtain ⟨a, h4, h5, h6⟩ := h2.at_ _ x s h1 h3
    have hap : a ≠ p := fun z => hn x (List.mem_of_getElem? h1) (by rw [h4, z])
    exact ⟨a, h4, hap, by rw [upd_ne hap]; exact h6⟩
theorem sum_nn : ∀ {l : List Int}, (∀ x ∈ l, 0 ≤ x) → 0 ≤ l.sum
  | [], _ => Int.le_refl _
  | x :: l, h => by
    have h1 := h x (List.mem_cons_self ..)
    have h2 := sum_nn fun y hy => h y (List.mem_cons_of_mem _ hy)
    rw [List.sum_cons]
    omega
theorem sum_ub {m : Int} : ∀ {l : List Int}, (∀ x ∈ l, x ≤ m) → l.sum ≤ m * l.length
  | [], _ => by
    show (0 : Int) ≤ m * ((0 : Nat) : Int)
    omega
  | x :: l, h => by
    have h1 := h x (List.mem_cons_self ..)
    have h2 := sum_ub fun y hy => h y (List.mem_cons_of_mem _ hy)
    rw [List.sum_cons, List.length_cons, Int.natCast_add, Int.mul_add]
    omega
theorem good_sums (hg : Good rs) : 0 ≤ (lows rs).sum ∧ (lows rs).sum ≤ (caps rs).sum ∧ (caps rs).sum ≤ 2400 := by
  refine ⟨sum_nn fun x hx => ?_, ?_, ?_⟩
  · obtain ⟨r, hr, rfl⟩ := List.mem_map.mp hx
    exact (hg.2.2 r hr).2.2.1
  · refine sum_le _ _ (by rw [lows_len, caps_len]) fun i hi => ?_
    rw [low_get, cap_get]
    rw [lows_len] at hi
    exact (row_good hg.2.2 hi).2.2.2.1
  · have h := sum_ub (m := 200) (l := caps rs) fun x hx => by
      obtain ⟨r, hr, rfl⟩ := List.mem_map.mp hx
      exact (hg.2.2 r hr).2.2.2.2
    rw [caps_len] at h
    have := hg.2.1
    omega
end SS

/-! more votes -/
namespace SS
open PySem PySem.Spec PyProof.Rows L2 LamX
variable {w : Str} {rs rs' : List Row} {f g : List Int}
theorem dv_pos (hw : w ∈ ways) {c : Int} (h1 : 1 ≤ c) (h2 : w = "early" → 2 ≤ c) : 0 < dv w c := by
  rcases ways_cases hw with rfl | rfl | rfl | rfl | rfl
  · rw [dv_whole]
    omega
  · rw [dv_odd]
    omega
  · rw [dv_third]
    omega
  · rw [dv_early]
    have := h2 rfl
    omega
  · rw [dv_bent]
    split <;> omega
/-- a row with other votes: the one has more, the other no more -/
structure Chg (one other k : Nat) (r r' : Row) : Prop where
  same : r'.2 = r.2
  good : GoodRow r'
  more : k = one → r.1 < r'.1
  less : k = other → k ≠ one → r'.1 ≤ r.1
theorem more_votes (hw : w ∈ ways) {i j : Nat} (hi : i < rs.length) (hj : j < rs.length) (hl : rs'.length = rs.length) (g0 : ∀ r ∈ rs, GoodRow r) (hc : ∀ k < rs.length, Chg i j k (rowAt rs k) (rowAt rs' k))
    (he : w = "early" → 1 ≤ (rowAt rs j).2.1) (F : Seats rs f) (G : Seats rs' g) (R : Right w rs f) (R' : Right w rs' g) (a : g.getD i 0 < f.getD i 0) (b : f.getD j 0 < g.getD j 0) : False := by
  have hij : j ≠ i := fun e => by
    rw [e] at b
    omega
  have ci := hc i hi
  have cj := hc j hj
  have si : (rowAt rs' i).2 = (rowAt rs i).2 := ci.same
  have sj : (rowAt rs' j).2 = (rowAt rs j).2 := cj.same
  have fi := F.2 i hi
  have fj := F.2 j hj
  have gi := G.2 i (by omega)
  have gj := G.2 j (by omega)
  rw [si] at gi
  rw [sj] at gj
  have li := (row_good g0 hi).2.2.1
  have lj := (row_good g0 hj).2.2.1
  have r1 : (rowAt rs j).1 * dv w (f.getD i 0) ≤ (rowAt rs i).1 * dv w (f.getD j 0 + 1) := R i hi (by omega) j (opens_mem.mpr ⟨hj, by omega⟩)
  have r2 : (rowAt rs' i).1 * dv w (g.getD j 0) ≤ (rowAt rs' j).1 * dv w (g.getD i 0 + 1) := R' j (by omega) (by rw [sj]; omega) i (opens_mem.mpr ⟨by omega, by rw [si]; omega⟩)
  have d1 : dv w (g.getD i 0 + 1) ≤ dv w (f.getD i 0) := dv_le hw (by omega) (by omega)
  have d2 : dv w (f.getD j 0 + 1) ≤ dv w (g.getD j 0) := dv_le hw (by omega) (by omega)
  have d3 : 0 < dv w (f.getD j 0 + 1) := dv_pos hw (by omega) fun e => by
    have := he e
    omega
  have d4 : 0 ≤ dv w (f.getD i 0) := (dv_bound hw (by omega)).1
  have v1 := ci.good.1
  have v2 := cj.good.1
  have m1 := ci.more rfl
  have m2 := cj.less rfl hij
  have e1 : (rowAt rs' i).1 * dv w (f.getD j 0 + 1) ≤ (rowAt rs' i).1 * dv w (g.getD j 0) := Int.mul_le_mul_of_nonneg_left d2 (by omega)
  have e2 : (rowAt rs' j).1 * dv w (g.getD i 0 + 1) ≤ (rowAt rs' j).1 * dv w (f.getD i 0) := Int.mul_le_mul_of_nonneg_left d1 (by omega)
  have e3 : (rowAt rs' j).1 * dv w (f.getD i 0) ≤ (rowAt rs j).1 * dv w (f.getD i 0) := Int.mul_le_mul_of_nonneg_right m2 d4
  have e4 : (rowAt rs i).1 * dv w (f.getD j 0 + 1) < (rowAt rs' i).1 * dv w (f.getD j 0 + 1) := Int.mul_lt_mul_of_pos_right m1 d3
  omega
theorem chg_lows (hl : rs'.length = rs.length) {i j : Nat} (hc : ∀ k < rs.length, Chg i j k (rowAt rs k) (rowAt rs' k)) : lows rs' = lows rs ∧ caps rs' = caps rs := by
  constructor
  · refine list_ext (by rw [lows_len, lows_len, hl]) fun k hk => ?_
    rw [lows_len, hl] at hk
    rw [low_get, low_get, (hc k hk).same]
  · refine list_ext (by rw [caps_len, caps_len, hl]) fun k hk => ?_
    rw [caps_len, hl] at hk
    rw [cap_get, cap_get, (hc k hk).same]
theorem rowAt_app {i : Nat} {r : Row} (rs : List Row) : rowAt (rs ++ [r]) i = if i < rs.length then rowAt rs i else if i = rs.length then r else rw0 := by
  unfold rowAt
  rw [List.getD_eq_getElem?_getD, List.getD_eq_getElem?_getD]
  by_cases h : i < rs.length
  · rw [if_pos h, List.getElem?_append_left h]
  · rw [if_neg h, List.getElem?_append_right (Nat.not_lt.mp h)]
    by_cases e : i = rs.length
    · rw [if_pos e, e, Nat.sub_self]
      rfl
    · rw [if_neg e, List.getElem?_eq_none (by show 1 ≤ i - rs.length; omega)]
      rfl
theorem rowAt_set {i k : Nat} {r : Row} (h : i < rs.length) : rowAt (rs.set i r) k = if k = i then r else rowAt rs k := by
  unfold rowAt
  rw [List.getD_eq_getElem?_getD, List.getD_eq_getElem?_getD, List.getElem?_set]
  by_cases e : k = i
  · rw [if_pos e, if_pos e.symm, if_pos h]
    rfl
  · rw [if_neg e, if_neg (fun z => e z.symm)]
/-- a row is exchanged -/
theorem rws_set {K : PySem.W.Frag} {H : Hp} {p t : Addr} {xs : List V} {r : Row} {i : Nat} (h : Rws K H p xs rs) (hp : H p = some (.lst xs)) (ht : SqT K H t [.int r.1, .int r.2.1, .int r.2.2]) (hi : i < rs.length) : Rws K (upd H p (.lst (xs.set i (.ref t)))) p (xs.set i (.ref t)) (rs.set i r) := by
  refine ⟨sqL upd_same, by rw [List.length_set, List.length_set, h.n], fun k x s h1 h2 => ?_⟩
  rw [List.getElem?_set] at h1 h2
  by_cases e : i = k
  · rw [if_pos e, if_pos (by rw [h.n]; exact hi)] at h1
    rw [if_pos e, if_pos hi] at h2
    cases h1
    cases h2
    exact ⟨t, rfl, tup_mut hp ht⟩
  · rw [if_neg e] at h1 h2
    obtain ⟨a, h3, h4⟩ := h.at_ k x s h1 h2
    exact ⟨a, h3, tup_mut hp h4⟩
end SS

/-! how many seats some places have together, at the least and at the most -/
namespace SS
open PySem PySem.Spec PyProof.Rows L2 LamX
variable {w : Str} {rs : List Row} {f : List Int}
theorem seqIx {i n : Nat} (h : i < n) : seqIndex? (i : Int) n = some i := by
  unfold seqIndex?
  rw [if_neg (show ¬ (i : Int) < 0 by omega)]
  show (if (decide (0 ≤ (i : Int)) && decide ((i : Int) < (n : Int))) = true then _ else _) = _
  rw [decide_eq_true (show 0 ≤ (i : Int) by omega), decide_eq_true (show (i : Int) < (n : Int) by omega)]
  rfl
/-- how many of P stand in S -/
def cnt (P S : List Nat) : Int := (P.map fun k => has k S).sum
theorem cnt_nil (P : List Nat) : cnt P [] = 0 := by
  unfold cnt
  induction P with
  | nil => rfl
  | cons p P ih =>
    rw [List.map_cons, List.sum_cons, ih, has_out (by simp)]
    rfl
theorem has_cons {p x : Nat} {L : List Nat} : has p (x :: L) = if p = x then 1 else has p L := by
  by_cases e : p = x
  · rw [if_pos e, has_in (by rw [e]; exact List.mem_cons_self ..)]
  · rw [if_neg e]
    by_cases m : p ∈ L
    · rw [has_in m, has_in (List.mem_cons_of_mem _ m)]
    · rw [has_out m, has_out]
      intro z
      rcases List.mem_cons.mp z with z | z
      · exact e z
      · exact m z
theorem cnt_cons : ∀ {P : List Nat}, P.Nodup → ∀ {x : Nat} {L : List Nat}, x ∉ L → cnt P (x :: L) = cnt P L + has x P
  | [], _, x, L, _ => by
    rw [has_out (by simp)]
    rfl
  | p :: P, hP, x, L, hx => by
    rw [List.nodup_cons] at hP
    have ih := cnt_cons hP.2 hx
    show has p (x :: L) + cnt P (x :: L) = has p L + cnt P L + has x (p :: P)
    rw [ih, has_cons, has_cons]
    by_cases e : p = x
    · subst e
      rw [if_pos rfl, if_pos rfl, has_out hx, has_out hP.1]
      omega
    · rw [if_neg e, if_neg (fun z => e z.symm)]
      omega
theorem cnt_len {P : List Nat} (hP : P.Nodup) : ∀ {L : List Nat}, L.Nodup → cnt P L = ((L.filter fun k => decide (k ∈ P)).length : Nat)
  | [], _ => cnt_nil P
  | x :: L, h => by
    rw [List.nodup_cons] at h
    rw [cnt_cons hP h.1, cnt_len hP h.2, List.filter_cons]
    by_cases m : x ∈ P
    · rw [has_in m, if_pos (decide_eq_true m), List.length_cons]
      omega
    · rw [has_out m, if_neg (by rw [decide_eq_false m]; decide)]
      omega
theorem cnt_filter (P S : List Nat) : cnt P S = ((P.filter fun k => decide (k ∈ S)).length : Nat) := by
  unfold cnt
  induction P with
  | nil => rfl
  | cons p P ih =>
    rw [List.map_cons, List.sum_cons, ih, List.filter_cons]
    by_cases m : p ∈ S
    · rw [has_in m, if_pos (decide_eq_true m), List.length_cons]
      omega
    · rw [has_out m, if_neg (by rw [decide_eq_false m]; decide)]
      omega
theorem filter_split (P : List Nat) : ∀ l : List Nat, (l.filter fun k => !decide (k ∈ P)).length + (l.filter fun k => decide (k ∈ P)).length = l.length
  | [] => rfl
  | x :: l => by
    have ih := filter_split P l
    rw [List.filter_cons, List.filter_cons, List.length_cons]
    by_cases m : x ∈ P
    · rw [decide_eq_true m, if_neg (by decide), if_pos rfl, List.length_cons]
      omega
    · rw [decide_eq_false m, if_pos (show (!false) = true from rfl), if_neg (show ¬ (false = true) by decide), List.length_cons]
      omega
/-- a right deal, by the tied ones that it takes -/
structure Pk (w : Str) (rs : List Row) (n : Int) (d : Dealt) (g : List Int) (S : List Nat) : Prop where
  sub : ∀ k ∈ S, k ∈ d.tied
  pick : PickOf d.sure g S
  seats : Seats rs g
  right : Right w rs g
  sum : g.sum = n
theorem pk_of {n : Int} (hw : w ∈ ways) (g0 : ∀ r ∈ rs, GoodRow r) {d : Dealt} (O : DealOk w rs n d) {S : List Nat} (hS : ∀ k ∈ S, k ∈ d.tied) (hn : S.Nodup) (hl : (S.length : Int) = d.left) : ∃ g, Pk w rs n d g S := by
  have lt : ∀ k ∈ S, k < d.sure.length := fun k hk => tied_lt O k (hS k hk)
  have P : PickOf d.sure (bump d.sure S) S := ⟨bump_len _ _, fun k => by
    rw [bump_get S d.sure hn lt]
    rfl⟩
  refine ⟨bump d.sure S, hS, P, pick_seats O hS P, pick_right hw g0 O hS P, ?_⟩
  rw [bump_sum S d.sure lt]
  have := O.di.s
  omega
theorem left_le {n : Int} {d : Dealt} (O : DealOk w rs n d) : 0 ≤ d.left ∧ d.left ≤ d.tied.length := by
  refine ⟨O.di.p, ?_⟩
  rcases O.fin with ⟨z, z2, _⟩ | ⟨_, z, _, _⟩
  · rw [z2, z]
    exact Int.le_refl _
  · omega
theorem tied_nodup {n : Int} {d : Dealt} (O : DealOk w rs n d) : d.tied.Nodup := (tied_srt O).imp fun h => Nat.ne_of_lt h
/-- where a last claim is alike to a next one -/
theorem tie_split {n : Int} (hw : w ∈ ways) (g0 : ∀ r ∈ rs, GoodRow r) {d : Dealt} (O : DealOk w rs n d) {g : List Int} {S : List Nat} (K : Pk w rs n d g S) {i k : Nat} (hi : i < rs.length) (hu : (rowAt rs i).2.1 < g.getD i 0) (hk : k ∈ opens rs g) (h : Le (lst w rs g i) (nxt w rs g k)) :
    i ∈ S ∧ k ∈ d.tied ∧ k ∉ S := by
  have hv := vt_good g0
  have hf : Nn rs d.sure := fun i hi => (di_200 O.di g0 i hi).1
  have hg : Nn rs g := fun i hi => by
    have := K.seats.2 i hi
    have := lo_good g0 i hi
    omega
  have G := greatest_grt (f := d.sure) hw hv hf
  have kl := opens_lt hk
  have h01 := has_01 k S
  have ek := K.pick.2 k
  have ei := K.pick.2 i
  have li := lo_good g0 i hi
  have ko : k ∈ opens rs d.sure := opens_mem.mpr ⟨kl, by have := (opens_mem.mp hk).2; omega⟩
  have c1 : Le (nxt w rs g k) (nxt w rs d.sure k) := by
    have := hf k kl
    refine cl_le hw (hv k kl) (j := d.sure.getD k 0 + 1) (k := g.getD k 0 + 1) (by omega) (by omega)
  have C1 : Cl (lst w rs g i) := cl_cl hw (hv i hi) (by omega)
  have C2 : Cl (nxt w rs g k) := nxt_cl hw hv hg kl
  have C3 : Cl (nxt w rs d.sure k) := nxt_cl hw hv hf kl
  have m : i ∈ S := by
    refine Classical.byContradiction fun m => ?_
    rw [has_out m, Int.add_zero] at ei
    have e : lst w rs g i = lst w rs d.sure i := by
      unfold lst
      rw [ei]
    have t := O.top i hi (by omega) k ko
    rw [← e] at t
    exact Lt.irrefl (Lt.trans_le C3 C1 C3 t (Le.trans C1 C2 C3 h c1))
  have mt := K.sub i m
  rw [has_in m] at ei
  have e : lst w rs g i = nxt w rs d.sure i := by
    unfold lst nxt
    rw [ei]
  have tg : d.tied = greatest w rs d.sure := by
    rcases O.fin with ⟨_, t0, _⟩ | ⟨_, _, tg, _⟩
    · rw [t0] at mt
      cases mt
    · exact tg
  rw [e] at h C1
  have mg := mt
  rw [tg] at mg
  have nk : k ∉ S := fun z => by
    have ek := K.pick.2 k
    rw [has_in z] at ek
    have h0 := hf k kl
    have c2 : Lt (nxt w rs g k) (nxt w rs d.sure k) := cl_lt hw (hv k kl) (j := d.sure.getD k 0 + 1) (k := g.getD k 0 + 1) (by omega) (by omega)
    exact Lt.irrefl (Lt.trans_le C2 C3 C2 c2 (Le.trans C3 C1 C2 (G.top i mg k ko) h))
  refine ⟨m, ?_, nk⟩
  rw [tg]
  refine Classical.byContradiction fun z => ?_
  exact Lt.irrefl (Lt.trans_le C3 C1 C3 (G.low i mg k ko z) (Le.trans C1 C2 C3 h c1))
/-- the places of P take as few of the rest as can be, as many as can be -/
theorem low_pick {n : Int} (hw : w ∈ ways) (g0 : ∀ r ∈ rs, GoodRow r) {d : Dealt} (O : DealOk w rs n d) {P : List Nat} (hP : P.Nodup) :
    ∃ g S, Pk w rs n d g S ∧ cnt P S = (if d.left - ((d.tied.length : Int) - cnt P d.tied) > 0 then d.left - ((d.tied.length : Int) - cnt P d.tied) else 0) ∧ ((∀ k ∈ S, k ∉ P) ∨ ∀ k ∈ d.tied, k ∉ P → k ∈ S) := by
  obtain ⟨l0, l1⟩ := left_le O
  have nd := tied_nodup O
  have hA : (d.tied.filter fun k => !decide (k ∈ P)).length + (d.tied.filter fun k => decide (k ∈ P)).length = d.tied.length := by
    exact filter_split P d.tied
  have hc := cnt_len hP nd
  have nS : ((d.tied.filter fun k => !decide (k ∈ P)) ++ d.tied.filter fun k => decide (k ∈ P)).Nodup := by
    rw [List.nodup_append]
    refine ⟨nd.filter _, nd.filter _, fun a ha b hb e => ?_⟩
    have h1 := (List.mem_filter.mp ha).2
    have h2 := (List.mem_filter.mp hb).2
    rw [e, h2] at h1
    cases h1
  have mA : ∀ {k : Nat}, k ∈ (d.tied.filter fun k => !decide (k ∈ P)) → k ∈ d.tied ∧ k ∉ P := fun {k} hk => by
    have h := List.mem_filter.mp hk
    refine ⟨h.1, fun z => ?_⟩
    have h2 := h.2
    rw [decide_eq_true z] at h2
    cases h2
  have mB : ∀ {k : Nat}, k ∈ (d.tied.filter fun k => decide (k ∈ P)) → k ∈ d.tied ∧ k ∈ P := fun {k} hk => by
    have h := List.mem_filter.mp hk
    exact ⟨h.1, of_decide_eq_true h.2⟩
  have inA : ∀ {k : Nat}, k ∈ d.tied → k ∉ P → k ∈ (d.tied.filter fun k => !decide (k ∈ P)) := fun {k} h1 h2 => List.mem_filter.mpr ⟨h1, by rw [decide_eq_false h2]; rfl⟩
  generalize d.tied.filter (fun k => !decide (k ∈ P)) = A at *
  generalize d.tied.filter (fun k => decide (k ∈ P)) = B at *
  have sN : ((A ++ B).take d.left.toNat).Nodup := (List.take_sublist _ _).nodup nS
  obtain ⟨g, hg⟩ := pk_of hw g0 O (S := (A ++ B).take d.left.toNat) (fun k hk => by
    rcases List.mem_append.mp (List.mem_of_mem_take hk) with h | h
    · exact (mA h).1
    · exact (mB h).1) sN (by rw [List.length_take, List.length_append]; omega)
  refine ⟨g, _, hg, ?_, ?_⟩
  · rw [cnt_len hP sN, List.take_append, List.filter_append, List.length_append]
    have e1 : (List.filter (fun k => decide (k ∈ P)) (A.take d.left.toNat)) = [] := List.filter_eq_nil_iff.mpr fun k hk => by
      rw [decide_eq_false (mA (List.mem_of_mem_take hk)).2]
      decide
    have e2 : (List.filter (fun k => decide (k ∈ P)) (B.take (d.left.toNat - A.length))) = B.take (d.left.toNat - A.length) := List.filter_eq_self.mpr fun k hk => decide_eq_true (mB (List.mem_of_mem_take hk)).2
    rw [e1, e2, List.length_nil, List.length_take, hc]
    split <;> omega
  · by_cases h : d.left.toNat ≤ A.length
    · refine .inl fun k hk => ?_
      rw [List.take_append_of_le_length h] at hk
      exact (mA (List.mem_of_mem_take hk)).2
    · refine .inr fun k h1 h2 => ?_
      rw [List.take_append, List.take_of_length_le (by omega)]
      exact List.mem_append_left _ (inA h1 h2)
theorem high_pick {n : Int} (hw : w ∈ ways) (g0 : ∀ r ∈ rs, GoodRow r) {d : Dealt} (O : DealOk w rs n d) {P : List Nat} (hP : P.Nodup) :
    ∃ g S, Pk w rs n d g S ∧ cnt P S = (if cnt P d.tied < d.left then cnt P d.tied else d.left) ∧ ((∀ k ∈ S, k ∈ P) ∨ ∀ k ∈ d.tied, k ∈ P → k ∈ S) := by
  obtain ⟨l0, l1⟩ := left_le O
  have nd := tied_nodup O
  have hA : (d.tied.filter fun k => !decide (k ∈ P)).length + (d.tied.filter fun k => decide (k ∈ P)).length = d.tied.length := by
    exact filter_split P d.tied
  have hc := cnt_len hP nd
  have nS : ((d.tied.filter fun k => decide (k ∈ P)) ++ d.tied.filter fun k => !decide (k ∈ P)).Nodup := by
    rw [List.nodup_append]
    refine ⟨nd.filter _, nd.filter _, fun a ha b hb e => ?_⟩
    have h1 := (List.mem_filter.mp ha).2
    have h2 := (List.mem_filter.mp hb).2
    rw [← e, h1] at h2
    cases h2
  have mA : ∀ {k : Nat}, k ∈ (d.tied.filter fun k => !decide (k ∈ P)) → k ∈ d.tied ∧ k ∉ P := fun {k} hk => by
    have h := List.mem_filter.mp hk
    refine ⟨h.1, fun z => ?_⟩
    have h2 := h.2
    rw [decide_eq_true z] at h2
    cases h2
  have mB : ∀ {k : Nat}, k ∈ (d.tied.filter fun k => decide (k ∈ P)) → k ∈ d.tied ∧ k ∈ P := fun {k} hk => by
    have h := List.mem_filter.mp hk
    exact ⟨h.1, of_decide_eq_true h.2⟩
  have inB : ∀ {k : Nat}, k ∈ d.tied → k ∈ P → k ∈ (d.tied.filter fun k => decide (k ∈ P)) := fun {k} h1 h2 => List.mem_filter.mpr ⟨h1, decide_eq_true h2⟩
  generalize d.tied.filter (fun k => !decide (k ∈ P)) = A at *
  generalize d.tied.filter (fun k => decide (k ∈ P)) = B at *
  have sN : ((B ++ A).take d.left.toNat).Nodup := (List.take_sublist _ _).nodup nS
  obtain ⟨g, hg⟩ := pk_of hw g0 O (S := (B ++ A).take d.left.toNat) (fun k hk => by
    rcases List.mem_append.mp (List.mem_of_mem_take hk) with h | h
    · exact (mB h).1
    · exact (mA h).1) sN (by rw [List.length_take, List.length_append]; omega)
  refine ⟨g, _, hg, ?_, ?_⟩
  · rw [cnt_len hP sN, List.take_append, List.filter_append, List.length_append]
    have e1 : (List.filter (fun k => decide (k ∈ P)) (A.take (d.left.toNat - B.length))) = [] := List.filter_eq_nil_iff.mpr fun k hk => by
      rw [decide_eq_false (mA (List.mem_of_mem_take hk)).2]
      decide
    have e2 : (List.filter (fun k => decide (k ∈ P)) (B.take d.left.toNat)) = B.take d.left.toNat := List.filter_eq_self.mpr fun k hk => decide_eq_true (mB (List.mem_of_mem_take hk)).2
    rw [e1, e2, List.length_nil, List.length_take, hc]
    split <;> omega
  · by_cases h : d.left.toNat ≤ B.length
    · refine .inl fun k hk => ?_
      rw [List.take_append_of_le_length h] at hk
      exact (mB (List.mem_of_mem_take hk)).2
    · refine .inr fun k h1 h2 => ?_
      rw [List.take_append, List.take_of_length_le (by omega)]
      exact List.mem_append_left _ (inB h1 h2)
/-- the seats of some places together -/
theorem pk_sum {n : Int} {d : Dealt} {g : List Int} {S : List Nat} (K : Pk w rs n d g S) (P : List Nat) : (P.map fun k => g.getD k 0).sum = (P.map fun k => d.sure.getD k 0).sum + cnt P S := by
  unfold cnt
  induction P with
  | nil => rfl
  | cons p P ih =>
    rw [List.map_cons, List.sum_cons, List.map_cons, List.sum_cons, List.map_cons, List.sum_cons, ih, K.pick.2]
    omega
end SS

/-! rows taken as one, poured together -/
namespace SS
open PySem PySem.Spec PyProof.Rows L2 LamX
variable {w : Str} {rs : List Row} {f : List Int}
/-- some rows taken as one -/
def sumR (rs : List Row) : Row := ((votes rs).sum, (lows rs).sum, (caps rs).sum)
/-- two rows poured together -/
def pour (rs : List Row) (i j : Nat) : List Row := (rs.set (min i j) (sumR [rowAt rs i, rowAt rs j])).eraseIdx (max i j)
theorem sumR_two (a b : Row) : sumR [a, b] = (a.1 + b.1, a.2.1 + b.2.1, a.2.2 + b.2.2) := by
  unfold sumR votes lows caps
  simp only [List.map_cons, List.map_nil, List.sum_cons, List.sum_nil, Int.add_zero]
theorem rws_two {K : PySem.W.Frag} {H : Hp} {l a b : Addr} {r s : Row} (h : H l = some (.lst [.ref a, .ref b])) (ha : SqT K H a [.int r.1, .int r.2.1, .int r.2.2]) (hb : SqT K H b [.int s.1, .int s.2.1, .int s.2.2]) : Rws K H l [.ref a, .ref b] [r, s] :=
  ⟨sqL h, rfl, fun i x t h1 h2 => by
    match i with
    | 0 =>
      cases h1
      cases h2
      exact ⟨a, rfl, ha⟩
    | 1 =>
      cases h1
      cases h2
      exact ⟨b, rfl, hb⟩
    | i + 2 => cases h1⟩
theorem rws_erase {K : PySem.W.Frag} {H : Hp} {p : Addr} {xs : List V} {rs : List Row} {i : Nat} (h : Rws K H p xs rs) (hp : H p = some (.lst xs)) (hi : i < rs.length) : Rws K (upd H p (.lst (xs.eraseIdx i))) p (xs.eraseIdx i) (rs.eraseIdx i) := by
  refine ⟨sqL upd_same, by rw [List.length_eraseIdx, List.length_eraseIdx, h.n], fun k x s h1 h2 => ?_⟩
  rw [List.getElem?_eraseIdx] at h1 h2
  have key : ∃ m : Nat, xs[m]? = some x ∧ rs[m]? = some s := by
    by_cases e : k < i
    · rw [if_pos e] at h1 h2
      exact ⟨_, h1, h2⟩
    · rw [if_neg e] at h1 h2
      exact ⟨_, h1, h2⟩
  obtain ⟨m, h3, h4⟩ := key
  obtain ⟨a, h5, h6⟩ := h.at_ m x s h3 h4
  exact ⟨a, h5, tup_mut hp h6⟩

theorem erase_sum : ∀ (l : List Int) (i : Nat), i < l.length → (l.eraseIdx i).sum = l.sum - l.getD i 0
  | [], i, h => by cases h
  | x :: l, 0, h => by
    show l.sum = x + l.sum - x
    omega
  | x :: l, i + 1, h => by
    show x + (l.eraseIdx i).sum = x + l.sum - l.getD i 0
    rw [erase_sum l i (Nat.lt_of_succ_lt_succ h)]
    omega
theorem erase_get (l : List Int) (i k : Nat) : (l.eraseIdx i).getD k 0 = if k < i then l.getD k 0 else l.getD (k + 1) 0 := by
  rw [List.getD_eq_getElem?_getD, List.getElem?_eraseIdx]
  by_cases h : k < i
  · rw [if_pos h, if_pos h, List.getD_eq_getElem?_getD]
  · rw [if_neg h, if_neg h, List.getD_eq_getElem?_getD]
theorem erase_row (rs : List Row) (i k : Nat) : rowAt (rs.eraseIdx i) k = if k < i then rowAt rs k else rowAt rs (k + 1) := by
  unfold rowAt
  rw [List.getD_eq_getElem?_getD, List.getElem?_eraseIdx]
  by_cases h : k < i
  · rw [if_pos h, if_pos h, List.getD_eq_getElem?_getD]
  · rw [if_neg h, if_neg h, List.getD_eq_getElem?_getD]
theorem get_le_sum {l : List Int} (h : ∀ x ∈ l, 0 ≤ x) {i : Nat} (hi : i < l.length) : l.getD i 0 ≤ l.sum := by
  have h1 := erase_sum l i hi
  have h2 := sum_nn (l := l.eraseIdx i) fun x hx => h x (List.mem_of_mem_eraseIdx hx)
  omega
/-- seats with both in the place of the first -/
def sqz (f : List Int) (i j : Nat) : List Int := (f.set (min i j) (f.getD i 0 + f.getD j 0)).eraseIdx (max i j)
/-- where a place behind the pouring was -/
def was (i j k : Nat) : Nat := if k < max i j then k else k + 1
theorem mm {i j : Nat} (h : i ≠ j) : (min i j = i ∧ max i j = j ∧ i < j) ∨ (min i j = j ∧ max i j = i ∧ j < i) := by omega
theorem sqz_len {i j : Nat} (hi : i < f.length) (hj : j < f.length) : (sqz f i j).length = f.length - 1 := by
  unfold sqz
  rw [List.length_eraseIdx, List.length_set, if_pos (by omega)]
theorem sqz_sum {i j : Nat} (hi : i < f.length) (hj : j < f.length) (h : i ≠ j) : (sqz f i j).sum = f.sum := by
  unfold sqz
  rw [erase_sum _ _ (by rw [List.length_set]; omega), sum_set _ _ _ (by omega), getD_set _ _ _ _ (by omega)]
  rcases mm h with ⟨e1, e2, e3⟩ | ⟨e1, e2, e3⟩
  · rw [e1, e2, if_neg (by omega)]
    omega
  · rw [e1, e2, if_neg (by omega)]
    omega
theorem sqz_low {i j : Nat} (hi : i < f.length) (hj : j < f.length) (h : i ≠ j) : (sqz f i j).getD (min i j) 0 = f.getD i 0 + f.getD j 0 := by
  unfold sqz
  rw [erase_get, if_pos (by omega), getD_set _ _ _ _ (by omega), if_pos rfl]
theorem sqz_at {i j k : Nat} (hi : i < f.length) (h : i ≠ j) (hk : k ≠ min i j) (hj : j < f.length) : (sqz f i j).getD k 0 = f.getD (was i j k) 0 := by
  unfold sqz was
  rw [erase_get]
  by_cases e : k < max i j
  · rw [if_pos e, if_pos e, getD_set _ _ _ _ (by omega), if_neg (fun z => hk z.symm)]
  · rw [if_neg e, if_neg e, getD_set _ _ _ _ (by omega), if_neg (by omega)]
theorem pour_len {i j : Nat} (hi : i < rs.length) (hj : j < rs.length) : (pour rs i j).length = rs.length - 1 := by
  unfold pour
  rw [List.length_eraseIdx, List.length_set, if_pos (by omega)]
theorem pour_low {i j : Nat} (hi : i < rs.length) (hj : j < rs.length) (h : i ≠ j) : rowAt (pour rs i j) (min i j) = sumR [rowAt rs i, rowAt rs j] := by
  unfold pour
  rw [erase_row, if_pos (by omega), rowAt_set (by omega), if_pos rfl]
theorem pour_at {i j k : Nat} (hi : i < rs.length) (hj : j < rs.length) (h : i ≠ j) (hk : k ≠ min i j) : rowAt (pour rs i j) k = rowAt rs (was i j k) := by
  unfold pour was
  rw [erase_row]
  by_cases e : k < max i j
  · rw [if_pos e, if_pos e, rowAt_set (by omega), if_neg hk]
  · rw [if_neg e, if_neg e, rowAt_set (by omega), if_neg (by omega)]
theorem was_ne {i j k : Nat} (h : i ≠ j) (hk : k ≠ min i j) : was i j k ≠ i ∧ was i j k ≠ j := by
  unfold was
  split <;> omega
theorem was_lt {i j k n : Nat} (hi : i < n) (hj : j < n) (hk : k < n - 1) : was i j k < n := by
  unfold was
  split <;> omega
/-! ### divisors of sums -/
def lessOf (w : Str) : Int := if w = "whole" then 0 else 1
def moreOf (w : Str) : Int := if w = "early" then 0 else 1
theorem sub_A (hw : w ∈ ways) {a b c : Int} (ha : 1 ≤ a) (hb : 1 ≤ b) (hc : 1 ≤ c) (h : c ≤ a + b - lessOf w) : dv w c ≤ dv w a + dv w b := by
  unfold lessOf at h
  rcases ways_cases hw with rfl | rfl | rfl | rfl | rfl
  · rw [if_pos rfl] at h
    rw [dv_whole, dv_whole, dv_whole]
    omega
  · rw [if_neg (by decide)] at h
    rw [dv_odd, dv_odd, dv_odd]
    omega
  · rw [if_neg (by decide)] at h
    rw [dv_third, dv_third, dv_third]
    omega
  · rw [if_neg (by decide)] at h
    rw [dv_early, dv_early, dv_early]
    omega
  · rw [if_neg (by decide)] at h
    rw [dv_bent, dv_bent, dv_bent]
    split <;> split <;> split <;> omega
theorem sup_B (hw : w ∈ ways) {a b c : Int} (ha : 0 ≤ a) (hb : 0 ≤ b) (h : a + b + moreOf w + 1 ≤ c) : dv w (a + 1) + dv w (b + 1) ≤ dv w c := by
  unfold moreOf at h
  rcases ways_cases hw with rfl | rfl | rfl | rfl | rfl
  · rw [if_neg (by decide)] at h
    rw [dv_whole, dv_whole, dv_whole]
    omega
  · rw [if_neg (by decide)] at h
    rw [dv_odd, dv_odd, dv_odd]
    omega
  · rw [if_neg (by decide)] at h
    rw [dv_third, dv_third, dv_third]
    omega
  · rw [if_pos rfl] at h
    rw [dv_early, dv_early, dv_early]
    omega
  · rw [if_neg (by decide)] at h
    rw [dv_bent, dv_bent, dv_bent]
    split <;> split <;> split <;> omega
theorem less01 (w : Str) : 0 ≤ lessOf w ∧ lessOf w ≤ 1 := by
  unfold lessOf
  split <;> omega
theorem more01 (w : Str) : 0 ≤ moreOf w ∧ moreOf w ≤ 1 := by
  unfold moreOf
  split <;> omega
/-! ### both together, and the one of both -/
theorem pour_A (hw : w ∈ ways) (g0 : ∀ r ∈ rs, GoodRow r) (hz : ∀ k < rs.length, (rowAt rs k).2.1 = 0) {i j : Nat} (hi : i < rs.length) (hj : j < rs.length) (hij : i ≠ j) (g1 : ∀ r ∈ pour rs i j, GoodRow r) {n : Int} {d : Dealt} (O : DealOk w rs n d) {S : List Nat} (K : Pk w rs n d f S)
    (hS : (∀ k ∈ S, k ∉ [i, j]) ∨ ∀ k ∈ d.tied, k ∉ [i, j] → k ∈ S) {g : List Int} (hg : Seats (pour rs i j) g) (R : Right w (pour rs i j) g) (hs : g.sum = n) : ¬ g.getD (min i j) 0 < f.getD i 0 + f.getD j 0 - lessOf w := by
  intro hlt
  have l01 := less01 w
  have fl := K.seats.1
  have hfi : i < f.length := by omega
  have hfj : j < f.length := by omega
  have pl := pour_len hi hj
  have gl := hg.1
  have ql := sqz_len hfi hfj
  have ml : min i j < rs.length - 1 := by omega
  obtain ⟨k, hk, hkm, hkl⟩ : ∃ k, k < rs.length - 1 ∧ k ≠ min i j ∧ (sqz f i j).getD k 0 < g.getD k 0 := by
    refine Classical.byContradiction fun hn => ?_
    have h1 := sum_lt (f := g) (g := sqz f i j) (by omega) (fun m hm => ?_) (j := min i j) (by omega) (by rw [sqz_low hfi hfj hij]; omega)
    · rw [sqz_sum hfi hfj hij, K.sum, hs] at h1
      omega
    · by_cases e : m = min i j
      · rw [e, sqz_low hfi hfj hij]
        omega
      · exact Int.not_lt.mp fun c => hn ⟨m, by omega, e, c⟩
  rw [sqz_at hfi hij hkm hfj] at hkl
  have rk := pour_at hi hj hij hkm
  obtain ⟨wi, wj⟩ := was_ne hij hkm
  have wl := was_lt hi hj hk
  generalize was i j k = k' at *
  have hv := vt_good g0
  have bk := K.seats.2 k' wl
  have zk := hz k' wl
  have gk := hg.2 k (by omega)
  rw [rk] at gk
  have ko : k' ∈ opens rs f := opens_mem.mpr ⟨wl, by omega⟩
  have bi := K.seats.2 i hi
  have bj := K.seats.2 j hj
  have zi := hz i hi
  have zj := hz j hj
  have em := pour_low hi hj hij
  rw [sumR_two] at em
  have gm := hg.2 (min i j) (by omega)
  rw [em] at gm
  have gm1 : 0 ≤ g.getD (min i j) 0 := by
    have : (rowAt rs i).2.1 + (rowAt rs j).2.1 ≤ g.getD (min i j) 0 := gm.1
    omega
  have mo : min i j ∈ opens (pour rs i j) g := opens_mem.mpr ⟨by omega, by
    rw [em]
    show g.getD (min i j) 0 < (rowAt rs i).2.2 + (rowAt rs j).2.2
    omega⟩
  have r2 := R k (by omega) (by rw [rk]; omega) (min i j) mo
  have vi := hv i hi
  have vj := hv j hj
  have e3 : Le (lst w (pour rs i j) g k) (nxt w rs f k') := by
    unfold lst nxt
    rw [rk]
    exact cl_le hw (hv k' wl) (j := f.getD k' 0 + 1) (k := g.getD k 0) (by omega) (by omega)
  have C2 : Cl (lst w (pour rs i j) g k) := by
    unfold lst
    rw [rk]
    exact cl_cl hw (hv k' wl) (by omega)
  have C3 : Cl (nxt w rs f k') := cl_cl hw (hv k' wl) (by omega)
  have C1 : Cl (nxt w (pour rs i j) g (min i j)) := by
    unfold nxt
    rw [em]
    exact cl_cl hw (by show 1 ≤ (rowAt rs i).1 + (rowAt rs j).1; omega) (by omega)
  have big : Le (nxt w (pour rs i j) g (min i j)) (nxt w rs f k') := Le.trans C1 C2 C3 r2 e3
  have sep : ∀ x : Nat, x < rs.length → 0 < f.getD x 0 → (rowAt rs x).2.1 = 0 → ((rowAt rs i).1 + (rowAt rs j).1) * dv w (f.getD x 0) ≤ (rowAt rs x).1 * dv w (g.getD (min i j) 0 + 1) := fun x hx h0 hx0 => by
    have h1 := K.right x hx (by omega) k' ko
    have h2 := Le.trans C1 C3 (cl_cl hw (hv x hx) (by omega)) big h1
    unfold nxt at h2
    rw [em] at h2
    exact h2
  have one : ∀ x y : Nat, x < rs.length → y < rs.length → f.getD y 0 = 0 → f.getD x 0 + f.getD y 0 = f.getD i 0 + f.getD j 0 → 1 ≤ (rowAt rs x).1 → 1 ≤ (rowAt rs y).1 → (rowAt rs x).2.1 = 0 → (rowAt rs x).1 + (rowAt rs y).1 = (rowAt rs i).1 + (rowAt rs j).1 → False := fun x y hx hy y0 hs vx vy x0 hv2 => by
    have h1 := sep x hx (by omega) x0
    have hD : dv w (g.getD (min i j) 0 + 1) ≤ dv w (f.getD x 0) := dv_le hw (by omega) (by omega)
    have hp : 0 < dv w (f.getD x 0) := dv_pos hw (by omega) fun e => by
      have : lessOf w = 1 := by
        rw [e]
        decide
      omega
    have h2 : (rowAt rs x).1 * dv w (g.getD (min i j) 0 + 1) ≤ (rowAt rs x).1 * dv w (f.getD x 0) := Int.mul_le_mul_of_nonneg_left hD (by omega)
    rw [← hv2, Int.add_mul] at h1
    have h3 : 0 < (rowAt rs y).1 * dv w (f.getD x 0) := Int.mul_pos (by omega) hp
    omega
  by_cases fi0 : 0 < f.getD i 0
  · by_cases fj0 : 0 < f.getD j 0
    · have hD := sub_A hw (a := f.getD i 0) (b := f.getD j 0) (c := g.getD (min i j) 0 + 1) (by omega) (by omega) (by omega) (by omega)
      have s1 := sep i hi fi0 zi
      have s2 := sep j hj fj0 zj
      have t : ∀ x y : Nat, x < rs.length → (rowAt rs x).1 + (rowAt rs y).1 = (rowAt rs i).1 + (rowAt rs j).1 → ((rowAt rs i).1 + (rowAt rs j).1) * dv w (f.getD y 0) ≤ (rowAt rs y).1 * dv w (g.getD (min i j) 0 + 1) → dv w (g.getD (min i j) 0 + 1) ≤ dv w (f.getD x 0) + dv w (f.getD y 0) → Le (lst w rs f x) (nxt w (pour rs i j) g (min i j)) := fun x y hx hv2 h1 h2 => by
        unfold nxt
        rw [em]
        show (rowAt rs x).1 * dv w (g.getD (min i j) 0 + 1) ≤ ((rowAt rs i).1 + (rowAt rs j).1) * dv w (f.getD x 0)
        have h3 : ((rowAt rs i).1 + (rowAt rs j).1) * dv w (g.getD (min i j) 0 + 1) ≤ ((rowAt rs i).1 + (rowAt rs j).1) * (dv w (f.getD x 0) + dv w (f.getD y 0)) := Int.mul_le_mul_of_nonneg_left h2 (by omega)
        rw [Int.mul_add] at h3
        have h4 : ((rowAt rs i).1 + (rowAt rs j).1) * dv w (g.getD (min i j) 0 + 1) = (rowAt rs x).1 * dv w (g.getD (min i j) 0 + 1) + (rowAt rs y).1 * dv w (g.getD (min i j) 0 + 1) := by rw [← hv2, Int.add_mul]
        omega
      have ti := t i j hi rfl s2 hD
      have tj := t j i hj (Int.add_comm _ _) s1 (by omega)
      have hti := tie_split hw g0 O K hi (by omega) ko (Le.trans (cl_cl hw vi (by omega)) C1 C3 ti big)
      rcases hS with hS | hS
      · exact hS i hti.1 (List.mem_cons_self ..)
      · refine hti.2.2 (hS k' hti.2.1 fun z => ?_)
        simp only [List.mem_cons, List.not_mem_nil, or_false] at z
        rcases z with z | z
        · exact wi z
        · exact wj z
    · exact one i j hi hj (by omega) rfl vi vj zi rfl
  · exact one j i hj hi (by omega) (by omega) vj vi zj (by omega)
theorem pour_B (hw : w ∈ ways) (g0 : ∀ r ∈ rs, GoodRow r) (hz : ∀ k < rs.length, (rowAt rs k).2.1 = 0) {i j : Nat} (hi : i < rs.length) (hj : j < rs.length) (hij : i ≠ j) (g1 : ∀ r ∈ pour rs i j, GoodRow r) {n : Int} (hn : ∀ k < rs.length, n < (rowAt rs k).2.2) {d : Dealt} (O : DealOk w rs n d) {S : List Nat} (K : Pk w rs n d f S)
    (hS : (∀ k ∈ S, k ∈ [i, j]) ∨ ∀ k ∈ d.tied, k ∈ [i, j] → k ∈ S) {g : List Int} (hg : Seats (pour rs i j) g) (R : Right w (pour rs i j) g) (hs : g.sum = n) : ¬ f.getD i 0 + f.getD j 0 + moreOf w < g.getD (min i j) 0 := by
  intro hlt
  have l01 := more01 w
  have fl := K.seats.1
  have hfi : i < f.length := by omega
  have hfj : j < f.length := by omega
  have pl := pour_len hi hj
  have gl := hg.1
  have ql := sqz_len hfi hfj
  have ml : min i j < rs.length - 1 := by omega
  have nn : ∀ x ∈ f, 0 ≤ x := fun x hx => by
    obtain ⟨k, hk⟩ := List.mem_iff_getElem?.mp hx
    have hkl := (List.getElem?_eq_some_iff.mp hk).1
    have b := K.seats.2 k (by omega)
    have z := hz k (by omega)
    have ex : f.getD k 0 = x := by
      rw [List.getD_eq_getElem?_getD, hk]
      rfl
    omega
  have op : ∀ x : Nat, x < rs.length → x ∈ opens rs f := fun x hx => by
    have h1 := get_le_sum nn (i := x) (by omega)
    have h2 := hn x hx
    have h3 := K.sum
    exact opens_mem.mpr ⟨hx, by omega⟩
  obtain ⟨k, hk, hkm, hkl⟩ : ∃ k, k < rs.length - 1 ∧ k ≠ min i j ∧ g.getD k 0 < (sqz f i j).getD k 0 := by
    refine Classical.byContradiction fun hn => ?_
    have h1 := sum_lt (f := sqz f i j) (g := g) (by omega) (fun m hm => ?_) (j := min i j) (by omega) (by rw [sqz_low hfi hfj hij]; omega)
    · rw [sqz_sum hfi hfj hij, K.sum, hs] at h1
      omega
    · by_cases e : m = min i j
      · rw [e, sqz_low hfi hfj hij]
        omega
      · exact Int.not_lt.mp fun c => hn ⟨m, by omega, e, c⟩
  rw [sqz_at hfi hij hkm hfj] at hkl
  have rk := pour_at hi hj hij hkm
  obtain ⟨wi, wj⟩ := was_ne hij hkm
  have wl := was_lt hi hj hk
  generalize was i j k = k' at *
  have hv := vt_good g0
  have bk := K.seats.2 k' wl
  have zk := hz k' wl
  have gk := hg.2 k (by omega)
  rw [rk] at gk
  have bi := K.seats.2 i hi
  have bj := K.seats.2 j hj
  have zi := hz i hi
  have zj := hz j hj
  have em := pour_low hi hj hij
  rw [sumR_two] at em
  have ko : k ∈ opens (pour rs i j) g := opens_mem.mpr ⟨by omega, by rw [rk]; omega⟩
  have r2 := R (min i j) (by omega) (by
    rw [em]
    show (rowAt rs i).2.1 + (rowAt rs j).2.1 < g.getD (min i j) 0
    omega) k ko
  have vi := hv i hi
  have vj := hv j hj
  have e3 : Le (lst w rs f k') (nxt w (pour rs i j) g k) := by
    unfold lst nxt
    rw [rk]
    exact cl_le hw (hv k' wl) (j := g.getD k 0 + 1) (k := f.getD k' 0) (by omega) (by omega)
  have C2 : Cl (nxt w (pour rs i j) g k) := by
    unfold nxt
    rw [rk]
    exact cl_cl hw (hv k' wl) (by omega)
  have C3 : Cl (lst w rs f k') := cl_cl hw (hv k' wl) (by omega)
  have C1 : Cl (lst w (pour rs i j) g (min i j)) := by
    unfold lst
    rw [em]
    exact cl_cl hw (by show 1 ≤ (rowAt rs i).1 + (rowAt rs j).1; omega) (by omega)
  have big : Le (lst w rs f k') (lst w (pour rs i j) g (min i j)) := Le.trans C3 C2 C1 e3 r2
  have sep : ∀ x : Nat, x < rs.length → 0 ≤ f.getD x 0 → (rowAt rs x).1 * dv w (g.getD (min i j) 0) ≤ ((rowAt rs i).1 + (rowAt rs j).1) * dv w (f.getD x 0 + 1) := fun x hx h0 => by
    have h1 := K.right k' wl (by omega) x (op x hx)
    have h2 := Le.trans (cl_cl hw (hv x hx) (by omega)) C3 C1 h1 big
    unfold lst at h2
    rw [em] at h2
    exact h2
  have s1 := sep i hi (by omega)
  have s2 := sep j hj (by omega)
  have hD := sup_B hw (a := f.getD i 0) (b := f.getD j 0) (c := g.getD (min i j) 0) (by omega) (by omega) (by omega)
  have ti : Le (lst w (pour rs i j) g (min i j)) (nxt w rs f i) := by
    unfold lst
    rw [em]
    show ((rowAt rs i).1 + (rowAt rs j).1) * dv w (f.getD i 0 + 1) ≤ (rowAt rs i).1 * dv w (g.getD (min i j) 0)
    have h3 : ((rowAt rs i).1 + (rowAt rs j).1) * (dv w (f.getD i 0 + 1) + dv w (f.getD j 0 + 1)) ≤ ((rowAt rs i).1 + (rowAt rs j).1) * dv w (g.getD (min i j) 0) := Int.mul_le_mul_of_nonneg_left hD (by omega)
    rw [Int.mul_add] at h3
    have h4 : ((rowAt rs i).1 + (rowAt rs j).1) * dv w (g.getD (min i j) 0) = (rowAt rs i).1 * dv w (g.getD (min i j) 0) + (rowAt rs j).1 * dv w (g.getD (min i j) 0) := Int.add_mul _ _ _
    omega
  have hti := tie_split hw g0 O K wl (by omega) (op i hi) (Le.trans C3 C1 (cl_cl hw vi (by omega)) big ti)
  rcases hS with hS | hS
  · have z := hS k' hti.1
    simp only [List.mem_cons, List.not_mem_nil, or_false] at z
    rcases z with z | z
    · exact wi z
    · exact wj z
  · exact hti.2.2 (hS i hti.2.1 (List.mem_cons_self ..))
end SS

/-! rows poured together: good or not; turn by turn -/
namespace SS
open PySem PySem.Spec PyProof.Rows L2 LamX
variable {w : Str} {rs : List Row} {f : List Int}
theorem erase_step {α : Type} {L : List α} {m i : Nat} {x : α} (h : L[m]? = some x) : (L.take (m + 1)).eraseIdx i = if m = i then (L.take m).eraseIdx i else (L.take m).eraseIdx i ++ [x] := by
  have hl := (List.getElem?_eq_some_iff.mp h).1
  have hm : (L.take m).length = m := by
    rw [List.length_take]
    omega
  rw [List.take_add_one, h, Option.toList_some]
  by_cases e : m = i
  · subst e
    rw [if_pos rfl, List.eraseIdx_append_of_length_le (by omega), hm, Nat.sub_self, List.eraseIdx_of_length_le (by omega : (L.take m).length ≤ m)]
    show L.take m ++ [] = _
    rw [List.append_nil]
  · rw [if_neg e]
    by_cases e2 : i < m
    · rw [List.eraseIdx_append_of_lt_length (by omega)]
    · rw [List.eraseIdx_of_length_le (by rw [List.length_append, hm]; show m + 1 ≤ i; omega), List.eraseIdx_of_length_le (by omega)]
theorem erase_set {α : Type} (L : List α) {i j : Nat} (h : i < j) (x : α) : (L.set i x).eraseIdx j = (L.eraseIdx j).set i x := by
  refine List.ext_getElem? fun k => ?_
  rw [List.getElem?_eraseIdx, List.getElem?_set, List.getElem?_set, List.getElem?_set, List.getElem?_eraseIdx]
  by_cases e : k < j
  · rw [if_pos e]
    by_cases e2 : i = k
    · rw [if_pos e2, if_pos e2, List.length_eraseIdx]
      by_cases e3 : i < L.length
      · rw [if_pos e3]
        by_cases e4 : j < L.length
        · rw [if_pos e4, if_pos (by omega)]
        · rw [if_neg e4, if_pos e3]
      · rw [if_neg e3]
        by_cases e4 : j < L.length
        · omega
        · rw [if_neg e4, if_neg e3]
    · rw [if_neg e2, if_neg e2, if_pos e]
  · rw [if_neg e, if_neg (by omega), if_neg (by omega), if_neg e]
theorem pour_mem {i j : Nat} {r : Row} (h : r ∈ pour rs i j) : r = sumR [rowAt rs i, rowAt rs j] ∨ r ∈ rs := by
  rcases List.mem_or_eq_of_mem_set (List.mem_of_mem_eraseIdx h) with h | h
  · exact .inr h
  · exact .inl h
theorem pour_good (hg : Good rs) {i j : Nat} (hi : i < rs.length) (hj : j < rs.length) (hij : i ≠ j) (h1 : (rowAt rs i).1 + (rowAt rs j).1 ≤ 10 ^ 30) (h2 : (rowAt rs i).2.2 + (rowAt rs j).2.2 ≤ 200) : Good (pour rs i j) := by
  have pl := pour_len hi hj
  refine ⟨by omega, by have := hg.2.1; omega, fun r hr => ?_⟩
  rcases pour_mem hr with rfl | hr
  · rw [sumR_two]
    obtain ⟨a1, a2, a3, a4, a5⟩ := row_good hg.2.2 hi
    obtain ⟨b1, b2, b3, b4, b5⟩ := row_good hg.2.2 hj
    refine ⟨?_, h1, ?_, ?_, h2⟩
    · show 1 ≤ (rowAt rs i).1 + (rowAt rs j).1
      omega
    · show 0 ≤ (rowAt rs i).2.1 + (rowAt rs j).2.1
      omega
    · show (rowAt rs i).2.1 + (rowAt rs j).2.1 ≤ (rowAt rs i).2.2 + (rowAt rs j).2.2
      omega
  · exact hg.2.2 r hr
theorem pour_is {i j : Nat} (hi : i < rs.length) (hj : j < rs.length) (hij : i ≠ j) (h : Good (pour rs i j)) : (rowAt rs i).1 + (rowAt rs j).1 ≤ 10 ^ 30 ∧ (rowAt rs i).2.2 + (rowAt rs j).2.2 ≤ 200 := by
  have pl := pour_len hi hj
  have g := row_good h.2.2 (i := min i j) (by omega)
  rw [pour_low hi hj hij, sumR_two] at g
  exact ⟨g.2.1, g.2.2.2.2⟩
theorem pour_bad {i j : Nat} (h : ¬ Good (pour rs i j)) : areListsD (rowsD (pour rs i j)) = false := by
  rw [← Bool.not_eq_true]
  intro e
  obtain ⟨rs', e1, e2⟩ := areListsD_is e
  rw [← rowsD_inj e1] at e2
  exact h e2
/-- a row more, in another list -/
theorem rws_snoc2 {K : PySem.W.Frag} {H : Hp} {p q : Addr} {xs : List V} {rs : List Row} {t : Addr} {r : Row} (h : Rws K H p xs rs) (ht : SqT K H t [.int r.1, .int r.2.1, .int r.2.2]) {H' : Hp} (e2 : ∀ a ys, SqT K H a ys → SqT K H' a ys) (hp : H' q = some (.lst (xs ++ [.ref t]))) : Rws K H' q (xs ++ [.ref t]) (rs ++ [r]) := by
  refine ⟨sqL hp, by rw [List.length_append, List.length_append, h.n]; rfl, fun i x s h1 h2 => ?_⟩
  by_cases hi : i < xs.length
  · rw [List.getElem?_append_left hi] at h1
    rw [List.getElem?_append_left (by rw [← h.n]; exact hi)] at h2
    obtain ⟨a, h3, h4⟩ := h.at_ i x s h1 h2
    exact ⟨a, h3, e2 _ _ h4⟩
  · rw [List.getElem?_append_right (Nat.not_lt.mp hi)] at h1
    rw [List.getElem?_append_right (by rw [← h.n]; exact Nat.not_lt.mp hi), ← h.n] at h2
    cases hj : i - xs.length with
    | zero =>
      rw [hj] at h1 h2
      cases h1
      cases h2
      exact ⟨t, rfl, e2 _ _ ht⟩
    | succ j =>
      rw [hj] at h1
      cases h1
/-- {..}.get(x, z) -/
theorem dispGet2 {σ : L2.St} {H : Hp} {Q : VK} {ty tx : TE} {x : Str} {z : V} (kvs : List (Str × V)) (hl : kvs.length ≤ 15) (hy : ∀ (H1 : Hp) (R : VK), R (.str x) H1 → ty σ H1 R) (hx : ∀ (H1 : Hp) (R : VK), R z H1 → tx σ H1 R)
    (q : ∀ H', Same H H' → Q ((valV (mergeK [] (kvs.map fun q => ((Sum.inr q.1 : Key), q.2))) (Sum.inr x)).getD z) H') : tDGet2 (tDisp (strPairs kvs)) ty tx σ H Q := by
  intro p hp
  refine pairs_str ⟨upd_same, kvs.map (fun q => ((Sum.inr q.1 : Key), q.2)), ?_, ?_, ?_⟩
  · rw [List.map_map]
    rfl
  · rw [List.length_map]
    exact hl
  · refine ⟨p, rfl, .inl ⟨_, .inl upd_same⟩, hy _ _ (hx _ _ ⟨_, DGet.k (k := Sum.inr x) upd_same, q _ ?_⟩)⟩
    rw [upd_upd]
    exact same_new hp
end SS

/-! texts; words that were collected -/
namespace SS
open PySem PySem.Spec PyProof.Rows L2 LamX
def rJoin (K : PySem.W.Frag) : V → List V → Hp → VK → Prop := fun x xs H Q => ∃ a p, ∃ ys : List Str, x = .str a ∧ xs = [.ref p] ∧ (SqL K H p (ys.map V.str) ∨ SqT K H p (ys.map V.str)) ∧ (ys.map (·.length)).sum + ys.length * a.length ≤ 16777216 ∧ Q (.str (Txt.join a ys)) H
theorem mt_joinK {X : Cx} {K : PySem.W.Frag} (h : X.K = K) : MtR X "str.join" (rJoin K) := h ▸ mt_join
theorem pi_listK {X : Cx} {K : PySem.W.Frag} {tg l : Expr} {tl : TE} (h : X.K = K) (hl : PE X l tl) : PI X tg l (iList K tl) := h ▸ pi_list hl
theorem pi_tupK {X : Cx} {K : PySem.W.Frag} {tg l : Expr} {tl : TE} (h : X.K = K) (hl : PE X l tl) : PI X tg l (iTup K tl) := h ▸ pi_tup hl
/-- collected words: a list of lists of one word each -/
structure Wls (H : Hp) (p : Addr) (xs : List V) (ws : List Str) : Prop where
  l : H p = some (.lst xs)
  n : xs.length = ws.length
  at_ : ∀ (i : Nat) (x : V) (c : Str), xs[i]? = some x → ws[i]? = some c → ∃ a, x = .ref a ∧ a ≠ p ∧ H a = some (.lst [.str c])
theorem Wls.ext {H H' : Hp} {p : Addr} {xs : List V} {ws : List Str} (h : Wls H p xs ws) (s : ExtN H H') : Wls H' p xs ws :=
  ⟨s _ _ h.l (fun ps z => by cases z), h.n, fun i x c h1 h2 => by
    obtain ⟨a, h3, h4, h5⟩ := h.at_ i x c h1 h2
    exact ⟨a, h3, h4, s _ _ h5 (fun ps z => by cases z)⟩⟩
theorem Wls.same {H H' : Hp} {p : Addr} {xs : List V} {ws : List Str} (h : Wls H p xs ws) (s : Same H H') : Wls H' p xs ws := h.ext (ext_of s)
theorem wls_nil {H : Hp} {p : Addr} (h : H p = some (.lst [])) : Wls H p [] [] := ⟨h, rfl, fun i x c h1 _ => by cases h1⟩
theorem wls_one {H : Hp} {p t : Addr} {c : Str} (h : H p = some (.lst [.ref t])) (ht : H t = some (.lst [.str c])) (hn : t ≠ p) : Wls H p [.ref t] [c] := ⟨h, rfl, fun i x s h1 h2 => by
  cases i with
  | zero =>
    cases h1
    cases h2
    exact ⟨t, rfl, hn, ht⟩
  | succ i => cases h1⟩
theorem wls_snoc {H : Hp} {p : Addr} {xs : List V} {ws : List Str} {t : Addr} {c : Str} (h : Wls H p xs ws) (ht : H t = some (.lst [.str c])) (hn : t ≠ p) : Wls (upd H p (.lst (xs ++ [.ref t]))) p (xs ++ [.ref t]) (ws ++ [c]) := by
  refine ⟨upd_same, by rw [List.length_append, List.length_append, h.n]; rfl, fun i x s h1 h2 => ?_⟩
  by_cases hi : i < xs.length
  · rw [List.getElem?_append_left hi] at h1
    rw [List.getElem?_append_left (by rw [← h.n]; exact hi)] at h2
    obtain ⟨a, h3, h4, h5⟩ := h.at_ i x s h1 h2
    exact ⟨a, h3, h4, by rw [upd_ne h4]; exact h5⟩
  · rw [List.getElem?_append_right (Nat.not_lt.mp hi)] at h1
    rw [List.getElem?_append_right (by rw [← h.n]; exact Nat.not_lt.mp hi), ← h.n] at h2
    cases hj : i - xs.length with
    | zero =>
      rw [hj] at h1 h2
      cases h1
      cases h2
      exact ⟨t, rfl, hn, by rw [upd_ne hn]; exact ht⟩
    | succ j =>
      rw [hj] at h1
      cases h1
def wlD (ws : List Str) : PyData := .list (ws.map fun c => PyData.list [.str c])
theorem dpa_wls {K : PySem.W.Frag} {H : Hp} : ∀ {xs : List V} {ws : List Str}, xs.length = ws.length → (∀ (i : Nat) (x : V) (c : Str), xs[i]? = some x → ws[i]? = some c → ∃ a, x = .ref a ∧ H a = some (.lst [.str c])) → DpAll K H xs (ws.map fun c => PyData.list [.str c])
  | [], [], _, _ => .nil
  | [], _ :: _, h, _ => by cases h
  | _ :: _, [], h, _ => by cases h
  | x :: xs, c :: cs, h, k => by
    obtain ⟨a, rfl, h2⟩ := k 0 x c rfl rfl
    exact .cons (.lst (sqL h2) (.cons (.str _) .nil)) (dpa_wls (Nat.succ.inj h) fun i y s h1 h2 => k (i + 1) y s (by simpa using h1) (by simpa using h2))
theorem Wls.dp {K : PySem.W.Frag} {H : Hp} {p : Addr} {xs : List V} {ws : List Str} (h : Wls H p xs ws) : Dp K H (.ref p) (wlD ws) := .lst (sqL h.l) (dpa_wls h.n fun i x c h1 h2 => by
  obtain ⟨a, h3, _, h5⟩ := h.at_ i x c h1 h2
  exact ⟨a, h3, h5⟩)
theorem dpa_rep {K : PySem.W.Frag} {H : Hp} {v : V} {d : PyData} (h : Dp K H v d) : ∀ n : Nat, DpAll K H (List.replicate n v) (List.replicate n d)
  | 0 => .nil
  | n + 1 => .cons h (dpa_rep h n)
theorem rep_flat {α : Type} (v : α) : ∀ k : Nat, (List.replicate k [v]).flatten = List.replicate k v
  | 0 => rfl
  | k + 1 => by
    rw [List.replicate_succ, List.replicate_succ, List.flatten_cons, rep_flat v k]
    rfl
theorem cut_drop {xs : List V} {k : Nat} : cutV xs (some (k : Int)) none = xs.drop k := by
  unfold cutV
  rw [HT.sIx_nat, HT.sIx_none]
  by_cases h : k ≤ xs.length
  · rw [Nat.min_eq_left h, List.take_of_length_le (by rw [List.length_drop]; exact Nat.le_refl _)]
  · rw [Nat.min_eq_right (by omega), Nat.sub_self, List.take_zero, List.drop_eq_nil_of_le (by omega)]
theorem cut_mid {xs : List V} {a b : Nat} (h : a ≤ b) : cutV xs (some (a : Int)) (some (b : Int)) = (xs.drop a).take (b - a) := by
  unfold cutV
  rw [HT.sIx_nat, HT.sIx_nat]
  by_cases h1 : a ≤ xs.length
  · rw [Nat.min_eq_left h1]
    by_cases h2 : b ≤ xs.length
    · rw [Nat.min_eq_left h2]
    · rw [Nat.min_eq_right (by omega), List.take_of_length_le (by rw [List.length_drop]; exact Nat.le_refl _), List.take_of_length_le (by rw [List.length_drop]; omega)]
  · rw [Nat.min_eq_right (by omega : xs.length ≤ a), List.drop_length, List.drop_eq_nil_of_le (by omega : xs.length ≤ a), List.take_nil, List.take_nil]
theorem extn_mut {H0 H : Hp} {p : Addr} {o : HO} (x : ExtN H0 H) (h : H0 p = none) : ExtN H0 (upd H p o) := fun b u e n => by
  rw [upd_ne (ne_of_none e h)]
  exact x b u e n
theorem tabs_mut {T : List (Addr × Str)} {H : Hp} {l : Addr} {xs ys : List V} (hT : Tabs T H) (hl : H l = some (.lst xs)) : Tabs T (upd H l (.lst ys)) := fun p hp => by
  obtain ⟨ps, h1, h2, h3⟩ := hT p hp
  refine ⟨ps, by rw [upd_ne (fun e => by rw [e, hl] at h1; cases h1)]; exact h1, h2, fun pos cv hc => ?_⟩
  obtain ⟨c, e1, e2⟩ := h3 pos cv hc
  exact ⟨c, e1, by rw [upd_ne (fun e => by rw [e, hl] at e2; cases e2)]; exact e2⟩
/-- one word more is collected -/
theorem words_step {T : List (Addr × Str)} {H8 Hc H10 H11 H12 : Hp} {D p : Addr} {xs : List V} {ws : List Str} {c : Str} (w : Wls Hc D xs ws) (x : ExtN H8 Hc) (nD : H8 D = none) (x10 : ExtN Hc H10) (hT10 : Tabs T H10) (s11 : Same H10 H11) (s12 : Same H11 H12) (n12 : H11 p = none) (e12 : H12 p = some (.lst [.str c])) :
    H12 D = some (.lst xs) ∧ Wls (upd H12 D (.lst (xs ++ [.ref p]))) D (xs ++ [.ref p]) (ws ++ [c]) ∧ ExtN H8 (upd H12 D (.lst (xs ++ [.ref p]))) ∧ Tabs T (upd H12 D (.lst (xs ++ [.ref p]))) := by
  have w2 := ((w.ext x10).same s11).same s12
  have pD : p ≠ D := fun z => by
    have h1 := ((w.ext x10).same s11).l
    rw [← z, n12] at h1
    cases h1
  exact ⟨w2.l, wls_snoc w2 e12 pD, extn_mut (x.trans (x10.trans (ext_of (s11.trans s12)))) nD, tabs_mut (hT10.ext (s11.trans s12)) w2.l⟩
/-- one word, looked at -/
theorem word_is {K : PySem.W.Frag} {H : Hp} {p l : Addr} {c : Str} {Q : VK} (hp : H p = some (.lst [.str c])) (hl : H l = some (.lst [.str c])) (hc : PyData.eqv (.list [.str c]) (.list [.str c]) = true) (hs : SeqAt.shaped (.list [.str c]) = true) (q : Q (.bl true) H) : rEqD K (.ref p) (.ref l) H Q := by
  refine ⟨.list [.str c], .list [.str c], .lst (sqL hp) (.cons (.str _) .nil), .lst (sqL hl) (.cons (.str _) .nil), hs, hs, ?_⟩
  rw [hc]
  exact q
theorem word_ne {K : PySem.W.Frag} {H : Hp} {p l : Addr} {c : Str} {Q : VK} (hp : H p = some (.lst [.str c])) (hl : H l = some (.lst [.str c])) (hc : PyData.eqv (.list [.str c]) (.list [.str c]) = true) (hs : SeqAt.shaped (.list [.str c]) = true) (q : Q (.bl false) H) : rNeD K (.ref p) (.ref l) H Q := by
  refine ⟨.list [.str c], .list [.str c], .lst (sqL hp) (.cons (.str _) .nil), .lst (sqL hl) (.cons (.str _) .nil), hs, hs, ?_⟩
  rw [hc]
  exact q
end SS

namespace SS
open PySem PySem.Spec PyProof.Rows L2 LamX
def topS (i : Nat) : Stmt := PySem.Challenge.pw_seatshares_k15_lists_written.main.body.getD i (.Pass ⟨0, 0, 0, 0⟩)
section
variable {P : Program} {w : World} {K : PySem.W.Frag} {mg : Str → Option Value} {base : Heap}
abbrev s_is_whole : Stmt := topS 13
theorem sc_is_whole : FnScope ["thing", "least", "most"] ["thing", "least", "most"] (defScope s_is_whole) := ⟨rfl, rfl, rfl, by decide +kernel, rfl, by decide +kernel, by decide +kernel⟩
abbrev isWh (d : PyData) (lo hi : Int) : Bool := isWh0 d lo hi
def sp_is_whole (K : PySem.W.Frag) : Sp := fun vs H Q _ => ∃ (v : V) (d : PyData) (lo hi : Int), vs = [v, .int lo, .int hi] ∧ Dz K H v d ∧ Q (.bl (isWh d lo hi)) H
theorem ok_is_whole (Z : BZ mg) (D : DefAt K mg "is_whole" s_is_whole) : OkF P w K mg base 1 "is_whole" ["thing", "least", "most"] (sp_is_whole K) := by
  refine OkF.mk' D sc_is_whole (fun _ _ _ _ _ _ us hl => match us, hl with | [_, _, _], _ => rfl) (fun vs H Q E h => ?_) (fun f cdv A outer s H vs Q E hr h => ?_)
  · first | (obtain ⟨_, rfl, _⟩ := h; rfl) | (obtain ⟨_, _, rfl, _⟩ := h; rfl) | (obtain ⟨_, _, _, rfl, _⟩ := h; rfl) | (obtain ⟨_, _, _, _, rfl, _⟩ := h; rfl) | (obtain ⟨_, _, _, _, _, rfl, _⟩ := h; rfl) | (obtain ⟨_, _, _, _, _, _, rfl, _⟩ := h; rfl) | (obtain ⟨_, _, _, _, _, _, _, rfl, _⟩ := h; rfl) | (obtain ⟨_, _, _, _, _, _, _, _, rfl, _⟩ := h; rfl) | (obtain ⟨_, _, _, _, _, _, _, _, _, rfl, _⟩ := h; rfl) | (obtain ⟨_, _, _, _, _, _, _, _, _, _, rfl, _⟩ := h; rfl) | (obtain ⟨_, _, _, _, _, _, _, _, _, _, _, rfl, _⟩ := h; rfl) | (obtain ⟨_, _, _, _, _, _, _, _, _, _, _, _, rfl, _⟩ := h; rfl) | (obtain ⟨_, _, _, _, _, _, _, _, _, _, _, _, _, rfl, _⟩ := h; rfl) | (obtain ⟨_, _, _, _, _, _, _, _, _, _, _, _, _, _, rfl, _⟩ := h; rfl)
  · refine ⟨_, PSs.nox ((pss_one (ps_ret (pe_and (pe_callB (call_isAK (K := K) rfl) (by rfl) Z.isinstance bt_isinstance (pa_cons (pv 0) (pa_cons (pe_bltn (v := .ty "int") (by rfl) Z.int bt_int rfl) pa_nil))) (pe_and (pe_not (pe_callB (call_isAK (K := K) rfl) (by rfl) Z.isinstance bt_isinstance (pa_cons (pv 0) (pa_cons (pe_bltn (v := .ty "bool") (by rfl) Z.bool bt_bool rfl) pa_nil)))) (pe_one (pe_chain op_le op_le (pv 1) (pv 0) (pv 2)))))))), ?_⟩
    obtain ⟨v, d, lo, hi, rfl, hd, q⟩ := h
    refine ⟨v, rfl, isi_int hd ⟨_, rfl, iteB (fun e1 => ⟨v, rfl, isi_bool hd ⟨_, rfl, ⟨_, rfl, iteB (fun e2 => ?_) (fun e2 => ?_)⟩⟩⟩) (fun e1 => ?_)⟩⟩
    · cases d with
      | int i =>
        obtain rfl : v = .int i := by
          rcases hd with hd | ⟨hd, _⟩
          · cases hd
            rfl
          · cases hd
        refine ⟨.int lo, rfl, .int i, rfl, lo, i, rfl, rfl, _, rfl, iteB (fun e3 => ⟨.int hi, rfl, i, hi, rfl, rfl, ?_⟩) (fun e3 => ?_)⟩
        · have q2 : Q (.bl (decide (lo ≤ i) && decide (i ≤ hi))) H := q
          rw [e3, Bool.true_and] at q2
          exact q2
        · have q2 : Q (.bl (decide (lo ≤ i) && decide (i ≤ hi))) H := q
          rw [e3, Bool.false_and] at q2
          exact q2
      | bool b => cases e2
      | _ => cases e1
    · cases d with
      | bool b => exact q
      | int i => cases e2
      | _ => cases e1
    · cases d with
      | int i => cases e1
      | bool b => cases e1
      | _ => exact q
abbrev s__law_mixed : Stmt := topS 27
theorem sc__law_mixed : FnScope ["_law_cell", "_law_k"] ["_law_cell", "_law_k"] (defScope s__law_mixed) := ⟨rfl, rfl, rfl, by decide +kernel, rfl, by decide +kernel, by decide +kernel⟩
def mixed (c k : Int) : Int := (c * (48271 + 2 * k * k) + 69621 * k + 11) % 2147483647 * 69621 % 2147483629
theorem mixed_nn (c k : Int) : 0 ≤ mixed c k := Int.emod_nonneg _ (by decide)
theorem mixed_lt (c k : Int) : mixed c k < 2147483629 := Int.emod_lt_of_pos _ (by decide)
def sp__law_mixed (K : PySem.W.Frag) : Sp := fun vs H Q _ => ∃ (c k : Int), vs = [.int c, .int k] ∧ 0 ≤ k ∧ k ≤ 1000 ∧ Q (.int (mixed c k)) H
theorem kk_bound {k : Int} (h0 : 0 ≤ k) (h1 : k ≤ 1000) : 0 ≤ k * k ∧ k * k ≤ 1000000 := by
  refine ⟨Int.mul_nonneg h0 h0, ?_⟩
  have h := Int.mul_le_mul h1 h1 h0 (by decide : (0 : Int) ≤ 1000)
  exact h
theorem ok__law_mixed (Z : BZ mg) (D : DefAt K mg "_law_mixed" s__law_mixed) : OkF P w K mg base 1 "_law_mixed" ["_law_cell", "_law_k"] (sp__law_mixed K) := by
  refine OkF.mk' D sc__law_mixed (fun _ _ _ _ _ _ us hl => match us, hl with | [_, _], _ => rfl) (fun vs H Q E h => ?_) (fun f cdv A outer s H vs Q E hr h => ?_)
  · first | (obtain ⟨_, rfl, _⟩ := h; rfl) | (obtain ⟨_, _, rfl, _⟩ := h; rfl) | (obtain ⟨_, _, _, rfl, _⟩ := h; rfl) | (obtain ⟨_, _, _, _, rfl, _⟩ := h; rfl) | (obtain ⟨_, _, _, _, _, rfl, _⟩ := h; rfl) | (obtain ⟨_, _, _, _, _, _, rfl, _⟩ := h; rfl) | (obtain ⟨_, _, _, _, _, _, _, rfl, _⟩ := h; rfl) | (obtain ⟨_, _, _, _, _, _, _, _, rfl, _⟩ := h; rfl) | (obtain ⟨_, _, _, _, _, _, _, _, _, rfl, _⟩ := h; rfl) | (obtain ⟨_, _, _, _, _, _, _, _, _, _, rfl, _⟩ := h; rfl) | (obtain ⟨_, _, _, _, _, _, _, _, _, _, _, rfl, _⟩ := h; rfl) | (obtain ⟨_, _, _, _, _, _, _, _, _, _, _, _, rfl, _⟩ := h; rfl) | (obtain ⟨_, _, _, _, _, _, _, _, _, _, _, _, _, rfl, _⟩ := h; rfl) | (obtain ⟨_, _, _, _, _, _, _, _, _, _, _, _, _, _, rfl, _⟩ := h; rfl)
  · refine ⟨_, PSs.nox ((pss_one (ps_ret (pe_op op_mod (pe_op op_mul (pe_op op_mod (pe_op op_add (pe_op op_add (pe_op op_mul (pv 0) (pe_op op_add pe_int (pe_op op_mul (pe_op op_mul pe_int (pv 1)) (pv 1)))) (pe_op op_mul pe_int (pv 1))) pe_int) pe_int) pe_int) pe_int)))), ?_⟩
    obtain ⟨c, k, rfl, h0, h1, q⟩ := h
    obtain ⟨k0, k1⟩ := kk_bound h0 h1
    have e2 : 2 * k * k = 2 * (k * k) := Int.mul_assoc 2 k k
    have m0 : 0 ≤ (c * (48271 + 2 * k * k) + 69621 * k + 11) % 2147483647 := Int.emod_nonneg _ (by decide)
    have m1 : (c * (48271 + 2 * k * k) + 69621 * k + 11) % 2147483647 < 2147483647 := Int.emod_lt_of_pos _ (by decide)
    refine ⟨_, rfl, _, rfl, 2, k, rfl, rfl, small_l (by decide), _, rfl, 2 * k, k, rfl, rfl, small_l (by omega), 48271, 2 * k * k, rfl, rfl, c, _, rfl, rfl, small_r ?_, _, rfl, 69621, k, rfl, rfl, small_l (by decide), _, _, rfl, rfl, _, 11, rfl, rfl, _, 2147483647, rfl, rfl, (show (0 : Int) < 2147483647 by decide), _, 69621, rfl, rfl, small_r (by decide), _, 2147483629, rfl, rfl, (show (0 : Int) < 2147483629 by decide), q⟩
    rw [e2]
    omega
abbrev s_is_list : Stmt := topS 17
theorem sc_is_list : FnScope ["thing"] ["thing"] (defScope s_is_list) := ⟨rfl, rfl, rfl, by decide +kernel, rfl, by decide +kernel, by decide +kernel⟩
theorem isListD_ne {ds : List PyData} (h : ¬ ds.length = 3) : isListD (.tuple ds) = false := by
  match ds, h with
  | [], _ => rfl
  | [_], _ => rfl
  | [_, _], _ => rfl
  | [_, _, _], h => exact absurd rfl h
  | _ :: _ :: c :: _ :: _, _ => cases c <;> rfl
theorem isListD_other {d : PyData} (h : isTupD d = false) : isListD d = false := by
  cases d with
  | tuple ds => cases h
  | _ => rfl
def sp_is_list (K : PySem.W.Frag) : Sp := fun vs H Q _ => ∃ (v : V) (d : PyData), vs = [v] ∧ Dz K H v d ∧ Q (.bl (isListD d)) H
theorem isListD_3 (a b c : PyData) : isListD (.tuple [a, b, c]) = (isWh0 a 1 (10 ^ 30) && (isWh0 c 0 200 && (match c with | .int m => isWh0 b 0 m | _ => false))) := by
  cases c with
  | int m => rfl
  | _ =>
    show false = (isWh0 a 1 (10 ^ 30) && (false && false))
    rw [Bool.false_and, Bool.and_false]
theorem ok_is_list (Z : BZ mg) (O_is_whole : OkF P w K mg base 1 "is_whole" ["thing", "least", "most"] (sp_is_whole K)) (G_MOST_VOTES : ∃ t, mg "MOST_VOTES" = some (.int (10 ^ 30) t)) (G_MOST_SEATS : ∃ t, mg "MOST_SEATS" = some (.int 200 t)) (D : DefAt K mg "is_list" s_is_list) : OkF P w K mg base 2 "is_list" ["thing"] (sp_is_list K) := by
  obtain ⟨t_MOST_VOTES, g_MOST_VOTES⟩ := G_MOST_VOTES
  obtain ⟨t_MOST_SEATS, g_MOST_SEATS⟩ := G_MOST_SEATS
  refine OkF.mk' D sc_is_list (fun _ _ _ _ _ _ us hl => match us, hl with | [_], _ => rfl) (fun vs H Q E h => ?_) (fun f cdv A outer s H vs Q E hr h => ?_)
  · first | (obtain ⟨_, rfl, _⟩ := h; rfl) | (obtain ⟨_, _, rfl, _⟩ := h; rfl) | (obtain ⟨_, _, _, rfl, _⟩ := h; rfl) | (obtain ⟨_, _, _, _, rfl, _⟩ := h; rfl) | (obtain ⟨_, _, _, _, _, rfl, _⟩ := h; rfl) | (obtain ⟨_, _, _, _, _, _, rfl, _⟩ := h; rfl) | (obtain ⟨_, _, _, _, _, _, _, rfl, _⟩ := h; rfl) | (obtain ⟨_, _, _, _, _, _, _, _, rfl, _⟩ := h; rfl) | (obtain ⟨_, _, _, _, _, _, _, _, _, rfl, _⟩ := h; rfl) | (obtain ⟨_, _, _, _, _, _, _, _, _, _, rfl, _⟩ := h; rfl) | (obtain ⟨_, _, _, _, _, _, _, _, _, _, _, rfl, _⟩ := h; rfl) | (obtain ⟨_, _, _, _, _, _, _, _, _, _, _, _, rfl, _⟩ := h; rfl) | (obtain ⟨_, _, _, _, _, _, _, _, _, _, _, _, _, rfl, _⟩ := h; rfl) | (obtain ⟨_, _, _, _, _, _, _, _, _, _, _, _, _, _, rfl, _⟩ := h; rfl)
  · refine ⟨_, PSs.nox ((pss_cons (ps_if (PW.pt (pw_or (pt_not (pt_val (pe_callB (call_isAK (K := K) rfl) (by rfl) Z.isinstance bt_isinstance (pa_cons (pv 0) (pa_cons (pe_bltn (v := .ty "tuple") (by rfl) Z.tuple bt_tuple rfl) pa_nil))))) (pw_or (pt_cmpR op_ne (pe_callB (call_len_seqK (K := K) rfl) (by rfl) Z.len bt_len (pa_cons (pv 0) pa_nil)) pe_int (nomark _)) (pw_or1 (pt_not (pt_val (pc O_is_whole (hr.mono (by decide)) passL (pa_cons (pe_ix (ix_tupK (K := K) rfl) (pv 0) pe_int (fun _ _ => rfl)) (pa_cons pe_int (pa_cons (pe_glob (v := .int (10 ^ 30)) rfl g_MOST_VOTES ⟨_, rfl⟩) pa_nil)))))))))) (pss_one (ps_ret pe_bl)) pss_nil)
      (pss_one (ps_ret (pe_and (pc O_is_whole (hr.mono (by decide)) passL (pa_cons (pe_ix (ix_tupK (K := K) rfl) (pv 0) pe_int (fun _ _ => rfl)) (pa_cons pe_int (pa_cons (pe_glob (v := .int 200) rfl g_MOST_SEATS ⟨_, rfl⟩) pa_nil)))) (pe_one (pc O_is_whole (hr.mono (by decide)) passL (pa_cons (pe_ix (ix_tupK (K := K) rfl) (pv 0) pe_int (fun _ _ => rfl)) (pa_cons pe_int (pa_cons (pe_ix (ix_tupK (K := K) rfl) (pv 0) pe_int (fun _ _ => rfl)) pa_nil)))))))))), ?_⟩
    obtain ⟨v, d, rfl, hd, q⟩ := h
    refine ⟨v, rfl, isi_tup hd ⟨_, rfl, ?_⟩⟩
    cases hT : isTupD d with
    | false =>
      rw [isListD_other hT] at q
      exact iteT q
    | true =>
      refine iteF ?_
      cases d with
      | tuple ds =>
        obtain ⟨a, xs, rfl, hS, hA⟩ : ∃ a xs, v = .ref a ∧ SqT K H a xs ∧ DpAll K H xs ds := by
          rcases hd with hd | ⟨hd, _⟩
          · cases hd with
            | tup h1 h2 => exact ⟨_, _, rfl, h1, h2⟩
          · cases hd
        have hl := dpa_len hA
        refine ⟨_, rfl, a, xs, rfl, .inr hS, rfl, _, rfl, ifNI (fun e => ?_) (fun e => ?_)⟩
        · rw [isListD_ne (fun z => e (by omega))] at q
          exact iteT q
        · have e3 : ds.length = 3 := by omega
          have e4 : xs.length = 3 := by omega
          match ds, e3, xs, e4, hS, hA, q with
          | [x, y, z], _, [vx, vy, vz], _, hS, hA, q =>
          cases hA with
          | cons hx hA =>
          cases hA with
          | cons hy hA =>
          cases hA with
          | cons hz hA =>
          cases hA
          rw [isListD_3] at q
          refine ⟨_, rfl, a, _, 0, vx, rfl, rfl, hS, atI_nat (j := 0) rfl, vx, x, 1, 10 ^ 30, rfl, .inl hx, _, rfl, iteNB (fun e1 => ?_) (fun e1 => ?_)⟩
          · rw [show isWh0 x 1 (10 ^ 30) = false from e1, Bool.false_and] at q
            exact q
          · rw [show isWh0 x 1 (10 ^ 30) = true from e1, Bool.true_and] at q
            refine ⟨_, rfl, a, _, 2, vz, rfl, rfl, hS, atI_nat (j := 2) rfl, vz, z, 0, 200, rfl, .inl hz, _, rfl, iteB (fun e2 => ?_) (fun e2 => ?_)⟩
            · rw [show isWh0 z 0 200 = true from e2, Bool.true_and] at q
              obtain ⟨m, rfl, m1, m2⟩ := wh_int (show isWh0 z 0 200 = true from e2)
              cases hz
              exact ⟨_, rfl, a, _, 1, vy, rfl, rfl, hS, atI_nat (j := 1) rfl, .ref a, rfl, a, _, 2, .int m, rfl, rfl, hS, atI_nat (j := 2) rfl, vy, y, 0, m, rfl, .inl hy, q⟩
            · rw [show isWh0 z 0 200 = false from e2, Bool.false_and] at q
              exact q
      | _ => cases hT
abbrev s_are_lists : Stmt := topS 18
theorem sc_are_lists : FnScope ["thing", "one"] ["thing"] (defScope s_are_lists) := ⟨rfl, rfl, rfl, by decide +kernel, rfl, by decide +kernel, by decide +kernel⟩
def sp_are_lists (K : PySem.W.Frag) : Sp := fun vs H Q _ => ∃ (v : V) (d : PyData), vs = [v] ∧ Dz K H v d ∧ ∀ H', Same H H' → Q (.bl (areListsD d)) H'
theorem areListsD_other {d : PyData} (h : isLstD d = false) : areListsD d = false := by
  cases d with
  | list ds => cases h
  | _ => rfl
theorem areListsD_def (ds : List PyData) : areListsD (.list ds) = (decide (1 ≤ ds.length) && (decide (ds.length ≤ 12) && ds.all isListD)) := rfl
theorem all_id {α : Type} (f : α → Bool) : ∀ l : List α, (l.map f).all id = l.all f
  | [] => rfl
  | x :: r => by
    rw [List.map_cons, List.all_cons, List.all_cons, all_id f r]
    rfl
theorem ok_are_lists (Z : BZ mg) (O_is_list : OkF P w K mg base 2 "is_list" ["thing"] (sp_is_list K)) (G_MOST_LISTS : ∃ t, mg "MOST_LISTS" = some (.int 12 t)) (D : DefAt K mg "are_lists" s_are_lists) : OkF P w K mg base 3 "are_lists" ["thing"] (sp_are_lists K) := by
  obtain ⟨t_MOST_LISTS, g_MOST_LISTS⟩ := G_MOST_LISTS
  refine OkF.mk' D sc_are_lists (fun _ _ _ _ _ _ us hl => match us, hl with | [_], _ => rfl) (fun vs H Q E h => ?_) (fun f cdv A outer s H vs Q E hr h => ?_)
  · first | (obtain ⟨_, rfl, _⟩ := h; rfl) | (obtain ⟨_, _, rfl, _⟩ := h; rfl) | (obtain ⟨_, _, _, rfl, _⟩ := h; rfl) | (obtain ⟨_, _, _, _, rfl, _⟩ := h; rfl) | (obtain ⟨_, _, _, _, _, rfl, _⟩ := h; rfl) | (obtain ⟨_, _, _, _, _, _, rfl, _⟩ := h; rfl) | (obtain ⟨_, _, _, _, _, _, _, rfl, _⟩ := h; rfl) | (obtain ⟨_, _, _, _, _, _, _, _, rfl, _⟩ := h; rfl) | (obtain ⟨_, _, _, _, _, _, _, _, _, rfl, _⟩ := h; rfl) | (obtain ⟨_, _, _, _, _, _, _, _, _, _, rfl, _⟩ := h; rfl) | (obtain ⟨_, _, _, _, _, _, _, _, _, _, _, rfl, _⟩ := h; rfl) | (obtain ⟨_, _, _, _, _, _, _, _, _, _, _, _, rfl, _⟩ := h; rfl) | (obtain ⟨_, _, _, _, _, _, _, _, _, _, _, _, _, rfl, _⟩ := h; rfl) | (obtain ⟨_, _, _, _, _, _, _, _, _, _, _, _, _, _, rfl, _⟩ := h; rfl)
  · refine ⟨_, PSs.nox ((pss_cons (ps_if (PW.pt (pw_or (pt_not (pt_val (pe_callB (call_isAK (K := K) rfl) (by rfl) Z.isinstance bt_isinstance (pa_cons (pv 0) (pa_cons (pe_bltn (v := .ty "list") (by rfl) Z.list bt_list rfl) pa_nil))))) (pw_or1 (pt_not (pt_chain op_le op_le pe_int (pe_callB (call_len_seqK (K := K) rfl) (by rfl) Z.len bt_len (pa_cons (pv 0) pa_nil)) (pe_glob (v := .int 12) rfl g_MOST_LISTS ⟨_, rfl⟩)))))) (pss_one (ps_ret pe_bl)) pss_nil)
      (pss_one (ps_ret (pe_callB (cr_allK (K := K) rfl rfl) (by rfl) Z.all bt_all (pa_cons (pe_lc (own := [("one", 1)]) (g := gName 1) (tt := tYes) rfl sc_are_lists.nd (pi_list (pv 0)) (blkOk_by (N := ["thing", "one"]) (sc := defScope s_are_lists) (own := [("one", 1)]) (by decide +kernel)) (fun _ _ _ _ _ => pg_name (i := 1) sc_are_lists.nd rfl (Or.inl rfl)) (fun _ _ _ _ _ => pts_nil) (fun _ _ _ _ _ => (pc O_is_list (hr.mono (by decide)) passL (pa_cons (pv 1) pa_nil)))) pa_nil)))))), ?_⟩
    obtain ⟨v, d, rfl, hd, q⟩ := h
    refine ⟨v, rfl, isi_lst hd ⟨_, rfl, ?_⟩⟩
    cases hT : isLstD d with
    | false =>
      rw [areListsD_other hT] at q
      exact iteT (q H (Same.refl H))
    | true =>
      refine iteF ?_
      cases d with
      | list ds =>
        obtain ⟨a, xs, rfl, hS, hA⟩ : ∃ a xs, v = .ref a ∧ SqL K H a xs ∧ DpAll K H xs ds := by
          rcases hd with hd | ⟨hd, _⟩
          · cases hd with
            | lst h1 h2 => exact ⟨_, _, rfl, h1, h2⟩
          · cases hd
        have hl := dpa_len hA
        rw [areListsD_def] at q
        have go : (1 ≤ ds.length ∧ ds.length ≤ 12) → ∀ R : VK, (∀ H', Same H H' → R (.bl (ds.all isListD)) H') → tCB (rAll K) (tCons (tLc (iList K (tVar 0)) (gName 1) tYes (tCall (sp_is_list K) [] E0 (tCons (tVar 1) tNil)) [1]) tNil) [some (.ref a), none] H R := by
          intro hb R k
          refine ⟨_, rfl, a, rfl, ⟨_, hS⟩, fun D nD => lc_list (K := K) (a := a) (xs := xs) (fun i H' => Same H H' ∧ H' D = some (.lst (((ds.take i).map isListD).map V.bl))) ⟨same_new nD, upd_same⟩ (fun i H' _ ⟨s, _⟩ => same_seq s hS) (fun i x H' hx ⟨s, e⟩ => ?_) (fun H' ⟨s, e⟩ => ?_)⟩
          · obtain ⟨dx, ex, hdx⟩ := dpa_getV hA hx
            refine ⟨rfl, _, rfl, x, dx, rfl, .inl (dp_same s hdx), _, e, szl ?_, same_mut s nD, ?_⟩
            · rw [List.length_map, List.length_map, List.length_take]
              omega
            · rw [upd_same, List.take_add_one, ex, List.map_append, List.map_append]
              rfl
          · have e2 : ds.take xs.length = ds := List.take_of_length_le (by omega)
            rw [e2] at e
            refine ⟨D, _, rfl, sqL e, ?_⟩
            rw [all_id]
            exact k H' s
        refine ⟨_, rfl, a, xs, rfl, .inl hS, 1, _, rfl, rfl, _, rfl, ?_⟩
        by_cases h1 : 1 ≤ ds.length
        · rw [decide_eq_true h1, Bool.true_and] at q
          refine (show (if decide ((1 : Int) ≤ (xs.length : Int)) = true then _ else _) from ?_)
          rw [decide_eq_true (show (1 : Int) ≤ (xs.length : Int) by omega)]
          refine iteT ⟨_, _, rfl, rfl, _, rfl, ?_⟩
          by_cases h2 : ds.length ≤ 12
          · rw [decide_eq_true h2, Bool.true_and] at q
            rw [decide_eq_true (show (xs.length : Int) ≤ 12 by omega)]
            exact iteF (go ⟨h1, h2⟩ _ q)
          · rw [decide_eq_false h2, Bool.false_and] at q
            rw [decide_eq_false (show ¬ (xs.length : Int) ≤ 12 by omega)]
            exact iteT (q H (Same.refl H))
        · rw [decide_eq_false h1, Bool.false_and] at q
          refine (show (if decide ((1 : Int) ≤ (xs.length : Int)) = true then _ else _) from ?_)
          rw [decide_eq_false (show ¬ (1 : Int) ≤ (xs.length : Int) by omega)]
          exact iteF ⟨_, rfl, iteT (q H (Same.refl H))⟩
      | _ => cases hT
abbrev s_need_lists : Stmt := topS 19
theorem sc_need_lists : FnScope ["thing"] ["thing"] (defScope s_need_lists) := ⟨rfl, rfl, rfl, by decide +kernel, rfl, by decide +kernel, by decide +kernel⟩
def sp_need_lists (K : PySem.W.Frag) : Sp := fun vs H Q E => ∃ (v : V) (d : PyData), vs = [v] ∧ Dz K H v d ∧ (areListsD d = false → ∀ H', Same H H' → E (.ref (He.ga K "BadLists")) none H') ∧
  (∀ (rs : List Row) (p : Addr) (xs : List V), d = rowsD rs → Good rs → v = .ref p → Rws K H p xs rs → ∀ H' p', Same H H' → H p' = none → H' p' = some (.lst xs) → Q (.ref p') H')
theorem ok_need_lists (Z : BZ mg) (O_are_lists : OkF P w K mg base 3 "are_lists" ["thing"] (sp_are_lists K)) (E_BadLists : ExF K mg "BadLists") (D : DefAt K mg "need_lists" s_need_lists) : OkF P w K mg base 4 "need_lists" ["thing"] (sp_need_lists K) := by
  refine OkF.mk' D sc_need_lists (fun _ _ _ _ _ _ us hl => match us, hl with | [_], _ => rfl) (fun vs H Q E h => ?_) (fun f cdv A outer s H vs Q E hr h => ?_)
  · first | (obtain ⟨_, rfl, _⟩ := h; rfl) | (obtain ⟨_, _, rfl, _⟩ := h; rfl) | (obtain ⟨_, _, _, rfl, _⟩ := h; rfl) | (obtain ⟨_, _, _, _, rfl, _⟩ := h; rfl) | (obtain ⟨_, _, _, _, _, rfl, _⟩ := h; rfl) | (obtain ⟨_, _, _, _, _, _, rfl, _⟩ := h; rfl) | (obtain ⟨_, _, _, _, _, _, _, rfl, _⟩ := h; rfl) | (obtain ⟨_, _, _, _, _, _, _, _, rfl, _⟩ := h; rfl) | (obtain ⟨_, _, _, _, _, _, _, _, _, rfl, _⟩ := h; rfl) | (obtain ⟨_, _, _, _, _, _, _, _, _, _, rfl, _⟩ := h; rfl) | (obtain ⟨_, _, _, _, _, _, _, _, _, _, _, rfl, _⟩ := h; rfl) | (obtain ⟨_, _, _, _, _, _, _, _, _, _, _, _, rfl, _⟩ := h; rfl) | (obtain ⟨_, _, _, _, _, _, _, _, _, _, _, _, _, rfl, _⟩ := h; rfl) | (obtain ⟨_, _, _, _, _, _, _, _, _, _, _, _, _, _, rfl, _⟩ := h; rfl)
  · refine ⟨_, id ((pss_cons (ps_if (pt_not (pt_val (pc O_are_lists (hr.mono (by decide)) passL (pa_cons (pv 0) pa_nil)))) (pss_one (ps_raise rfl (takes_of rfl rfl rfl rfl) (pmk_own PySem.F.excBase_ValueError E_BadLists.e E_BadLists.g E_BadLists.k (raises_own E_BadLists.b E_BadLists.t) rfl))) pss_nil)
      (pss_one (ps_ret (pe_callTy (call_list_ofK (K := K) rfl) (by rfl) Z.list bt_list (pa_cons (pv 0) pa_nil)))))), ?_⟩
    obtain ⟨v, d, rfl, hd, q1, q2⟩ := h
    refine ⟨v, rfl, v, d, rfl, hd, fun H1 s1 => ⟨_, rfl, iteNB (fun e => q1 e H1 s1) (fun e => ?_)⟩⟩
    obtain ⟨rs, rfl, g⟩ := areListsD_is e
    obtain ⟨p, xs, rfl, hR⟩ : ∃ p xs, v = .ref p ∧ Rws K H p xs rs := by
      rcases hd with hd | ⟨hd, _⟩
      · exact dp_rows_ref hd
      · cases hd
    exact ⟨_, rfl, p, xs, rfl, .inl (hR.same s1).l, fun l nl => q2 rs p xs rfl g rfl hR _ l (s1.trans (same_new nl)) (s1.free nl) upd_same⟩
abbrev s__law_cell_at : Stmt := topS 26
theorem sc__law_cell_at : FnScope ["_law_script", "_law_k"] ["_law_script", "_law_k"] (defScope s__law_cell_at) := ⟨rfl, rfl, rfl, by decide +kernel, rfl, by decide +kernel, by decide +kernel⟩
def sp__law_cell_at (K : PySem.W.Frag) : Sp := fun vs H Q _ => ∃ (a : Addr) (ns : List Int) (k : Nat), vs = [.ref a, .int (k : Int)] ∧ SqL K H a (ns.map V.int) ∧ ∀ c : Int, Q (.int c) H
theorem ok__law_cell_at (Z : BZ mg) (D : DefAt K mg "_law_cell_at" s__law_cell_at) : OkF P w K mg base 1 "_law_cell_at" ["_law_script", "_law_k"] (sp__law_cell_at K) := by
  refine OkF.mk' D sc__law_cell_at (fun _ _ _ _ _ _ us hl => match us, hl with | [_, _], _ => rfl) (fun vs H Q E h => ?_) (fun f cdv A outer s H vs Q E hr h => ?_)
  · first | (obtain ⟨_, rfl, _⟩ := h; rfl) | (obtain ⟨_, _, rfl, _⟩ := h; rfl) | (obtain ⟨_, _, _, rfl, _⟩ := h; rfl) | (obtain ⟨_, _, _, _, rfl, _⟩ := h; rfl) | (obtain ⟨_, _, _, _, _, rfl, _⟩ := h; rfl) | (obtain ⟨_, _, _, _, _, _, rfl, _⟩ := h; rfl) | (obtain ⟨_, _, _, _, _, _, _, rfl, _⟩ := h; rfl) | (obtain ⟨_, _, _, _, _, _, _, _, rfl, _⟩ := h; rfl) | (obtain ⟨_, _, _, _, _, _, _, _, _, rfl, _⟩ := h; rfl) | (obtain ⟨_, _, _, _, _, _, _, _, _, _, rfl, _⟩ := h; rfl) | (obtain ⟨_, _, _, _, _, _, _, _, _, _, _, rfl, _⟩ := h; rfl) | (obtain ⟨_, _, _, _, _, _, _, _, _, _, _, _, rfl, _⟩ := h; rfl) | (obtain ⟨_, _, _, _, _, _, _, _, _, _, _, _, _, rfl, _⟩ := h; rfl) | (obtain ⟨_, _, _, _, _, _, _, _, _, _, _, _, _, _, rfl, _⟩ := h; rfl)
  · refine ⟨_, PSs.nox ((pss_cons (ps_if (pt_cmpR op_lt (pv 1) (pe_callB (call_len_seqK (K := K) rfl) (by rfl) Z.len bt_len (pa_cons (pv 0) pa_nil)) (nomark _)) (pss_one (ps_ret (pe_ix (ix_listK (K := K) rfl) (pv 0) (pv 1) (fun _ _ => rfl)))) pss_nil)
      (pss_one (ps_ret pe_int)))), ?_⟩
    obtain ⟨a, ns, k, rfl, hS, q⟩ := h
    refine ⟨_, rfl, _, rfl, a, _, rfl, .inl hS, _, _, rfl, rfl, _, rfl, ?_⟩
    rw [List.length_map]
    refine ifD (fun c => ?_) (fun c => ?_)
    · exact ⟨_, rfl, _, rfl, a, _, (k : Int), _, rfl, rfl, hS, int_ix (Int.ofNat_lt.mp c), q _⟩
    · exact q 0
abbrev s__law_votes : Stmt := topS 28
theorem sc__law_votes : FnScope ["_law_script", "_law_many", "_law_found", "_law_k", "_law_cell"] ["_law_script", "_law_many"] (defScope s__law_votes) := ⟨rfl, rfl, rfl, by decide +kernel, rfl, by decide +kernel, by decide +kernel⟩
def sp__law_votes (K : PySem.W.Frag) : Sp := fun vs H Q _ => ∃ (a : Addr) (ns : List Int) (m : Int), vs = [.ref a, .int m] ∧ SqL K H a (ns.map V.int) ∧ 1 ≤ m ∧ m ≤ 100 ∧
  ∀ H' b (fs : List Int), Same H H' → H b = none → H' b = some (.lst (fs.map V.int)) → fs.length = m.toNat → (∀ x ∈ fs, 0 ≤ x) → Q (.ref b) H'
theorem mem_set_int {l : List Int} {i : Nat} {a x : Int} (h : x ∈ l.set i a) : x = a ∨ x ∈ l := by
  rcases List.mem_or_eq_of_mem_set h with h | h
  · exact .inr h
  · exact .inl h
theorem ok__law_votes (Z : BZ mg) (O__law_mixed : OkF P w K mg base 1 "_law_mixed" ["_law_cell", "_law_k"] (sp__law_mixed K)) (D : DefAt K mg "_law_votes" s__law_votes) : OkF P w K mg base 2 "_law_votes" ["_law_script", "_law_many"] (sp__law_votes K) := by
  refine OkF.mk' D sc__law_votes (fun _ _ _ _ _ _ us hl => match us, hl with | [_, _], _ => rfl) (fun vs H Q E h => ?_) (fun f cdv A outer s H vs Q E hr h => ?_)
  · first | (obtain ⟨_, rfl, _⟩ := h; rfl) | (obtain ⟨_, _, rfl, _⟩ := h; rfl) | (obtain ⟨_, _, _, rfl, _⟩ := h; rfl) | (obtain ⟨_, _, _, _, rfl, _⟩ := h; rfl) | (obtain ⟨_, _, _, _, _, rfl, _⟩ := h; rfl) | (obtain ⟨_, _, _, _, _, _, rfl, _⟩ := h; rfl) | (obtain ⟨_, _, _, _, _, _, _, rfl, _⟩ := h; rfl) | (obtain ⟨_, _, _, _, _, _, _, _, rfl, _⟩ := h; rfl) | (obtain ⟨_, _, _, _, _, _, _, _, _, rfl, _⟩ := h; rfl) | (obtain ⟨_, _, _, _, _, _, _, _, _, _, rfl, _⟩ := h; rfl) | (obtain ⟨_, _, _, _, _, _, _, _, _, _, _, rfl, _⟩ := h; rfl) | (obtain ⟨_, _, _, _, _, _, _, _, _, _, _, _, rfl, _⟩ := h; rfl) | (obtain ⟨_, _, _, _, _, _, _, _, _, _, _, _, _, rfl, _⟩ := h; rfl) | (obtain ⟨_, _, _, _, _, _, _, _, _, _, _, _, _, _, rfl, _⟩ := h; rfl)
  · refine ⟨_, PSs.nox ((pss_cons (ps_set (i := 2) sc__law_votes.nd rfl (Or.inl rfl) (pe_op op_rep (pe_lst (pa_cons pe_int pa_nil)) (pv 1)))
      (pss_cons (ps_for PassesOwn.never rfl (pi_enum (by rfl) Z.enumerate (pa_cons (pv 0) pa_nil)) (pg_tup rfl (pgs_cons (pg_name (i := 3) sc__law_votes.nd rfl (Or.inl rfl)) (pgs_cons (pg_name (i := 4) sc__law_votes.nd rfl (Or.inl rfl)) pgs_nil))) (pss_one (ps_asg (pe_op op_mod (pe_op op_add (pe_op op_mul (pe_ix (ix_listK (K := K) rfl) (pv 2) (pe_op op_mod (pv 3) (pv 1)) (fun _ _ => rfl)) pe_int) (pc O__law_mixed (hr.mono (by decide)) passL (pa_cons (pv 4) (pa_cons (pe_op op_add pe_int (pe_op op_mod (pv 3) pe_int)) pa_nil)))) (pe_op op_pow pe_int pe_int)) (pg_sub (pv 2) (pe_op op_mod (pv 3) (pv 1)) set_list))))
      (pss_one (ps_ret (pv 2)))))), ?_⟩
    obtain ⟨a, ns, m, rfl, hS, m1, m2, q⟩ := h
    refine ⟨sz (show 1 ≤ 100000 by decide), fun p np => ⟨_, rfl, p, m, [.int 0], rfl, rfl, upd_same, by omega, by omega, sz (by show 1 * m.toNat ≤ 100000; omega), fun b nb => ?_⟩⟩
    have s1 := same_new (o := .lst [.int 0]) np
    have s2 := same_new (o := .lst (List.replicate m.toNat [V.int 0]).flatten) nb
    refine ⟨.ref a, rfl, a, _, rfl, same_seq (s1.trans s2) hS, for_it (walk_enum (xs := ns.map V.int)) (fun i σ' H' => ∃ (x3 x4 : Option V) (fs : List Int), σ' = [some (V.ref a), some (V.int m), some (V.ref b), x3, x4] ∧ Same H H' ∧ H' b = some (.lst (fs.map V.int)) ∧ fs.length = m.toNat ∧ ∀ x ∈ fs, 0 ≤ x)
      ⟨none, none, List.replicate m.toNat 0, rfl, s1.trans s2, ?_, List.length_replicate, fun x hx => by rw [List.eq_of_mem_replicate hx]; exact Int.le_refl _⟩ (fun i σ' H' _ hp => ?_) (fun i x σ' H1 H' hi hp hy => ?_) (fun σ' H' hp => ?_)⟩
    · rw [upd_same, List.map_replicate]
      congr 2
      generalize m.toNat = k
      induction k with
      | zero => rfl
      | succ k ih => rw [List.replicate_succ, List.flatten_cons, ih, List.replicate_succ]; rfl
    · obtain ⟨_, _, _, _, s, _⟩ := hp
      exact same_seq s hS
    · obtain ⟨x3, x4, fs, rfl, s, eb, hf, h0⟩ := hp
      obtain ⟨tp, v1, v2, rfl, nt, rfl, e1, e2⟩ := hy
      cases e1
      obtain ⟨cell, rfl, _⟩ := int_at e2
      have sT := same_new (o := .tup [.int (i : Nat), .int cell]) nt
      have nbH := same_free s1 nb
      have a0 := Int.emod_nonneg (i : Int) (show m ≠ 0 by omega)
      have a1 := Int.emod_lt_of_pos (i : Int) (show (0 : Int) < m by omega)
      have b0 := Int.emod_nonneg (i : Int) (show (50 : Int) ≠ 0 by decide)
      have b1 := Int.emod_lt_of_pos (i : Int) (show (0 : Int) < 50 by decide)
      have hl : (i : Int) % m < (fs.length : Int) := by rw [hf]; omega
      have ebT := sT _ _ eb
      refine ⟨tp, _, rfl, sqT upd_same, rfl, _, _, rfl, _, _, rfl, rfl, ?_⟩
      refine ⟨_, rfl, _, rfl, _, rfl, _, _, rfl, rfl, (show 0 < m by omega), b, _, _, _, rfl, rfl, sqL ebT, int_ixI a0 hl, _, _, rfl, rfl, small_r (by decide), ?_⟩
      refine ⟨_, rfl, _, rfl, (i : Int), 50, rfl, rfl, (show (0 : Int) < 50 by decide), 2, _, rfl, rfl, cell, 2 + (i : Int) % 50, rfl, by omega, by omega, _, _, rfl, rfl, 10, 30, rfl, rfl, ⟨by decide, by decide, by decide⟩, _, _, rfl, rfl, (show (0 : Int) < 10 ^ 30 by decide), ?_⟩
      refine ⟨_, rfl, _, rfl, _, rfl, _, _, rfl, rfl, (show 0 < m by omega), b, _, _, ((i : Int) % m).toNat, rfl, rfl, ebT, ?_, ?_⟩
      · rw [List.length_map]
        have h := ixN_n (n := fs.length) (j := ((i : Int) % m).toNat) (by omega)
        rw [Int.toNat_of_nonneg a0] at h
        exact h
      · rw [map_set_int]
        refine ⟨_, _, _, rfl, same_mut (s.trans sT) nbH, upd_same, by rw [List.length_set]; exact hf, fun x hx => ?_⟩
        rcases mem_set_int hx with rfl | hx
        · exact Int.emod_nonneg _ (by decide)
        · exact h0 x hx
    · obtain ⟨x3, x4, fs, rfl, s, eb, hf, h0⟩ := hp
      exact ⟨_, rfl, q H' b fs s (same_free s1 nb) eb hf h0⟩
abbrev s__law_lists : Stmt := topS 29
theorem sc__law_lists : FnScope ["_law_script", "_law_most", "_law_head", "_law_many", "_law_rows", "_law_k", "_law_votes_here", "_law_size", "_law_count", "_law_number_here", "_law_least", "_law_cap"] ["_law_script", "_law_most"] (defScope s__law_lists) := ⟨rfl, rfl, rfl, by decide +kernel, rfl, by decide +kernel, by decide +kernel⟩
def sp__law_lists (K : PySem.W.Frag) : Sp := fun vs H Q _ => ∃ (a : Addr) (ns : List Int) (m : Int), vs = [.ref a, .int m] ∧ SqL K H a (ns.map V.int) ∧ 1 ≤ m ∧ m ≤ 12 ∧
  ∀ H' p xs (rs : List Row), Same H H' → H p = none → H' p = some (.lst xs) → Rws K H' p xs rs → Good rs → (rs.length : Int) ≤ m → Q (.ref p) H'
theorem rws_snoc {K : PySem.W.Frag} {H : Hp} {p : Addr} {xs : List V} {rs : List Row} {t : Addr} {r : Row} (h : Rws K H p xs rs) (ht : SqT K H t [.int r.1, .int r.2.1, .int r.2.2]) {H' : Hp} (e2 : ∀ a ys, SqT K H a ys → SqT K H' a ys) (hp : H' p = some (.lst (xs ++ [.ref t]))) : Rws K H' p (xs ++ [.ref t]) (rs ++ [r]) := by
  refine ⟨sqL hp, by rw [List.length_append, List.length_append, h.n]; rfl, fun i x s h1 h2 => ?_⟩
  by_cases hi : i < xs.length
  · rw [List.getElem?_append_left hi] at h1
    rw [List.getElem?_append_left (by rw [← h.n]; exact hi)] at h2
    obtain ⟨a, h3, h4⟩ := h.at_ i x s h1 h2
    exact ⟨a, h3, e2 _ _ h4⟩
  · rw [List.getElem?_append_right (Nat.not_lt.mp hi)] at h1
    rw [List.getElem?_append_right (by rw [← h.n]; exact Nat.not_lt.mp hi), ← h.n] at h2
    cases hj : i - xs.length with
    | zero =>
      rw [hj] at h1 h2
      cases h1
      cases h2
      exact ⟨t, rfl, e2 _ _ ht⟩
    | succ j =>
      rw [hj] at h1
      cases h1
theorem ok__law_lists (Z : BZ mg) (O__law_mixed : OkF P w K mg base 1 "_law_mixed" ["_law_cell", "_law_k"] (sp__law_mixed K)) (O__law_cell_at : OkF P w K mg base 1 "_law_cell_at" ["_law_script", "_law_k"] (sp__law_cell_at K)) (O__law_votes : OkF P w K mg base 2 "_law_votes" ["_law_script", "_law_many"] (sp__law_votes K)) (D : DefAt K mg "_law_lists" s__law_lists) : OkF P w K mg base 3 "_law_lists" ["_law_script", "_law_most"] (sp__law_lists K) := by
  refine OkF.mk' D sc__law_lists (fun _ _ _ _ _ _ us hl => match us, hl with | [_, _], _ => rfl) (fun vs H Q E h => ?_) (fun f cdv A outer s H vs Q E hr h => ?_)
  · first | (obtain ⟨_, rfl, _⟩ := h; rfl) | (obtain ⟨_, _, rfl, _⟩ := h; rfl) | (obtain ⟨_, _, _, rfl, _⟩ := h; rfl) | (obtain ⟨_, _, _, _, rfl, _⟩ := h; rfl) | (obtain ⟨_, _, _, _, _, rfl, _⟩ := h; rfl) | (obtain ⟨_, _, _, _, _, _, rfl, _⟩ := h; rfl) | (obtain ⟨_, _, _, _, _, _, _, rfl, _⟩ := h; rfl) | (obtain ⟨_, _, _, _, _, _, _, _, rfl, _⟩ := h; rfl) | (obtain ⟨_, _, _, _, _, _, _, _, _, rfl, _⟩ := h; rfl) | (obtain ⟨_, _, _, _, _, _, _, _, _, _, rfl, _⟩ := h; rfl) | (obtain ⟨_, _, _, _, _, _, _, _, _, _, _, rfl, _⟩ := h; rfl) | (obtain ⟨_, _, _, _, _, _, _, _, _, _, _, _, rfl, _⟩ := h; rfl) | (obtain ⟨_, _, _, _, _, _, _, _, _, _, _, _, _, rfl, _⟩ := h; rfl) | (obtain ⟨_, _, _, _, _, _, _, _, _, _, _, _, _, _, rfl, _⟩ := h; rfl)
  · refine ⟨_, PSs.nox ((pss_cons (ps_set (i := 2) sc__law_lists.nd rfl (Or.inl rfl) (pc O__law_mixed (hr.mono (by decide)) passL (pa_cons (pc O__law_cell_at (hr.mono (by decide)) passL (pa_cons (pv 0) (pa_cons pe_int pa_nil))) (pa_cons pe_int pa_nil))))
      (pss_cons (ps_set (i := 3) sc__law_lists.nd rfl (Or.inl rfl) (pe_op op_add pe_int (pe_op op_mod (pv 2) (pv 1))))
      (pss_cons (ps_set (i := 4) sc__law_lists.nd rfl (Or.inl rfl) (pe_lst pa_nil))
      (pss_cons (ps_for PassesOwn.never rfl (pi_enum (by rfl) Z.enumerate (pa_cons (pc O__law_votes (hr.mono (by decide)) passL (pa_cons (pv 0) (pa_cons (pv 3) pa_nil))) pa_nil)) (pg_tup rfl (pgs_cons (pg_name (i := 5) sc__law_lists.nd rfl (Or.inl rfl)) (pgs_cons (pg_name (i := 6) sc__law_lists.nd rfl (Or.inl rfl)) pgs_nil))) (pss_cons (ps_set (i := 7) sc__law_lists.nd rfl (Or.inl rfl) (pe_ix (ix_listK (K := K) rfl) (pe_lst (pa_cons (pe_op op_pow pe_int pe_int) (pa_cons pe_int (pa_cons pe_int (pa_cons (pe_op op_pow pe_int pe_int) (pa_cons pe_int pa_nil)))))) (pe_op op_mod (pe_op op_fdiv (pv 2) pe_int) pe_int) (fun _ _ => rfl)))
      (pss_cons (ps_set (i := 8) sc__law_lists.nd rfl (Or.inl rfl) (pe_op op_add pe_int (pe_op op_mod (pv 6) (pv 7))))
      (pss_cons (ps_if (pt_cmpR op_eq (pv 7) pe_int (nomark _)) (pss_one (ps_set (i := 8) sc__law_lists.nd rfl (Or.inl rfl) (pe_op op_mul pe_int (pv 8)))) pss_nil)
      (pss_cons (ps_set (i := 9) sc__law_lists.nd rfl (Or.inl rfl) (pc O__law_mixed (hr.mono (by decide)) passL (pa_cons (pv 6) (pa_cons (pe_op op_add pe_int (pv 5)) pa_nil))))
      (pss_cons (ps_set (i := 10) sc__law_lists.nd rfl (Or.inl rfl) (pe_ix (ix_listK (K := K) rfl) (pe_lst (pa_cons pe_int (pa_cons (pe_op op_mod (pv 9) pe_int) (pa_cons pe_int (pa_cons (pe_op op_mod (pv 9) pe_int) pa_nil))))) (pe_op op_mod (pe_op op_fdiv (pv 2) pe_int) pe_int) (fun _ _ => rfl)))
      (pss_cons (ps_set (i := 11) sc__law_lists.nd rfl (Or.inl rfl) (pe_ix (ix_listK (K := K) rfl) (pe_lst (pa_cons pe_int (pa_cons (pe_op op_add (pv 10) (pe_op op_mod (pe_op op_fdiv (pv 9) pe_int) pe_int)) (pa_cons pe_int (pa_cons (pe_op op_sub pe_int (pe_op op_mod (pe_op op_fdiv (pv 9) pe_int) pe_int)) pa_nil))))) (pe_op op_mod (pe_op op_fdiv (pv 2) pe_int) pe_int) (fun _ _ => rfl)))
      (pss_one (ps_expr (pe_bm PySem.F.plainAttrs_list PySem.F.slot_list_append PySem.F.type_list_append mt_append (pv 4) (pa_cons (pe_tup (pa_cons (pv 8) (pa_cons (pv 10) (pa_cons (pe_callB (call_max2 rfl) (by rfl) Z.max bt_max (pa_cons (pv 10) (pa_cons (pv 11) pa_nil))) pa_nil)))) pa_nil)))))))))))
      (pss_one (ps_ret (pv 4)))))))), ?_⟩
    obtain ⟨a, ns, m, rfl, hS, m1, m2, q⟩ := h
    refine ⟨_, rfl, a, ns, 0, rfl, hS, fun c => ?_⟩
    refine ⟨c, 1, rfl, by decide, by decide, ?_⟩
    have hd0 := mixed_nn c 1
    have k0 := Int.emod_nonneg (mixed c 1) (show m ≠ 0 by omega)
    have k1 := Int.emod_lt_of_pos (mixed c 1) (show (0 : Int) < m by omega)
    refine ⟨_, rfl, _, rfl, _, _, rfl, rfl, (show 0 < m by omega), 1, _, rfl, rfl, sz (show 0 ≤ 100000 by decide), fun b nb => ?_⟩
    have s1 := same_new (o := .lst []) nb
    refine ⟨_, rfl, _, rfl, a, ns, _, rfl, same_seq s1 hS, by omega, by omega, fun H1 vp vs s2 nvp evp hvl hv0 => ?_⟩
    have hbv : b ≠ vp := fun e => by
      rw [← e, upd_same] at nvp
      cases nvp
    refine ⟨vp, _, rfl, sqL evp, for_it (walk_enum (xs := vs.map V.int)) (fun i σ' H' => ∃ (x5 x6 x7 x8 x9 x10 x11 : Option V) (ys : List V) (rs : List Row), σ' = [some (V.ref a), some (V.int m), some (V.int (mixed c 1)), some (V.int (1 + mixed c 1 % m)), some (V.ref b), x5, x6, x7, x8, x9, x10, x11] ∧ Same H H' ∧ H' vp = some (.lst (vs.map V.int)) ∧ H' b = some (.lst ys) ∧ Rws K H' b ys rs ∧ rs.length = i ∧ (∀ r ∈ rs, GoodRow r))
      ⟨none, none, none, none, none, none, none, [], [], rfl, s1.trans s2, evp, s2 _ _ upd_same, ⟨sqL (s2 _ _ upd_same), rfl, fun i x r h1 _ => by cases h1⟩, rfl, fun r hr => by cases hr⟩ (fun i σ' H' _ hp => ?_) (fun i x σ' H1 H' hi hp hy => ?_) (fun σ' H' hp => ?_)⟩
    · obtain ⟨_, _, _, _, _, _, _, _, _, _, _, e, _⟩ := hp
      exact sqL e
    · obtain ⟨x5, x6, x7, x8, x9, x10, x11, ys, rs, rfl, s, ev, eb, hR, hrl, hg⟩ := hp
      obtain ⟨tp, v1, v2, rfl, nt, rfl, e1, e2⟩ := hy
      cases e1
      obtain ⟨vo, rfl, hvo⟩ := int_at e2
      have hvo0 := hv0 vo (List.mem_of_getElem? hvo)
      have sT := same_new (o := .tup [.int (i : Nat), .int vo]) nt
      have hi12 : i < 12 := by
        rw [List.length_map, hvl] at hi
        omega
      refine ⟨tp, _, rfl, sqT upd_same, rfl, _, _, rfl, _, _, rfl, rfl, ?_⟩
      -- the size
      obtain ⟨size, ⟨z1, z2⟩, hz⟩ := pick (n := mixed c 1 / 12) (fs := [10 ^ 30, 1000, 6, 10 ^ 30, 40]) (P := fun z => 6 ≤ z ∧ z ≤ 10 ^ 30) (by decide) (by decide)
      refine ⟨10, 30, rfl, rfl, ⟨by decide, by decide, by decide⟩, 10, 30, rfl, rfl, ⟨by decide, by decide, by decide⟩, sz (show 5 ≤ 100000 by decide), fun p1 np1 => ⟨_, rfl, _, 12, rfl, rfl, ⟨by decide, by decide⟩, _, 5, rfl, rfl, (show (0 : Int) < 5 by decide), p1, _, _, _, rfl, rfl, sqL upd_same, hz, ?_⟩⟩
      have sP1 := same_new (o := .lst [V.int (10 ^ 30), .int 1000, .int 6, .int (10 ^ 30), .int 40]) np1
      have w0 := Int.emod_nonneg vo (show size ≠ 0 by omega)
      have w1 := Int.emod_lt_of_pos vo (show (0 : Int) < size by omega)
      refine ⟨_, rfl, _, rfl, _, _, rfl, rfl, (show 0 < size by omega), 1, _, rfl, rfl, ?_⟩
      have pw : (6000 : Int) ≤ 10 ^ 30 := by decide
      have g1 : 1 ≤ 1 + vo % size ∧ 1 + vo % size ≤ 10 ^ 30 := by omega
      have g2 : size = 40 → 1 ≤ 60 * (1 + vo % size) ∧ 60 * (1 + vo % size) ≤ 10 ^ 30 := fun e => by
        rw [e] at w1 ⊢
        omega
      refine ⟨_, rfl, rfl, _, rfl, ifI (fun e => ⟨_, rfl, 60, _, rfl, rfl, small_l (by decide), ?_⟩) (fun e => ?_)⟩
      · refine ⟨_, rfl, _, rfl, 60, (i : Int), rfl, rfl, vo, 60 + (i : Int), rfl, by omega, by omega, ?_⟩
        have hN := mixed_nn vo (60 + (i : Int))
        obtain ⟨lo, ⟨l0, l1⟩, hlo⟩ := pick (n := mixed c 1 / 60) (fs := [0, mixed vo (60 + (i : Int)) % 4, 0, mixed vo (60 + (i : Int)) % 30]) (P := fun z => 0 ≤ z ∧ z ≤ 29) (show 0 < 4 by decide) (fun x hx => by
          simp only [List.mem_cons, List.not_mem_nil, or_false] at hx
          omega)
        refine ⟨_, rfl, _, 4, rfl, rfl, (show (0 : Int) < 4 by decide), _, rfl, _, 30, rfl, rfl, (show (0 : Int) < 30 by decide), sz (show 4 ≤ 100000 by decide), fun p2 np2 => ⟨_, rfl, _, 60, rfl, rfl, ⟨by decide, by decide⟩, _, 4, rfl, rfl, (show (0 : Int) < 4 by decide), p2, _, _, _, rfl, rfl, sqL upd_same, hlo, ?_⟩⟩
        have sP2 := same_new (o := .lst [V.int 0, .int (mixed vo (60 + (i : Int)) % 4), .int 0, .int (mixed vo (60 + (i : Int)) % 30)]) np2
        obtain ⟨hi, ⟨h0, h1⟩, hhi⟩ := pick (n := mixed c 1 / 60) (fs := [200, lo + mixed vo (60 + (i : Int)) / 30 % 9, 200, 200 - mixed vo (60 + (i : Int)) / 30 % 150]) (P := fun z => 0 ≤ z ∧ z ≤ 200) (show 0 < 4 by decide) (fun x hx => by
          simp only [List.mem_cons, List.not_mem_nil, or_false] at hx
          omega)
        refine ⟨_, rfl, _, rfl, _, 30, rfl, rfl, ⟨by decide, by decide⟩, _, 9, rfl, rfl, (show (0 : Int) < 9 by decide), _, _, rfl, rfl, _, rfl, _, 30, rfl, rfl, ⟨by decide, by decide⟩, _, 150, rfl, rfl, (show (0 : Int) < 150 by decide), 200, _, rfl, rfl, sz (show 4 ≤ 100000 by decide), fun p3 np3 => ⟨_, rfl, _, 60, rfl, rfl, ⟨by decide, by decide⟩, _, 4, rfl, rfl, (show (0 : Int) < 4 by decide), p3, _, _, _, rfl, rfl, sqL upd_same, hhi, ?_⟩⟩
        have sP3 := same_new (o := .lst [V.int 200, .int (lo + mixed vo (60 + (i : Int)) / 30 % 9), .int 200, .int (200 - mixed vo (60 + (i : Int)) / 30 % 150)]) np3
        have sA := ((sT.trans sP1).trans sP2).trans sP3
        have ebA := sA _ _ eb
        refine ⟨.ref b, rfl, .inl ⟨rfl, _, sqL ebA⟩, _, rfl, _, rfl, _, rfl, _, rfl, lo, hi, rfl, sz (show 3 ≤ 100000 by decide), fun t nt3 => ?_⟩
        have sB := sA.trans (same_new (o := .tup [V.int (60 * (1 + vo % size)), .int lo, .int (if hi > lo then hi else lo)]) nt3)
        have ebB := sB _ _ eb
        refine ⟨b, ys, _, rfl, rfl, ebB, szl (by rw [hR.n]; omega), _, _, _, _, _, _, _, ys ++ [.ref t], rs ++ [(60 * (1 + vo % size), lo, if hi > lo then hi else lo)], rfl, same_mut (s.trans sB) nb, ?_, upd_same, rws_snoc (hR.same sB) (sqT upd_same) (fun a2 ys2 h2 => ?_) upd_same, by rw [List.length_append, hrl]; rfl, fun r hr => ?_⟩
        · rw [upd_ne (fun e => hbv e.symm)]
          exact sB _ _ ev
        · exact tup_mut ebB h2
        · rcases List.mem_append.mp hr with hr | hr
          · exact hg r hr
          · rw [List.mem_singleton.mp hr]
            refine ⟨?_, ?_, l0, ?_, ?_⟩
            · exact (g2 e).1
            · exact (g2 e).2
            · show lo ≤ if hi > lo then hi else lo
              split <;> omega
            · show (if hi > lo then hi else lo) ≤ 200
              split <;> omega
      · refine ⟨_, rfl, _, rfl, 60, (i : Int), rfl, rfl, vo, 60 + (i : Int), rfl, by omega, by omega, ?_⟩
        have hN := mixed_nn vo (60 + (i : Int))
        obtain ⟨lo, ⟨l0, l1⟩, hlo⟩ := pick (n := mixed c 1 / 60) (fs := [0, mixed vo (60 + (i : Int)) % 4, 0, mixed vo (60 + (i : Int)) % 30]) (P := fun z => 0 ≤ z ∧ z ≤ 29) (show 0 < 4 by decide) (fun x hx => by
          simp only [List.mem_cons, List.not_mem_nil, or_false] at hx
          omega)
        refine ⟨_, rfl, _, 4, rfl, rfl, (show (0 : Int) < 4 by decide), _, rfl, _, 30, rfl, rfl, (show (0 : Int) < 30 by decide), sz (show 4 ≤ 100000 by decide), fun p2 np2 => ⟨_, rfl, _, 60, rfl, rfl, ⟨by decide, by decide⟩, _, 4, rfl, rfl, (show (0 : Int) < 4 by decide), p2, _, _, _, rfl, rfl, sqL upd_same, hlo, ?_⟩⟩
        have sP2 := same_new (o := .lst [V.int 0, .int (mixed vo (60 + (i : Int)) % 4), .int 0, .int (mixed vo (60 + (i : Int)) % 30)]) np2
        obtain ⟨hi, ⟨h0, h1⟩, hhi⟩ := pick (n := mixed c 1 / 60) (fs := [200, lo + mixed vo (60 + (i : Int)) / 30 % 9, 200, 200 - mixed vo (60 + (i : Int)) / 30 % 150]) (P := fun z => 0 ≤ z ∧ z ≤ 200) (show 0 < 4 by decide) (fun x hx => by
          simp only [List.mem_cons, List.not_mem_nil, or_false] at hx
          omega)
        refine ⟨_, rfl, _, rfl, _, 30, rfl, rfl, ⟨by decide, by decide⟩, _, 9, rfl, rfl, (show (0 : Int) < 9 by decide), _, _, rfl, rfl, _, rfl, _, 30, rfl, rfl, ⟨by decide, by decide⟩, _, 150, rfl, rfl, (show (0 : Int) < 150 by decide), 200, _, rfl, rfl, sz (show 4 ≤ 100000 by decide), fun p3 np3 => ⟨_, rfl, _, 60, rfl, rfl, ⟨by decide, by decide⟩, _, 4, rfl, rfl, (show (0 : Int) < 4 by decide), p3, _, _, _, rfl, rfl, sqL upd_same, hhi, ?_⟩⟩
        have sP3 := same_new (o := .lst [V.int 200, .int (lo + mixed vo (60 + (i : Int)) / 30 % 9), .int 200, .int (200 - mixed vo (60 + (i : Int)) / 30 % 150)]) np3
        have sA := ((sT.trans sP1).trans sP2).trans sP3
        have ebA := sA _ _ eb
        refine ⟨.ref b, rfl, .inl ⟨rfl, _, sqL ebA⟩, _, rfl, _, rfl, _, rfl, _, rfl, lo, hi, rfl, sz (show 3 ≤ 100000 by decide), fun t nt3 => ?_⟩
        have sB := sA.trans (same_new (o := .tup [V.int (1 + vo % size), .int lo, .int (if hi > lo then hi else lo)]) nt3)
        have ebB := sB _ _ eb
        refine ⟨b, ys, _, rfl, rfl, ebB, szl (by rw [hR.n]; omega), _, _, _, _, _, _, _, ys ++ [.ref t], rs ++ [(1 + vo % size, lo, if hi > lo then hi else lo)], rfl, same_mut (s.trans sB) nb, ?_, upd_same, rws_snoc (hR.same sB) (sqT upd_same) (fun a2 ys2 h2 => ?_) upd_same, by rw [List.length_append, hrl]; rfl, fun r hr => ?_⟩
        · rw [upd_ne (fun e => hbv e.symm)]
          exact sB _ _ ev
        · exact tup_mut ebB h2
        · rcases List.mem_append.mp hr with hr | hr
          · exact hg r hr
          · rw [List.mem_singleton.mp hr]
            refine ⟨?_, ?_, l0, ?_, ?_⟩
            · exact g1.1
            · exact g1.2
            · show lo ≤ if hi > lo then hi else lo
              split <;> omega
            · show (if hi > lo then hi else lo) ≤ 200
              split <;> omega
    · obtain ⟨x5, x6, x7, x8, x9, x10, x11, ys, rs, rfl, s, ev, eb, hR, hrl, hg⟩ := hp
      have hrl2 : (rs.length : Int) = 1 + mixed c 1 % m := by rw [hrl, List.length_map, hvl]; omega
      exact ⟨_, rfl, q H' b ys rs s nb eb hR ⟨by omega, by omega, hg⟩ (by omega)⟩
abbrev s__law_seats : Stmt := topS 30
theorem sc__law_seats : FnScope ["_law_script", "_law_rows", "_law_low", "_law_room", "_law_row"] ["_law_script", "_law_rows"] (defScope s__law_seats) := ⟨rfl, rfl, rfl, by decide +kernel, rfl, by decide +kernel, by decide +kernel⟩
def sp__law_seats (K : PySem.W.Frag) : Sp := fun vs H Q _ => ∃ (a p : Addr) (ns : List Int) (xs : List V) (rs : List Row), vs = [.ref a, .ref p] ∧ SqL K H a (ns.map V.int) ∧ Rws K H p xs rs ∧ Good rs ∧
  ∀ H' (n : Int), Same H H' → (lows rs).sum ≤ n → n ≤ (caps rs).sum → n ≤ (lows rs).sum + 60 → Q (.int n) H'
theorem low_cap {rs : List Row} (g : ∀ r ∈ rs, GoodRow r) : (lows rs).sum ≤ (caps rs).sum := by
  refine sum_le _ _ (by rw [lows_len, caps_len]) fun i hi => ?_
  rw [low_get, cap_get]
  rw [lows_len] at hi
  exact (row_good g hi).2.2.2.1
theorem ok__law_seats (Z : BZ mg) (O__law_mixed : OkF P w K mg base 1 "_law_mixed" ["_law_cell", "_law_k"] (sp__law_mixed K)) (D : DefAt K mg "_law_seats" s__law_seats) : OkF P w K mg base 2 "_law_seats" ["_law_script", "_law_rows"] (sp__law_seats K) := by
  refine OkF.mk' D sc__law_seats (fun _ _ _ _ _ _ us hl => match us, hl with | [_, _], _ => rfl) (fun vs H Q E h => ?_) (fun f cdv A outer s H vs Q E hr h => ?_)
  · first | (obtain ⟨_, rfl, _⟩ := h; rfl) | (obtain ⟨_, _, rfl, _⟩ := h; rfl) | (obtain ⟨_, _, _, rfl, _⟩ := h; rfl) | (obtain ⟨_, _, _, _, rfl, _⟩ := h; rfl) | (obtain ⟨_, _, _, _, _, rfl, _⟩ := h; rfl) | (obtain ⟨_, _, _, _, _, _, rfl, _⟩ := h; rfl) | (obtain ⟨_, _, _, _, _, _, _, rfl, _⟩ := h; rfl) | (obtain ⟨_, _, _, _, _, _, _, _, rfl, _⟩ := h; rfl) | (obtain ⟨_, _, _, _, _, _, _, _, _, rfl, _⟩ := h; rfl) | (obtain ⟨_, _, _, _, _, _, _, _, _, _, rfl, _⟩ := h; rfl) | (obtain ⟨_, _, _, _, _, _, _, _, _, _, _, rfl, _⟩ := h; rfl) | (obtain ⟨_, _, _, _, _, _, _, _, _, _, _, _, rfl, _⟩ := h; rfl) | (obtain ⟨_, _, _, _, _, _, _, _, _, _, _, _, _, rfl, _⟩ := h; rfl) | (obtain ⟨_, _, _, _, _, _, _, _, _, _, _, _, _, _, rfl, _⟩ := h; rfl)
  · refine ⟨_, PSs.nox ((pss_cons (ps_set (i := 2) sc__law_seats.nd rfl (Or.inl rfl) (pe_callB (cr_sumK (K := K) rfl rfl) (by rfl) Z.sum bt_sum (pa_cons (pe_lc (own := [("_law_row", 4)]) (g := gName 4) (tt := tYes) rfl sc__law_seats.nd (pi_list (pv 1)) (blkOk_by (N := ["_law_script", "_law_rows", "_law_low", "_law_room", "_law_row"]) (sc := defScope s__law_seats) (own := [("_law_row", 4)]) (by decide +kernel)) (fun _ _ _ _ _ => pg_name (i := 4) sc__law_seats.nd rfl (Or.inl rfl)) (fun _ _ _ _ _ => pts_nil) (fun _ _ _ _ _ => (pe_ix (ix_tupK (K := K) rfl) (pv 4) pe_int (fun _ _ => rfl)))) pa_nil)))
      (pss_cons (ps_set (i := 3) sc__law_seats.nd rfl (Or.inl rfl) (pe_callB (call_min2 rfl) (by rfl) Z.min bt_min (pa_cons pe_int (pa_cons (pe_op op_sub (pe_callB (cr_sumK (K := K) rfl rfl) (by rfl) Z.sum bt_sum (pa_cons (pe_lc (own := [("_law_row", 4)]) (g := gName 4) (tt := tYes) rfl sc__law_seats.nd (pi_list (pv 1)) (blkOk_by (N := ["_law_script", "_law_rows", "_law_low", "_law_room", "_law_row"]) (sc := defScope s__law_seats) (own := [("_law_row", 4)]) (by decide +kernel)) (fun _ _ _ _ _ => pg_name (i := 4) sc__law_seats.nd rfl (Or.inl rfl)) (fun _ _ _ _ _ => pts_nil) (fun _ _ _ _ _ => (pe_ix (ix_tupK (K := K) rfl) (pv 4) pe_int (fun _ _ => rfl)))) pa_nil)) (pv 2)) pa_nil))))
      (pss_one (ps_ret (pe_op op_add (pv 2) (pe_op op_mod (pc O__law_mixed (hr.mono (by decide)) passL (pa_cons (pe_op op_mod (pe_callB (cr_sumK (K := K) rfl rfl) (by rfl) Z.sum bt_sum (pa_cons (pv 0) pa_nil)) (pe_op op_pow pe_int pe_int)) (pa_cons pe_int pa_nil))) (pe_op op_add (pv 3) pe_int)))))))), ?_⟩
    obtain ⟨a, p, ns, xs, rs, rfl, hS, hR, hg, q⟩ := h
    have hl : rs.length ≤ 1000 := Nat.le_trans hg.2.1 (by decide)
    have lc := low_cap hg.2.2
    refine ⟨.ref p, rfl, p, rfl, ⟨_, hR.l⟩, fun D1 n1 => lc_col (k := 1) hR (by decide) (show 4 < 5 by decide) hl n1 fun H1 s1 e1 => ⟨D1, lows rs, rfl, sqL e1, ?_⟩⟩
    refine ⟨.ref p, rfl, p, rfl, ⟨_, (hR.same s1).l⟩, fun D2 n2 => lc_col (k := 2) (hR.same s1) (by decide) (show 4 < 5 by decide) hl n2 fun H2 s2 e2 => ⟨D2, caps rs, rfl, sqL e2, _, rfl, _, _, rfl, rfl, 60, _, rfl, ?_⟩⟩
    have s12 := s1.trans s2
    have hm : 0 ≤ (if (caps rs).sum - (lows rs).sum < 60 then (caps rs).sum - (lows rs).sum else 60) ∧ (if (caps rs).sum - (lows rs).sum < 60 then (caps rs).sum - (lows rs).sum else 60) ≤ 60 ∧ (if (caps rs).sum - (lows rs).sum < 60 then (caps rs).sum - (lows rs).sum else 60) ≤ (caps rs).sum - (lows rs).sum := by
      split <;> omega
    refine ⟨_, rfl, _, rfl, a, ns, rfl, same_seq s12 hS, 10, 40, rfl, rfl, ⟨by decide, by decide, by decide⟩, _, _, rfl, rfl, (show (0 : Int) < 10 ^ 40 by decide), _, 57, rfl, by decide, by decide, _, rfl, _, 1, rfl, rfl, _, _, rfl, rfl, (show (0 : Int) < (if (caps rs).sum - (lows rs).sum < 60 then (caps rs).sum - (lows rs).sum else 60) + 1 by omega), _, _, rfl, rfl, ?_⟩
    have v0 := Int.emod_nonneg (mixed (ns.sum % 10 ^ Int.toNat 40) 57) (show (if (caps rs).sum - (lows rs).sum < 60 then (caps rs).sum - (lows rs).sum else 60) + 1 ≠ 0 by omega)
    have v1 := Int.emod_lt_of_pos (mixed (ns.sum % 10 ^ Int.toNat 40) 57) (show 0 < (if (caps rs).sum - (lows rs).sum < 60 then (caps rs).sum - (lows rs).sum else 60) + 1 by omega)
    exact q H2 _ s12 (by omega) (by omega) (by omega)
end
end SS

/-! texts: numbers, lines, lists -/
namespace SS
open PySem PySem.Spec PyProof.Rows L2 LamX
open SX (S S_len S_tl)
def isDig (c : Nat) : Bool := decide (48 ≤ c) && decide (c ≤ 57)
def numOk (w : List Nat) : Bool := decide (1 ≤ w.length) && (decide (w.length ≤ 31) && ((!(decide (w.head? = some 48) && !decide (w = [48]))) && w.all isDig))
def numOf (w : List Nat) : Option Nat := if numOk w = true then some (NumText.digitsVal w) else none
def allOf {α β : Type} (f : α → Option β) : List α → Option (List β)
  | [] => some []
  | x :: r => match f x with
    | none => none
    | some y => match allOf f r with
      | none => none
      | some ys => some (y :: ys)
theorem allOf_none {α β : Type} {f : α → Option β} : ∀ {l : List α} {x : α}, x ∈ l → f x = none → allOf f l = none
  | y :: r, x, h, e => by
    rcases List.mem_cons.mp h with rfl | h
    · show (match f x with | none => none | some y => match allOf f r with | none => none | some ys => some (y :: ys)) = none
      rw [e]
    · have ih := allOf_none h e
      show (match f y with | none => none | some y => match allOf f r with | none => none | some ys => some (y :: ys)) = none
      rw [ih]
      cases f y <;> rfl
theorem allOf_map {α β : Type} {f : α → Option β} : ∀ {l : List α} {ys : List β}, l.map f = ys.map some → allOf f l = some ys
  | [], [], _ => rfl
  | [], _ :: _, h => by cases h
  | _ :: _, [], h => by cases h
  | x :: l, y :: ys, h => by
    rw [List.map_cons, List.map_cons] at h
    injection h with h1 h2
    show (match f x with | none => none | some y => match allOf f l with | none => none | some ys => some (y :: ys)) = _
    rw [h1, allOf_map h2]
theorem allOf_some {α β : Type} {f : α → Option β} : ∀ {l : List α} {ys : List β}, allOf f l = some ys → l.map f = ys.map some
  | [], ys, h => by
    cases h
    rfl
  | x :: l, ys, h => by
    have h' : (match f x with | none => none | some y => match allOf f l with | none => none | some ys => some (y :: ys)) = some ys := h
    cases e : f x with
    | none =>
      rw [e] at h'
      cases h'
    | some y =>
      rw [e] at h'
      cases e2 : allOf f l with
      | none =>
        rw [e2] at h'
        cases h'
      | some zs =>
        rw [e2] at h'
        cases h'
        rw [List.map_cons, List.map_cons, e, allOf_some e2]
def lineOf (l : List Nat) : Option (List Nat) := allOf numOf (TL.spl [32] 0 [] l)
def numsD (ns : List Nat) : PyData := .tuple (ns.map fun (n : Nat) => PyData.int (n : Int))
def toRow : List Nat → Row
  | [a, b, c] => ((a : Int), (b : Int), (c : Int))
  | _ => rw0
def readN (a : List Nat) : Option (List Row) := match allOf lineOf (TL.spl [10] 0 [] a) with
  | none => none
  | some ls => if areListsD (.list (ls.map numsD)) = true then some (ls.map toRow) else none
theorem numsD_row {ns : List Nat} {r : Row} (h : numsD ns = rowD r) : toRow ns = r := by
  have h' : (ns.map fun (n : Nat) => PyData.int (n : Int)) = [PyData.int r.1, PyData.int r.2.1, PyData.int r.2.2] := by
    unfold numsD rowD at h
    exact PyData.tuple.inj h
  have hl := congrArg List.length h'
  rw [List.length_map] at hl
  match ns, h', hl with
  | [a, b, c], h, _ =>
    obtain ⟨h1, h⟩ := List.cons.inj h
    obtain ⟨h2, h⟩ := List.cons.inj h
    obtain ⟨h3, h⟩ := List.cons.inj h
    exact Prod.ext (PyData.int.inj h1) (Prod.ext (PyData.int.inj h2) (PyData.int.inj h3))
theorem rows_of_nums {ls : List (List Nat)} (h : areListsD (.list (ls.map numsD)) = true) : PyData.list (ls.map numsD) = rowsD (ls.map toRow) ∧ Good (ls.map toRow) := by
  obtain ⟨rs, e, g⟩ := areListsD_is h
  have e2 : ls.map numsD = rs.map rowD := by
    unfold rowsD at e
    injection e
  have e3 : ls.map toRow = rs := by
    clear h g e
    induction ls generalizing rs with
    | nil =>
      cases rs with
      | nil => rfl
      | cons r rs => cases e2
    | cons l ls ih =>
      cases rs with
      | nil => cases e2
      | cons r rs =>
        rw [List.map_cons, List.map_cons] at e2
        injection e2 with e4 e5
        rw [List.map_cons, numsD_row e4, ih rs e5]
  rw [e3]
  exact ⟨e, g⟩
theorem readN_some {a : List Nat} {ls : List (List Nat)} (h : allOf lineOf (TL.spl [10] 0 [] a) = some ls) (h2 : areListsD (.list (ls.map numsD)) = true) : readN a = some (ls.map toRow) := by
  unfold readN
  rw [h]
  exact if_pos h2
theorem readN_bad {a : List Nat} {ls : List (List Nat)} (h : allOf lineOf (TL.spl [10] 0 [] a) = some ls) (h2 : areListsD (.list (ls.map numsD)) = false) : readN a = none := by
  unfold readN
  rw [h]
  exact if_neg (by rw [h2]; decide)
theorem readN_none {a : List Nat} (h : allOf lineOf (TL.spl [10] 0 [] a) = none) : readN a = none := by
  unfold readN
  rw [h]
/-! ### parts of a text -/
theorem spl_len (P : List Nat) : ∀ (a : List Nat) (k : Nat) (acc : List Nat), (TL.spl P k acc a).length ≤ a.length + 1
  | [], k, acc => by
    rw [TL.spl_nil]
    exact Nat.le_refl _
  | c :: r, 0, acc => by
    show (if TL.pre P (c :: r) = true then acc :: TL.spl P (P.length - 1) [] r else TL.spl P 0 (acc ++ [c]) r).length ≤ _
    split
    · rw [List.length_cons, List.length_cons]
      exact Nat.succ_le_succ (spl_len P r _ _)
    · rw [List.length_cons]
      exact Nat.le_trans (spl_len P r _ _) (by omega)
  | _ :: r, k + 1, acc => by
    show (TL.spl P k acc r).length ≤ _
    rw [List.length_cons]
    exact Nat.le_trans (spl_len P r _ _) (by omega)
theorem spl_part (P : List Nat) : ∀ (a : List Nat) (k : Nat) (acc : List Nat), ∀ p ∈ TL.spl P k acc a, p.length ≤ acc.length + a.length
  | [], k, acc, p, h => by
    rw [TL.spl_nil] at h
    rw [List.mem_singleton.mp h]
    exact Nat.le_add_right _ _
  | c :: r, 0, acc, p, h => by
    have h' : p ∈ (if TL.pre P (c :: r) = true then acc :: TL.spl P (P.length - 1) [] r else TL.spl P 0 (acc ++ [c]) r) := h
    rw [List.length_cons]
    split at h'
    · rcases List.mem_cons.mp h' with rfl | h'
      · omega
      · have := spl_part P r _ _ p h'
        rw [List.length_nil] at this
        omega
    · have := spl_part P r _ _ p h'
      rw [List.length_append, List.length_singleton] at this
      omega
  | _ :: r, k + 1, acc, p, h => by
    have := spl_part P r k acc p h
    rw [List.length_cons]
    omega
theorem spl_ne (P : List Nat) : ∀ (a : List Nat) (k : Nat) (acc : List Nat), TL.spl P k acc a ≠ []
  | [], k, acc => by
    rw [TL.spl_nil]
    simp
  | c :: r, 0, acc => by
    show (if TL.pre P (c :: r) = true then acc :: TL.spl P (P.length - 1) [] r else TL.spl P 0 (acc ++ [c]) r) ≠ []
    split
    · simp
    · exact spl_ne P r _ _
  | _ :: r, k + 1, acc => spl_ne P r k acc
theorem joinL_len (P : List Nat) : ∀ l : List (List Nat), (TL.joinL P l).length ≤ (l.map List.length).sum + l.length * P.length
  | [] => Nat.zero_le _
  | [p] => by
    show p.length ≤ (p.length + 0) + 1 * P.length
    omega
  | p :: q :: r => by
    have ih := joinL_len P (q :: r)
    show (p ++ (P ++ TL.joinL P (q :: r))).length ≤ (p.length + ((q :: r).map List.length).sum) + ((q :: r).length + 1) * P.length
    rw [List.length_append, List.length_append, Nat.succ_mul]
    omega
/-! ### numbers -/
theorem numL_head {n : Nat} (h : 1 ≤ n) : (TL.numL n).head? ≠ some 48 := by
  induction n using Nat.strongRecOn with
  | _ n ih =>
    by_cases c : n < 10
    · rw [TL.numL_lt c]
      show some (48 + n) ≠ some 48
      intro e
      injection e with e
      omega
    · rw [TL.numL_step (by omega)]
      have h1 := ih (n / 10) (by omega) (by omega)
      have h2 := TL.numL_ne (n / 10)
      cases e : TL.numL (n / 10) with
      | nil => exact absurd e h2
      | cons x l =>
        rw [e] at h1
        exact h1
theorem numOf_num {n : Nat} (h : n < 10 ^ 31) : numOf (TL.numL n) = some n := by
  have ok : numOk (TL.numL n) = true := by
    have l1 : 1 ≤ (TL.numL n).length := List.length_pos_iff.mpr (TL.numL_ne n)
    have l2 := TL.numL_len (k := 31) (by decide) h
    have d : (TL.numL n).all isDig = true := List.all_eq_true.mpr fun c hc => by
      obtain ⟨a, b⟩ := TL.numL_digits n c hc
      show (decide (48 ≤ c) && decide (c ≤ 57)) = true
      rw [decide_eq_true a, decide_eq_true b]
      rfl
    unfold numOk
    rw [decide_eq_true l1, decide_eq_true l2, d, Bool.true_and, Bool.true_and, Bool.and_true]
    by_cases c : n = 0
    · subst c
      decide +kernel
    · rw [decide_eq_false (numL_head (by omega))]
      rfl
  unfold numOf
  rw [if_pos ok, TL.numL_val]
def rowL (r : Row) : List Nat := TL.joinL [32] [TL.numL r.1.toNat, TL.numL r.2.1.toNat, TL.numL r.2.2.toNat]
def writ (rs : List Row) : List Nat := TL.joinL [10] (rs.map rowL)
theorem joinL_mem {P : List Nat} {c : Nat} : ∀ {l : List (List Nat)}, c ∈ TL.joinL P l → c ∈ P ∨ ∃ p ∈ l, c ∈ p
  | [], h => by cases h
  | [p], h => .inr ⟨p, List.mem_singleton.mpr rfl, h⟩
  | p :: q :: r, h => by
    rcases List.mem_append.mp (show c ∈ p ++ (P ++ TL.joinL P (q :: r)) from h) with h | h
    · exact .inr ⟨p, List.mem_cons_self .., h⟩
    · rcases List.mem_append.mp h with h | h
      · exact .inl h
      · rcases joinL_mem h with h | ⟨x, hx, hc⟩
        · exact .inl h
        · exact .inr ⟨x, List.mem_cons_of_mem _ hx, hc⟩
theorem good_nat {r : Row} (g : GoodRow r) : r = ((r.1.toNat : Int), (r.2.1.toNat : Int), (r.2.2.toNat : Int)) ∧ r.1.toNat < 10 ^ 31 ∧ r.2.1.toNat < 10 ^ 31 ∧ r.2.2.toNat < 10 ^ 31 := by
  obtain ⟨h1, h2, h3, h4, h5⟩ := g
  have e30 : (10 : Int) ^ 30 = 1000000000000000000000000000000 := by decide
  have e31 : (10 : Nat) ^ 31 = 10000000000000000000000000000000 := by decide
  rw [e30] at h2
  rw [e31]
  refine ⟨Prod.ext (by show r.1 = (r.1.toNat : Int); omega) (Prod.ext (by show r.2.1 = (r.2.1.toNat : Int); omega) (by show r.2.2 = (r.2.2.toNat : Int); omega)), by omega, by omega, by omega⟩
theorem log_nat {n : Nat} (h : n < 10 ^ 31) : ((n : Int)).natAbs.log2 < 1920 := by
  rw [Int.natAbs_natCast]
  by_cases z : n = 0
  · subst z
    decide
  · exact (Nat.log2_lt z).mpr (Nat.lt_trans h (by decide))
theorem one_sp : (" " : Str) = S [32] := by decide +kernel
theorem one_nl : ("\n" : Str) = S [10] := by decide +kernel
theorem rowL_len {r : Row} (g : GoodRow r) : (rowL r).length ≤ 100 := by
  obtain ⟨_, a, b, c⟩ := good_nat g
  have h := joinL_len [32] [TL.numL r.1.toNat, TL.numL r.2.1.toNat, TL.numL r.2.2.toNat]
  have l1 := TL.numL_len (k := 31) (by decide) a
  have l2 := TL.numL_len (k := 31) (by decide) b
  have l3 := TL.numL_len (k := 31) (by decide) c
  have h' : (rowL r).length ≤ ((TL.numL r.1.toNat).length + ((TL.numL r.2.1.toNat).length + ((TL.numL r.2.2.toNat).length + 0))) + 3 * 1 := h
  omega
theorem sum_len : ∀ {l : List (List Nat)} {k : Nat}, (∀ p ∈ l, p.length ≤ k) → (l.map List.length).sum ≤ l.length * k
  | [], k, _ => by
    show 0 ≤ _
    exact Nat.zero_le _
  | p :: l, k, h => by
    have h1 := h p (List.mem_cons_self ..)
    have h2 := sum_len fun q hq => h q (List.mem_cons_of_mem p hq)
    rw [List.map_cons, List.sum_cons, List.length_cons, Nat.succ_mul]
    omega
theorem writ_len {rs : List Row} (g : Good rs) : (writ rs).length ≤ 2000 := by
  have h := joinL_len [10] (rs.map rowL)
  have h2 := sum_len (l := rs.map rowL) (k := 100) fun p hp => by
    obtain ⟨r, hr, rfl⟩ := List.mem_map.mp hp
    exact rowL_len (g.2.2 r hr)
  rw [List.length_map] at h h2
  have h3 := g.2.1
  have h4 : (writ rs).length ≤ ((rs.map rowL).map List.length).sum + rs.length * 1 := h
  omega
theorem line_row {r : Row} (g : GoodRow r) : lineOf (rowL r) = some [r.1.toNat, r.2.1.toNat, r.2.2.toNat] := by
  obtain ⟨_, a, b, c⟩ := good_nat g
  unfold lineOf rowL
  rw [SX.spl_join (by simp) (fun p hp => by
    simp only [List.mem_cons, List.not_mem_nil, or_false] at hp
    rcases hp with rfl | rfl | rfl
    · exact TL.numL_free (.inl (by decide))
    · exact TL.numL_free (.inl (by decide))
    · exact TL.numL_free (.inl (by decide)))]
  refine allOf_map ?_
  rw [List.map_cons, List.map_cons, List.map_cons, List.map_nil, numOf_num a, numOf_num b, numOf_num c]
  rfl
/-- what was written is read -/
theorem read_writ {rs : List Row} (g : Good rs) : readN (writ rs) = some rs := by
  have e : allOf lineOf (TL.spl [10] 0 [] (writ rs)) = some (rs.map fun r => [r.1.toNat, r.2.1.toNat, r.2.2.toNat]) := by
    unfold writ
    rw [SX.spl_join (by
      intro z
      have := congrArg List.length z
      rw [List.length_map] at this
      have h1 := g.1
      rw [this] at h1
      exact absurd h1 (by decide)) (fun p hp => by
      obtain ⟨r, _, rfl⟩ := List.mem_map.mp hp
      intro hm
      rcases joinL_mem hm with h | ⟨q, hq, h⟩
      · exact absurd (List.mem_singleton.mp h) (by decide)
      · simp only [List.mem_cons, List.not_mem_nil, or_false] at hq
        rcases hq with rfl | rfl | rfl
        · exact TL.numL_free (.inl (by decide)) h
        · exact TL.numL_free (.inl (by decide)) h
        · exact TL.numL_free (.inl (by decide)) h)]
    refine allOf_map ?_
    rw [List.map_map, List.map_map]
    exact List.map_congr_left fun r hr => line_row (g.2.2 r hr)
  have e2 : (rs.map fun r => [r.1.toNat, r.2.1.toNat, r.2.2.toNat]).map numsD = rs.map rowD := by
    rw [List.map_map]
    refine List.map_congr_left fun r hr => ?_
    show PyData.tuple [.int (r.1.toNat : Int), .int (r.2.1.toNat : Int), .int (r.2.2.toNat : Int)] = rowD r
    conv => rhs; rw [(good_nat (g.2.2 r hr)).1]
    rfl
  have e3 : (rs.map fun r => [r.1.toNat, r.2.1.toNat, r.2.2.toNat]).map toRow = rs := by
    rw [List.map_map]
    conv => rhs; rw [← List.map_id rs]
    refine List.map_congr_left fun r hr => ?_
    exact (good_nat (g.2.2 r hr)).1.symm
  rw [readN_some e (by rw [e2]; exact areListsD_rows g), e3]
/-! ### signs -/
theorem digs : (("0123456789" : Str)).cps.toList = [48, 49, 50, 51, 52, 53, 54, 55, 56, 57] := by decide +kernel
theorem in_digs (c : Nat) : decide (c ∈ (("0123456789" : Str)).cps.toList) = isDig c := by
  rw [digs]
  unfold isDig
  rw [← Bool.decide_and]
  refine decide_eq_decide.mpr ?_
  simp only [List.mem_cons, List.not_mem_nil, or_false]
  omega
theorem index_dig : ∀ c < 58, 48 ≤ c → (Builtin.Str.occurrences ("0123456789" : Str) ⟨#[c]⟩ 0 (("0123456789" : Str)).length 1).head? = some (c - 48) := by decide +kernel
theorem index_is {c : Nat} (h : isDig c = true) : ∃ rest, Builtin.Str.occurrences ("0123456789" : Str) ⟨#[c]⟩ 0 (("0123456789" : Str)).length 1 = (c - 48) :: rest := by
  obtain ⟨h1, h2⟩ := He.ba h
  have e := index_dig c (by have := of_decide_eq_true h2; omega) (of_decide_eq_true h1)
  cases q : Builtin.Str.occurrences ("0123456789" : Str) ⟨#[c]⟩ 0 (("0123456789" : Str)).length 1 with
  | nil =>
    rw [q] at e
    cases e
  | cons x l =>
    rw [q] at e
    injection e with e
    exact ⟨l, by rw [e]⟩
/-! ### what is a number -/
theorem dig0 : ("0" : Str) = S [48] := by decide +kernel
theorem one_is (c : Nat) : decide (V.str ⟨#[c]⟩ = V.str ("0" : Str)) = decide (c = 48) := by
  rw [dec_str, dig0, show (⟨#[c]⟩ : Str) = S [c] from rfl, SX.S_beq_eq]
  exact decide_eq_decide.mpr ⟨fun h => by injection h, fun h => by rw [h]⟩
theorem word_zero (a : List Nat) : decide (V.str (S a) = V.str ("0" : Str)) = decide (a = [48]) := by
  rw [dec_str, dig0, SX.S_beq_eq]
theorem word_nil (a : List Nat) : decide (V.str (S a) = V.str ("" : Str)) = decide (a = []) := by
  rw [dec_str, show ("" : Str) = S [] by decide +kernel, SX.S_beq_eq]
theorem numOf_bad {a : List Nat} (h : numOk a = false) : numOf a = none := by
  unfold numOf
  rw [h]
  rfl
theorem numOf_good {a : List Nat} (h : numOk a = true) : numOf a = some (NumText.digitsVal a) := by
  unfold numOf
  rw [h]
  rfl
theorem numOf_len {a : List Nat} (h : ¬ (1 ≤ a.length ∧ a.length ≤ 31)) : numOf a = none := by
  refine numOf_bad ?_
  unfold numOk
  by_cases h1 : 1 ≤ a.length
  · rw [decide_eq_false (fun h2 => h ⟨h1, h2⟩), Bool.false_and, Bool.and_false]
  · rw [decide_eq_false h1, Bool.false_and]
theorem numOf_zero {r : List Nat} (h : ¬ 48 :: r = [48]) : numOf (48 :: r) = none := by
  refine numOf_bad ?_
  unfold numOk
  rw [decide_eq_false h, decide_eq_true (show (48 :: r).head? = some 48 from rfl)]
  simp
theorem numOf_sign {a : List Nat} {c : Nat} (h : c ∈ a) (hc : isDig c = false) : numOf a = none := by
  refine numOf_bad ?_
  unfold numOk
  have e : a.all isDig = false := by
    rw [List.all_eq_false]
    exact ⟨c, h, by rw [hc]; decide⟩
  rw [e, Bool.and_false, Bool.and_false, Bool.and_false]
theorem numOf_ok {c : Nat} {r : List Nat} (h : (c :: r).length ≤ 31) (hz : c = 48 → c :: r = [48]) (hd : ∀ x ∈ c :: r, isDig x = true) : numOf (c :: r) = some (NumText.digitsVal (c :: r)) := by
  refine numOf_good ?_
  unfold numOk
  rw [decide_eq_true h, decide_eq_true (show 1 ≤ (c :: r).length from Nat.succ_le_succ (Nat.zero_le _)), List.all_eq_true.mpr hd]
  by_cases e : c = 48
  · rw [decide_eq_true (hz e)]
    simp
  · rw [decide_eq_false (show ¬ (c :: r).head? = some 48 from fun z => e (Option.some.inj z))]
    rfl
theorem numOf_lt {a : List Nat} {n : Nat} (h : numOf a = some n) : a ≠ [] ∧ a.length ≤ 31 ∧ (∀ x ∈ a, isDig x = true) ∧ n = NumText.digitsVal a := by
  unfold numOf at h
  by_cases e : numOk a = true
  · rw [if_pos e] at h
    cases h
    unfold numOk at e
    obtain ⟨e1, e⟩ := He.ba e
    obtain ⟨e2, e⟩ := He.ba e
    obtain ⟨e3, e⟩ := He.ba e
    refine ⟨fun z => ?_, of_decide_eq_true e2, List.all_eq_true.mp e, rfl⟩
    rw [z] at e1
    cases e1
  · rw [if_neg e] at h
    cases h
theorem at0 {c : Nat} {r : List Nat} : atI (S (c :: r)).cps.toList 0 = some c := atI_nat (j := 0) rfl
end SS

/-! the law's own reading is the program's -/
namespace SS
open PySem PySem.Spec PyProof.Rows L2 LamX
open SX (S S_len S_tl)
def rowB (n1 n2 n3 : Nat) : Bool := (decide (1 ≤ n1) && decide (n1 ≤ 10 ^ 30)) && (decide (n2 ≤ n3) && decide (n3 ≤ 200))
def rowOf : List (Option Nat) → Option Row
  | [some n1, some n2, some n3] => if rowB n1 n2 n3 = true then some ((n1 : Int), (n2 : Int), (n3 : Int)) else none
  | _ => none
def lineR (l : List Nat) : Option Row := rowOf ((TL.spl [32] 0 [] l).map numOf)
theorem rowOf_some {os : List (Option Nat)} {r : Row} (h : rowOf os = some r) : os = [r.1.toNat, r.2.1.toNat, r.2.2.toNat].map some ∧ GoodRow r := by
  match os, h with
  | [some n1, some n2, some n3], h =>
    have h : (if rowB n1 n2 n3 = true then some ((n1 : Int), (n2 : Int), (n3 : Int)) else none) = some r := h
    by_cases e : rowB n1 n2 n3 = true
    · rw [if_pos e] at h
      cases h
      obtain ⟨e1, e2⟩ := He.ba e
      obtain ⟨a1, a2⟩ := He.ba e1
      obtain ⟨a3, a4⟩ := He.ba e2
      have a1 := of_decide_eq_true a1
      have a2 := of_decide_eq_true a2
      have a3 := of_decide_eq_true a3
      have a4 := of_decide_eq_true a4
      have e30 : (10 : Int) ^ 30 = 1000000000000000000000000000000 := by decide
      have f30 : (10 : Nat) ^ 30 = 1000000000000000000000000000000 := by decide
      rw [f30] at a2
      refine ⟨rfl, ?_, ?_, ?_, ?_, ?_⟩
      · show (1 : Int) ≤ (n1 : Int)
        omega
      · show (n1 : Int) ≤ 10 ^ 30
        rw [e30]
        omega
      · show (0 : Int) ≤ (n2 : Int)
        omega
      · show (n2 : Int) ≤ (n3 : Int)
        omega
      · show (n3 : Int) ≤ 200
        omega
    · rw [if_neg e] at h
      cases h
theorem rowOf_short {os : List (Option Nat)} (h : os.length ≠ 3) : rowOf os = none := by
  unfold rowOf
  split
  · exact absurd rfl h
  · rfl
theorem rowB_no {n1 n2 n3 : Nat} (h : ¬ ((1 : Int) ≤ (n1 : Int) ∧ (n1 : Int) ≤ 10 ^ Int.toNat 30 ∧ (n2 : Int) ≤ (n3 : Int) ∧ (n3 : Int) ≤ 200)) : rowOf [some n1, some n2, some n3] = none := by
  show (if rowB n1 n2 n3 = true then some ((n1 : Int), (n2 : Int), (n3 : Int)) else none) = none
  refine if_neg fun e => h ?_
  obtain ⟨e1, e2⟩ := He.ba e
  obtain ⟨a1, a2⟩ := He.ba e1
  obtain ⟨a3, a4⟩ := He.ba e2
  have a1 := of_decide_eq_true a1
  have a2 := of_decide_eq_true a2
  have a3 := of_decide_eq_true a3
  have a4 := of_decide_eq_true a4
  have e30 : (10 : Int) ^ Int.toNat 30 = 1000000000000000000000000000000 := by decide
  have f30 : (10 : Nat) ^ 30 = 1000000000000000000000000000000 := by decide
  rw [f30] at a2
  rw [e30]
  omega
theorem rowB_ok {n1 n2 n3 : Nat} (h1 : (1 : Int) ≤ (n1 : Int)) (h2 : (n1 : Int) ≤ 10 ^ Int.toNat 30) (h3 : (n2 : Int) ≤ (n3 : Int)) (h4 : (n3 : Int) ≤ 200) : rowOf [some n1, some n2, some n3] = some ((n1 : Int), (n2 : Int), (n3 : Int)) := by
  show (if rowB n1 n2 n3 = true then some ((n1 : Int), (n2 : Int), (n3 : Int)) else none) = _
  have e30 : (10 : Int) ^ Int.toNat 30 = 1000000000000000000000000000000 := by decide
  have f30 : (10 : Nat) ^ 30 = 1000000000000000000000000000000 := by decide
  rw [e30] at h2
  unfold rowB
  rw [decide_eq_true (show 1 ≤ n1 by omega), decide_eq_true (show n1 ≤ 10 ^ 30 by rw [f30]; omega), decide_eq_true (show n2 ≤ n3 by omega), decide_eq_true (show n3 ≤ 200 by omega)]
  rfl
theorem lineR_some {l : List Nat} {r : Row} (h : lineR l = some r) : lineOf l = some [r.1.toNat, r.2.1.toNat, r.2.2.toNat] ∧ GoodRow r := by
  obtain ⟨h1, h2⟩ := rowOf_some h
  exact ⟨allOf_map h1, h2⟩
theorem nums_no {ns : List Nat} (h : rowOf (ns.map some) = none) : isListD (numsD ns) = false := by
  match ns, h with
  | [n1, n2, n3], h =>
    have h : (if rowB n1 n2 n3 = true then some ((n1 : Int), (n2 : Int), (n3 : Int)) else none) = none := h
    by_cases e : rowB n1 n2 n3 = true
    · rw [if_pos e] at h
      cases h
    · refine Bool.eq_false_iff.mpr fun z => e ?_
      obtain ⟨z1, z2⟩ := He.ba (show (isWh0 (.int (n1 : Int)) 1 (10 ^ 30) && (isWh0 (.int (n3 : Int)) 0 200 && isWh0 (.int (n2 : Int)) 0 (n3 : Int))) = true from z)
      obtain ⟨z2, z3⟩ := He.ba z2
      obtain ⟨a1, a2⟩ := He.ba (show (decide ((1 : Int) ≤ (n1 : Int)) && decide ((n1 : Int) ≤ 10 ^ 30)) = true from z1)
      obtain ⟨_, a4⟩ := He.ba (show (decide ((0 : Int) ≤ (n3 : Int)) && decide ((n3 : Int) ≤ 200)) = true from z2)
      obtain ⟨_, a3⟩ := He.ba (show (decide ((0 : Int) ≤ (n2 : Int)) && decide ((n2 : Int) ≤ (n3 : Int))) = true from z3)
      have a1 := of_decide_eq_true a1
      have a2 := of_decide_eq_true a2
      have a3 := of_decide_eq_true a3
      have a4 := of_decide_eq_true a4
      have e30 : (10 : Int) ^ 30 = 1000000000000000000000000000000 := by decide
      have f30 : (10 : Nat) ^ 30 = 1000000000000000000000000000000 := by decide
      rw [e30] at a2
      unfold rowB
      rw [decide_eq_true (show 1 ≤ n1 by omega), decide_eq_true (show n1 ≤ 10 ^ 30 by rw [f30]; omega), decide_eq_true (show n2 ≤ n3 by omega), decide_eq_true (show n3 ≤ 200 by omega)]
      rfl
  | [], _ => rfl
  | [_], _ => rfl
  | [_, _], _ => rfl
  | _ :: _ :: _ :: _ :: _, _ => rfl
theorem areL_def (ds : List PyData) : areListsD (.list ds) = (decide (1 ≤ ds.length) && (decide (ds.length ≤ 12) && ds.all isListD)) := rfl
theorem lists_one {ds : List PyData} {d : PyData} (h : d ∈ ds) (hd : isListD d = false) : areListsD (.list ds) = false := by
  rw [areL_def, show ds.all isListD = false by
    rw [List.all_eq_false]
    exact ⟨d, h, by rw [hd]; decide⟩, Bool.and_false, Bool.and_false]
theorem lists_long {ds : List PyData} (h : 12 < ds.length) : areListsD (.list ds) = false := by
  rw [areL_def, decide_eq_false (show ¬ ds.length ≤ 12 by omega), Bool.false_and, Bool.and_false]
/-- a line that is none -/
theorem read_line {a l : List Nat} (h : l ∈ TL.spl [10] 0 [] a) (hl : lineR l = none) : readN a = none := by
  cases e : allOf lineOf (TL.spl [10] 0 [] a) with
  | none => exact readN_none e
  | some ls =>
    refine readN_bad e ?_
    have hm := allOf_some e
    cases e2 : lineOf l with
    | none => rw [allOf_none h e2] at e; cases e
    | some ns =>
      have hns : some ns ∈ ls.map some := by
        rw [← hm, ← e2]
        exact List.mem_map_of_mem h
      have hns : ns ∈ ls := by
        obtain ⟨x, hx, ex⟩ := List.mem_map.mp hns
        cases ex
        exact hx
      refine lists_one (List.mem_map_of_mem hns) (nums_no ?_)
      rw [← allOf_some e2]
      exact hl
theorem read_long {a : List Nat} (h : 12 < (TL.spl [10] 0 [] a).length) : readN a = none := by
  cases e : allOf lineOf (TL.spl [10] 0 [] a) with
  | none => exact readN_none e
  | some ls =>
    refine readN_bad e (lists_long ?_)
    have hm := congrArg List.length (allOf_some e)
    rw [List.length_map, List.length_map] at hm
    rw [List.length_map]
    omega
theorem readN_rows {a : List Nat} {rs : List Row} (g : Good rs) (e : allOf lineOf (TL.spl [10] 0 [] a) = some (rs.map fun r => [r.1.toNat, r.2.1.toNat, r.2.2.toNat])) : readN a = some rs := by
  have e2 : (rs.map fun r => [r.1.toNat, r.2.1.toNat, r.2.2.toNat]).map numsD = rs.map rowD := by
    rw [List.map_map]
    refine List.map_congr_left fun r hr => ?_
    show PyData.tuple [.int (r.1.toNat : Int), .int (r.2.1.toNat : Int), .int (r.2.2.toNat : Int)] = rowD r
    conv => rhs; rw [(good_nat (g.2.2 r hr)).1]
    rfl
  have e3 : (rs.map fun r => [r.1.toNat, r.2.1.toNat, r.2.2.toNat]).map toRow = rs := by
    rw [List.map_map]
    conv => rhs; rw [← List.map_id rs]
    refine List.map_congr_left fun r hr => ?_
    exact (good_nat (g.2.2 r hr)).1.symm
  rw [readN_some e (by rw [e2]; exact areListsD_rows g), e3]
theorem read_lines {a : List Nat} {rs : List Row} (h : (TL.spl [10] 0 [] a).map lineR = rs.map some) (h12 : rs.length ≤ 12) : Good rs ∧ readN a = some rs := by
  have hl := congrArg List.length h
  rw [List.length_map, List.length_map] at hl
  have h1 := List.length_pos_iff.mpr (spl_ne [10] a 0 [])
  have each : ∀ r ∈ rs, ∃ l ∈ TL.spl [10] 0 [] a, lineR l = some r := fun r hr => by
    have : some r ∈ (TL.spl [10] 0 [] a).map lineR := by
      rw [h]
      exact List.mem_map_of_mem hr
    obtain ⟨l, hl, e⟩ := List.mem_map.mp this
    exact ⟨l, hl, e⟩
  have g : Good rs := ⟨by omega, by omega, fun r hr => by
    obtain ⟨l, _, e⟩ := each r hr
    exact (lineR_some e).2⟩
  refine ⟨g, readN_rows g (allOf_map ?_)⟩
  refine List.ext_getElem? fun i => ?_
  have hi := congrArg (·[i]?) h
  rw [List.getElem?_map, List.getElem?_map] at hi
  rw [List.getElem?_map, List.getElem?_map, List.getElem?_map]
  cases e1 : (TL.spl [10] 0 [] a)[i]? with
  | none =>
    rw [e1] at hi
    cases e2 : rs[i]? with
    | none => rfl
    | some r =>
      rw [e2] at hi
      cases hi
  | some l =>
    rw [e1] at hi
    cases e2 : rs[i]? with
    | none =>
      rw [e2] at hi
      cases hi
    | some r =>
      rw [e2] at hi
      have hi : lineR l = some r := Option.some.inj hi
      exact congrArg some (lineR_some hi).1
/-! ### numbers that may be missing -/
def optV : Option Nat → V
  | none => .non
  | some n => .int (n : Int)
end SS

/-! an exception that leaves a comprehension, a comprehension within a comprehension -/
namespace SS
open PySem PySem.Spec PyProof.Rows L2 LamX

/-- an exception in the air of X, by the frame L -/
def XEL (X : Cx) (L : Addr) (W : WX) (u : Value) (s' : Shared) : Prop :=
  ∃ (a : Addr) (B : Heap) (sI : Shared) (pins : List (Addr × Obj)) (σ : L2.St) (H : Hp) (cls : Value) (d : Option Addr),
    u = .ref a ∧ Inv X pins σ H sI ∧ (∀ b o, sI.heap.get? b = some o → b ∉ frs X.stack → B.get? b = some o) ∧ sI.heap.UpToSlots s'.heap ∧
      Sky B X.stack a (Zc cls d) L s'.heap ∧ H a = none ∧ s'.os = sI.os ∧ AllBare s'.gens ∧ W cls d σ H
/-- what is let out is taken -/
structure TkL (X : Cx) (L : Addr) (E : XK) : Prop where
  tk : ∀ u s', XEL X L (fun cls d _ H => E cls d H) u s' → X.xe u s'
  fr : X.env.frame = some L
  st : ∃ e0 o0, X.stack = e0 :: o0 ∧ e0.frame = some L
section
variable {X : Cx} {pins : List (Addr × Obj)} {σ : L2.St} {H : Hp} {s s' : Shared} {E : XK} {L : Addr}
/-- a call's exception -/
theorem XEL.of_call (I : Inv X pins σ H s) {u : Value} (c : L2.CX X.prog X.w X.stack H s E u s') : XEL X L (fun cls d _ H => E cls d H) u s' := by
  obtain ⟨a, B, H', cls, d, rfl, fl, hok, ub, na, os, ag, hE⟩ := c
  obtain ⟨G, g1, g2⟩ := restrict s'.heap fun b => (B.get? b).isSome || decide (b ∈ frs X.stack)
  have hst : B.StaysIn s'.heap := fl.1
  have inB : ∀ b o, B.get? b = some o → G.get? b = some o := by
    intro b o e
    rw [g1 b (by simp [e])]
    exact hst b o e
  have inF : ∀ b, b ∈ frs X.stack → G.get? b = s'.heap.get? b := by
    intro b hb
    exact g1 b (by simp [hb])
  have back : ∀ b o, G.get? b = some o → s'.heap.get? b = some o ∧ ((B.get? b).isSome = true ∨ b ∈ frs X.stack) := by
    intro b o e
    cases q : ((B.get? b).isSome || decide (b ∈ frs X.stack)) with
    | false =>
      rw [g2 b q] at e
      cases e
    | true =>
      rw [g1 b q] at e
      exact ⟨e, by simpa [Bool.or_eq_true] using q⟩
  have up : G.UpToSlots s'.heap := Heap.UpToSlots.of_keeps fun b o e => (back b o e).1
  have un : Un (frs X.stack) [] H H' s.heap G := by
    refine ⟨fun b o e n hb _ => inB b o (ub.keep b o e n hb), fun b o e n hb _ => ?_, fun b o e n _ => ub.free b o e n, fun b o e _ => ?_, ub.tups, ub.frzs, ub.tbls⟩
    · obtain ⟨sl, q⟩ := ub.slot b o e hb
      exact ⟨sl, by rw [inF b hb]; exact q⟩
    · by_cases hb : b ∈ frs X.stack
      · obtain ⟨sl, q⟩ := ub.slot b o e hb
        exact ⟨_, by rw [inF b hb]; exact q⟩
      · obtain ⟨o', q⟩ := ub.there b o e hb
        exact ⟨o', inB b o' q⟩
  have J : Inv X pins σ H' { s with heap := G, gens := s'.gens, drawn := s'.drawn, toks := s'.toks } := I.call (ch := []) un (hok.kept inB) ag (fun _ z => nomatch z)
  refine ⟨a, B, _, pins, σ, H', cls, d, rfl, J, fun b o e hb => ?_, up, .inr (.inl fl), na, os, ag, hE⟩
  obtain ⟨e', h⟩ := back b o e
  rcases h with h | h
  · obtain ⟨o', q⟩ := Option.isSome_iff_exists.mp h
    have z := hst b o' q
    rw [e'] at z
    cases z
    exact q
  · exact absurd h hb
theorem TkL.passes (T : TkL X L E) : Passes (L2.CX X.prog X.w) X E := fun _ _ _ _ u s' I c => T.tk u s' (XEL.of_call I c)
theorem tkL_of (tk : Takes X (fun cls d _ H => E cls d H)) (hs : X.stack = X.env :: X.outer) (hf : X.env.frame = some X.env.locals) : TkL X X.env.locals E := ⟨fun u s' x => tk u s' x, hf, _, _, hs, hf⟩
/-- noted by the frame -/
theorem sky_note {M : Model} {A : Around} {E₁ : Value → Shared → Prop} {env : Env} {outer : List Env} {a : Addr} {B : Heap} {Z : Obj → Prop} {Q : Unit → Shared → Prop} (hZ : HandSPX.Steady Z) (hfr : A.frames = some (env :: outer)) (hf : env.frame = some L)
    (x : Sky B (env :: outer) a Z L s.heap) (hQ : ∀ h', HandSPX.HeldZ B (env :: outer) a Z L h' → s.heap.UpToSlots h' → Q () { s with heap := h' }) : wpAny M A (noteFrame (.ref a) env) Q E₁ s := by
  rcases x with ⟨hB, hn, hl, oe, vs, he, hz, hd, h1⟩ | fl | hh
  · exact HandSPX.look_newZ hZ hfr hl hf he hB hn hd h1 hz hQ
  · exact HandSPX.looks_onZ hZ hfr hf fl hQ
  · exact HandSPX.againZ hf hh.2.2.2 (hQ s.heap hh (Heap.UpToSlots.refl _))
theorem note_frame {e : Value} {env env' : Env} (h : env.frame = env'.frame) : noteFrame e env = noteFrame e env' := by
  unfold noteFrame PySem.frameOf
  rw [h]
theorem inv_tr {pn : List (Addr × Obj)} {xe : Value → Shared → Prop} (I : Inv X pins σ H s) (hp : X.pn = pn) : Inv (X.tr pn xe) pins σ H s := by
  subst hp
  exact ⟨I.ok.toTry _ _, I.os, I.bare, I.base, I.loc, I.cell, I.free, I.freeC, I.pin, I.hok, I.len⟩
theorem inv_rt {pn : List (Addr × Obj)} {xe : Value → Shared → Prop} (I : Inv (X.tr pn xe) pins σ H s) (hp : X.pn = pn) : Inv X pins σ H s := by
  subst hp
  exact ⟨I.ok.ofTry, I.os, I.bare, I.base, I.loc, I.cell, I.free, I.freeC, I.pin, I.hok, I.len⟩
end
/-- a block whose exceptions are told -/
abbrev blkE (X : Cx) (s : Shared) (H : Hp) (scope : Scope) (ce : Env) (fp : List Addr) (xe : Value → Shared → Prop) : Cx := (X.blk s H scope ce fp).tr [] xe
section
variable {X : Cx} {pins : List (Addr × Obj)} {σ : L2.St} {H3 : Hp} {s3 s' : Shared} {E : XK} {L : Addr}
/-- out of the block: noted, the block's names let go, on in the def's air -/
theorem out_of_block {scope : Scope} {fp : List Addr} {ce : Env} {xe : Value → Shared → Prop} {E1 : Value → Shared → Prop} {u : Value} (I3 : Inv X pins σ H3 s3) (T : TkL X L E) (f3 : ∀ b ∈ fp, FpOk X pins H3 b ∧ b < s3.heap.objs.size)
    (cL : ce.locals = s3.heap.objs.size) (cF : ce.frame = some L) (x : XEL (blkE X s3 H3 scope ce fp xe) L (fun cls d _ H => E cls d H) u s') :
    wpAny (model X.prog X.w) X.A (noteFrame u ce) (fun _ s'' => ∃ m, s''.heap.Ns s3.heap.objs.size m ∧ ∀ h', Heap.SameBut s3.heap.objs.size s''.heap h' → ∀ cenv : Env, cenv.locals = s3.heap.objs.size → cenv.frame = some L →
      wpAny (model X.prog X.w) X.A (passOn "comprehension.variables-let-go" u cenv : Sem Value) (fun _ _ => False) X.xe { s'' with heap := h' }) E1 s' := by
  obtain ⟨a, B, sI, pins', σ', H', cls, d, rfl, I', nb, up, sky, na, os, ag, w⟩ := x
  have Ib : Inv (X.blk s3 H3 scope ce fp) pins' σ' H' sI := inv_rt I' rfl
  obtain ⟨e0, o0, hst, he0⟩ := T.st
  have hfr : X.A.frames = some (e0 :: o0) := by rw [← hst]; exact I3.ok.frames
  have nb : ∀ b o, sI.heap.get? b = some o → b ∉ frs X.stack → B.get? b = some o := nb
  have sky : Sky B X.stack a (Zc cls d) L s'.heap := sky
  rw [hst] at sky
  rw [note_frame (env' := e0) (by rw [cF, he0])]
  refine sky_note Zc.steady hfr he0 sky fun h1 hh up1 => ?_
  obtain ⟨k1, k2, k3, oe, vs, Tb, oT, ts, t1, t2, t3, t4, t5, t6, t7, t8, t9⟩ := hh
  generalize hC : s3.heap.objs.size = C at *
  -- the block's names
  obtain ⟨m, hn, _⟩ := Ib.loc
  have hn : sI.heap.Ns C m := by
    have z : sI.heap.Ns ce.locals m := hn
    rw [cL] at z
    exact z
  have nC : H' C = none := by
    have z : H' ce.locals = none := Ib.free
    rw [cL] at z
    exact z
  have Cfr : C ∉ frs X.stack := fun hm => by
    obtain ⟨_, o, e, _⟩ := I3.stack.mem hm
    have z := Heap.lt_size e
    rw [hC] at z
    exact absurd z (Nat.lt_irrefl _)
  obtain ⟨oC, es, epos, hoC, rC⟩ := id hn
  have bC : B.get? C = some oC := nb C oC hoC Cfr
  have aC : a ≠ C := fun z => by
    rw [z, bC] at k2
    cases k2
  have TC : Tb ≠ C := fun z => by
    rw [z, bC] at t5
    cases t5
  have h1C : h1.get? C = some oC := k1 C oC bC
  refine ⟨m, ⟨oC, es, epos, h1C, rC⟩, fun h2 sb cenv c1 c2 => ?_⟩
  have h2n : ∀ b, b ≠ C → h2.get? b = h1.get? b := sb.2
  have hB' : ∀ b o, (PySem.W.hideAll B [C]).get? b = some o → b ≠ C ∧ B.get? b = some o := fun b o e => by
    refine ⟨fun z => ?_, PySem.W.of_hideAll _ e⟩
    rw [z, PySem.W.hideAll_none [C] (by simp)] at e
    cases e
  have hide : ∀ (h : Heap) b o, b ≠ C → h.get? b = some o → (PySem.W.hideAll h [C]).get? b = some o := fun h b o hb e => PySem.W.hideAll_get [C] e (by simp [hb])
  have hnone : ∀ b, B.get? b = none → (PySem.W.hideAll B [C]).get? b = none := fun b e => by
    cases q : (PySem.W.hideAll B [C]).get? b with
    | none => rfl
    | some o =>
      have z := (hB' b o q).2
      rw [e] at z
      cases z
  have st2 : (PySem.W.hideAll B [C]).StaysIn h2 := fun b o e => by
    obtain ⟨z1, z2⟩ := hB' b o e
    rw [h2n b z1]
    exact k1 b o z2
  have ff2 : h2.FunFrames (PySem.W.hideAll B [C]) (e0 :: o0) := by
    have f1 : h1.FunFrames (PySem.W.hideAll B [C]) (e0 :: o0) := funFrames_none k3 fun b hb => hnone b (k3.mem hb).1
    refine Heap.FunFrames.of_keeps (h := PySem.W.hideAll h1 [C]) (fun b o e _ => ?_) ?_
    · have z1 : b ≠ C := fun z => by
        rw [z, PySem.W.hideAll_none [C] (by simp)] at e
        cases e
      have z2 := PySem.W.of_hideAll _ e
      exact ⟨o, by rw [h2n b z1]; exact z2, rfl⟩
    · have gen : ∀ l : List Env, (∀ b ∈ frs l, b ≠ C) → h1.FunFrames (PySem.W.hideAll B [C]) l → (PySem.W.hideAll h1 [C]).FunFrames (PySem.W.hideAll B [C]) l := by
        intro l
        induction l with
        | nil => intro _ _; trivial
        | cons e l ih =>
          intro hl hf
          obtain ⟨q1, ⟨Lf, o, q2, q3, q4, q5⟩, q6⟩ := hf
          refine ⟨q1, ⟨Lf, o, q2, q3, hide h1 Lf o (hl Lf (List.mem_filterMap.mpr ⟨e, List.mem_cons_self, q2⟩)) q4, q5⟩, ih (fun b hb => hl b ?_) q6⟩
          obtain ⟨e', he', q⟩ := List.mem_filterMap.mp hb
          exact List.mem_filterMap.mpr ⟨e', List.mem_cons_of_mem _ he', q⟩
      exact gen _ (fun b hb z => Cfr (by rw [hst, ← z]; exact hb)) f1
  have tr2 : HandSPX.TracedZ h2 (PySem.W.hideAll B [C]) a (Zc cls d) (rawInt L) := ⟨oe, vs, Tb, oT, ts, by rw [h2n a aC]; exact t1, t2, t3, t4, hnone Tb t5, t6, by rw [h2n Tb TC]; exact t7, t8, t9⟩
  unfold PySem.passOn
  refine wpAny_bind (wpAny_field (by rw [h2n a aC]; exact t1) t3 t4 ?_)
  rw [if_neg (show ¬ ((Value.ref Tb == Value.none) = true) from by simp)]
  have fin : wpAny (model X.prog X.w) X.A (setFlight (.ref a) cenv.frame) (fun _ s4 => wpAny (model X.prog X.w) X.A (throw (.ref a) : Sem Value) (fun _ _ => False) X.xe s4) X.xe { s' with heap := h2 } := by
    rw [c2]
    refine HandSPX.setFlight_anyZ (Z := Zc cls d) (base := PySem.W.hideAll B [C]) (l := e0 :: o0) (e := a) (s := { s' with heap := h2 }) st2 ff2 tr2 fun h4 k4 f4 tr4 up4 => wpAny_throw (T.tk _ _ ?_)
    have I7 : Inv X pins σ H' sI := I3.call' (ch := fp) Ib.os Ib.base Ib.hok Ib.bare fun b hb => ⟨(f3 b hb).1.2.2.2.1, (f3 b hb).1.2.1, (f3 b hb).1.2.2.2.2.1, (f3 b hb).1.2.2.2.2.2⟩
    obtain ⟨f0, f1, f2, f3', f4', f5⟩ := I3.fpOk (H' := H') (b := C) (by omega) nC
    have I8 : Inv X pins σ H' { sI with heap := PySem.W.hideAll sI.heap [C], toks := sI.toks } := I7.turned (it := C) (fun b o hb e => hide sI.heap b o hb e) f0 f1 f3' f4' f5
    refine ⟨a, PySem.W.hideAll B [C], _, pins, σ, H', cls, d, rfl, I8, fun b o e hb => ?_, fun b o e hd => ?_, .inr (.inr (by rw [hst]; exact ⟨k4, hnone a k2, f4, tr4⟩)), na, os, ag, w⟩
    · have z1 : b ≠ C := fun z => by
        rw [z, PySem.W.hideAll_none [C] (by simp)] at e
        cases e
      exact hide B b o z1 (nb b o (PySem.W.of_hideAll _ e) hb)
    · have z1 : b ≠ C := fun z => by
        rw [z, PySem.W.hideAll_none [C] (by simp)] at e
        cases e
      obtain ⟨sl1, e1⟩ := up b o (PySem.W.of_hideAll _ e) hd
      obtain ⟨sl2, e2⟩ := up1 b _ e1 hd
      have e3 : h2.get? b = some { o with slots := sl2 } := by
        rw [h2n b z1]
        exact e2
      obtain ⟨sl4, e4⟩ := up4 b { o with slots := sl2 } e3 hd
      exact ⟨sl4, e4⟩
  first
    | exact wpAny_bind (wpAny_pure (wpAny_bind fin))
    | exact wpAny_bind fin
end
end SS

/-! list comprehensions whose step may raise -/
namespace SS
open PySem PySem.Spec PyProof.Rows L2 LamX
open Sem (wp)
/-- what is owed behind a comprehension's block; fr: the frame that runs -/
def cPost (M : Model) (A : Around) (E : Value → Shared → Prop) (use : Option (Value → Sem Unit)) (Q : Value → Shared → Prop) (acc : Value) (C : Addr) (fr : Option Addr) (r : Result) (s' : Shared) : Prop :=
  match r with
  | .ok f => compPost M A E use Q acc C (.ok f) s'
  | .error x => ∃ m, s'.heap.Ns C m ∧ ∀ h', Heap.SameBut C s'.heap h' → ∀ cenv : Env, cenv.locals = C → cenv.frame = fr →
      wpAny M A (passOn "comprehension.variables-let-go" x cenv : Sem Value) (fun _ _ => False) E { s' with heap := h' }
section
variable {M : Model} {A : Around} {E : Value → Shared → Prop} {s : Shared} {env : Env}
theorem comp_free2 {e : Expr} {scope : Scope} {pos : Pos} {newAcc first : Sem Value} {g : Comprehension} {gs : List Comprehension} {cl : List (Str × Addr)} {use : Option (Value → Sem Unit)} {Q : Value → Shared → Prop}
    (k1 : clausesOf e = g :: gs) (k2 : ∀ x, foldedSetIterable g.iter env x = pure x) (k3 : closureFor scope env = pure cl) (k4 : scope.kind = .function) (k5 : ∀ x ∈ scope.names, x.2 = .local → scope.names.lookup x.1 = some .local)
    (h : wpAny M A first (fun x s1 => wpAny M A (pyIter x) (fun it s2 => wpAny M A newAcc (fun acc s3 => wpAny M A (newFunctionEnv scope env.globals cl [] env.qual none .none (some env)) (fun ce s4 =>
      ce.frame = env.frame ∧ codeAny M A (.compStart e 0 it acc { ce with scope := relabel scope env }) (cPost M A E use Q acc ce.locals env.frame) s4) E s3) E s2) E s1) E s) :
    wpAny M A (comprehension e scope env pos newAcc false first use) Q E s := by
  have up : ∀ {v : Value} {t : Shared}, E v t → E v t := fun z => z
  unfold comprehension
  rw [k3, k1]
  refine wpAny_bind (wpAny_mono h (fun x s1 q1 => ?_) fun _ _ => up)
  refine wpAny_bind (wpAny_standAt (wpAny_bind (wpAny_of_eq (k2 x) (wpAny_bind (wpAny_holding (wpAny_mono q1 (fun it s2 q2 => ?_) fun _ _ => up))))))
  refine wpAny_standIf (wpAny_bind (wpAny_mono q2 (fun acc s3 q3 => ?_) fun _ _ => up))
  refine wpAny_bind (wpAny_pure (wpAny_bind (wpAny_mono q3 (fun ce s4 q4 => ?_) fun _ _ => up)))
  obtain ⟨hf, q4⟩ := q4
  dsimp only
  have own : ∀ x ∈ (scope.names.filter fun x => (x.2 == .local || x.2 == .cell) && x.1 != (".0" : Str)).reverse, x.2 = .local → Env.kindOf { ce with scope := relabel scope env } x.1 = some .local := by
    intro x hx hl
    exact lookup_relabel_local (k5 x (List.mem_filter.mp (List.mem_reverse.mp hx)).1 hl)
  have own2 : ∀ x ∈ (scope.names.filter fun x => (x.2 == .local || x.2 == .cell) && x.1 != (".0" : Str)).reverse.drop 1 ++ (scope.names.filter fun x => (x.2 == .local || x.2 == .cell) && x.1 != (".0" : Str)).reverse.take 1, x.2 = .local → Env.kindOf { ce with scope := relabel scope env } x.1 = some .local := by
    intro x hx hl
    rcases List.mem_append.mp hx with z | z
    · exact own x (List.mem_of_mem_drop z) hl
    · exact own x (List.mem_of_mem_take z) hl
  refine wpAny_holding (wpAny_bind (wpAny_attempt (wpAny_holding (wpAny_run (codeAny_mono q4 fun r s' hr => ?_)))))
  cases r with
  | ok f =>
    cases use with
    | none =>
      obtain ⟨m, hn, hr⟩ := hr
      refine wpAny_bind (wpAny_holding (wpAny_comp_letGo (cenv := { ce with scope := relabel scope env }) k4 _ s' m own hn fun h' m' _ sb => ?_))
      exact wpAny_pure (hr h' sb)
    | some u =>
      refine wpAny_bind (wpAny_rule (wpAny_bind (wpAny_holding (wpAny_mono hr (fun _ s'' hr' => ?_) fun _ _ => up))))
      obtain ⟨m, hn, hr'⟩ := hr'
      refine wpAny_bind (wpAny_comp_letGo (cenv := { ce with scope := relabel scope env }) k4 _ s'' m own2 hn fun h' m' _ sb => ?_)
      exact wpAny_pure (hr' h' sb)
  | error x =>
    obtain ⟨m, hn, hr⟩ := hr
    refine wpAny_bind (wpAny_holding (wpAny_comp_letGo (cenv := { ce with scope := relabel scope env }) k4 _ s' m own hn fun h' m' _ sb => ?_))
    exact wpAny_mono (hr h' sb _ rfl hf) (fun _ _ f => f.elim) fun _ _ => up
end
section
variable {X : Cx} {E : XK} {L : Addr}
theorem lc_coreX {pins : List (Addr × Obj)} {s : Shared} {σ : L2.St} {H : Hp} {Q : VK} {elt tg iter : Expr} {ifs : List Expr} {scope : Scope} {own : List (Str × Nat)} {pos pos' : Pos} {wi : TI} {g : TG} {tt : TT} {te : TE} {use : Option (Value → Sem Unit)} {Qf : Value → Shared → Prop}
    (hc : X.calm = true) (TK : TkL X L E) (hN : X.N.Nodup) (I : Inv X pins σ H s) (hi : PI X tg iter wi) (ok : BlkOk X.N X.env.scope scope own)
    (hg : ∀ (s : Shared) (H : Hp) (C : Addr) (cl : List (Str × Addr)) (fp : List Addr) (xe : Value → Shared → Prop), PG (blkE X s H scope (compEnvC scope cl C X.env) fp xe) tg g)
    (ht : ∀ (s : Shared) (H : Hp) (C : Addr) (cl : List (Str × Addr)) (fp : List Addr) (xe : Value → Shared → Prop), PTs (blkE X s H scope (compEnvC scope cl C X.env) fp xe) ifs tt)
    (he : ∀ (s : Shared) (H : Hp) (C : Addr) (cl : List (Str × Addr)) (fp : List Addr) (xe : Value → Shared → Prop), TkL (blkE X s H scope (compEnvC scope cl C X.env) fp xe) L E → PE (blkE X s H scope (compEnvC scope cl C X.env) fp xe) elt te)
    (hs : ∀ x, foldedSetIterable iter X.env x = pure x) (h : tLc wi g tt te (own.map (·.2)) σ H Q)
    (hRR : ∀ D C s' m H', Inv X pins σ H' s' → Q (.ref D) H' → s'.heap.Ns C m → FpOk X pins H' C → compPost (model X.prog X.w) X.A X.xe use Qf (.ref D) C (.ok .next) s') :
    wpAny (model X.prog X.w) X.A (comprehension (.ListComp elt [⟨tg, iter, ifs, 0⟩] scope pos) scope X.env pos' (newList []) false (eval iter X.env) use) Qf X.xe s := by
  have hfree : ∀ y ∈ scope.names, y.2 = .free → ∃ c, X.env.cells.lookup y.1 = some c := by
    intro y hy e
    rcases ok.free y hy e with k | k
    · exact I.ok.has _ (.inl k)
    · exact I.ok.has _ (.inr k)
  refine comp_free2 (use := use) rfl hs (closure_ok hfree) ok.kind (fun y hy e => by rw [ok.uniq y hy, e]) (thn (hi.run pins s σ H _ I h) fun xv s1 hx => thn hx fun itv s2 h2 => ?_)
  obtain ⟨it, fp, tn, J, H2, rfl, I2, T, st2, f2, q⟩ := h2
  refine wpAny_newObj_type (newEnv_comp ⟨rfl, ?_⟩) (by show 0 ≤ sizeLine; decide)
  generalize hD : s2.heap.objs.size = D
  have hDn : H2 D = none := I2.hok.fresh (Nat.le_of_eq hD)
  obtain ⟨W, ⟨m0, w0⟩, turn⟩ := q D hDn
  generalize hs3 : ({ s2 with heap := s2.heap.push { cls := .type "list", data := .seq ([] : List Value).toArray } } : Shared) = s3
  have h3 : s3.heap = s2.heap.push { cls := .type "list", data := .seq ([] : List Value).toArray } := by rw [← hs3]
  have I3 : Inv X pins σ (upd H2 D (.lst [])) s3 := by
    rw [← hs3]
    refine I2.laid (t' := s2.toks) (fun b o e => Heap.get?_push_of_some _ e) (Nat.le_of_eq hD) ⟨Nat.zero_le _, [], 0, .nil, ?_⟩
    rw [← hD]
    exact Heap.get?_push_size _ rfl
  have small : ∀ b ∈ fp, b < s2.heap.objs.size := by
    intro b hb
    obtain ⟨o, e, _⟩ := T.obj _ _ st2 b hb
    exact Heap.lt_size e
  have f3 : ∀ b ∈ fp, FpOk X pins (upd H2 D (.lst [])) b ∧ b < s3.heap.objs.size := by
    intro b hb
    have hlt := small b hb
    refine ⟨⟨?_, (f2 b hb).2⟩, by rw [h3, Heap.size_push]; exact Nat.lt_succ_of_lt hlt⟩
    rw [upd_ne (by rw [← hD]; exact Nat.ne_of_lt hlt)]
    exact (f2 b hb).1
  have st3 : tn 0 s3.heap := T.keep _ _ _ st2 fun b _ o e => by
    rw [h3]
    exact Heap.get?_push_of_some _ e
  have I4 := block_start I3 ok hN f3
  have pg := hg s3 (upd H2 D (.lst [])) s3.heap.objs.size (cellsFrom (s3.heap.objs.size + 1) scope.names (cloFrom X.env.cells scope.names [])) fp
  have pt := ht s3 (upd H2 D (.lst [])) s3.heap.objs.size (cellsFrom (s3.heap.objs.size + 1) scope.names (cloFrom X.env.cells scope.names [])) fp
  have pe := he s3 (upd H2 D (.lst [])) s3.heap.objs.size (cellsFrom (s3.heap.objs.size + 1) scope.names (cloFrom X.env.cells scope.names [])) fp
  show codeAny _ _ (.compStart (.ListComp elt [⟨tg, iter, ifs, 0⟩] scope pos) 0 (.ref it) (.ref D) (compEnvC scope (cellsFrom (s3.heap.objs.size + 1) scope.names (cloFrom X.env.cells scope.names [])) s3.heap.objs.size X.env)) (cPost (model X.prog X.w) X.A X.xe use Qf (.ref D) s3.heap.objs.size X.env.frame) { s3 with heap := pushCells (s3.heap.push { cls := .type "dict", data := .dict #[] }) scope.names }
  have nfp : ∀ b ∈ fp, (upd H2 D (.lst [])) b = none := fun b hb => (f3 b hb).1.1
  generalize hce : compEnvC scope (cellsFrom (s3.heap.objs.size + 1) scope.names (cloFrom X.env.cells scope.names [])) s3.heap.objs.size X.env = ce at I4 pg pt pe ⊢
  have cL : ce.locals = s3.heap.objs.size := by
    subst hce
    rfl
  have cF : ce.frame = some L := by
    subst hce
    exact TK.fr
  generalize hH3 : upd H2 D (.lst []) = H3 at I3 I4 pg pt pe w0 nfp f3
  generalize hs4 : ({ s3 with heap := pushCells (s3.heap.push { cls := .type "dict", data := .dict #[] }) scope.names } : Shared) = s4 at I4 ⊢
  have st4 : tn 0 s4.heap := T.keep _ _ _ st3 fun b _ o e => by
    rw [← hs4]
    exact pushCells_keeps _ _ _ _ (Heap.get?_push_of_some _ e)
  -- the block with its exceptions
  generalize hxe : (notedBy (model X.prog X.w) X.A ce fun e s' => cPost (model X.prog X.w) X.A X.xe use Qf (.ref D) s3.heap.objs.size X.env.frame (.error e) s') = xe
  have TB : TkL (blkE X s3 H3 scope ce fp xe) L E := by
    refine ⟨fun u s' x => ?_, cF, TK.st⟩
    show xe u s'
    rw [← hxe]
    show wpAny (model X.prog X.w) X.A (noteFrame u ce) (fun _ s'' => cPost (model X.prog X.w) X.A X.xe use Qf (.ref D) s3.heap.objs.size X.env.frame (.error u) s'') (fun e s' => cPost (model X.prog X.w) X.A X.xe use Qf (.ref D) s3.heap.objs.size X.env.frame (.error e) s') s'
    rw [TK.fr]
    exact out_of_block I3 TK f3 cL cF x
  have pg := pg xe
  have pt := pt xe
  have pe := pe xe TB
  have I4 : Inv (blkE X s3 H3 scope ce fp xe) [] (wipe σ (own.map (·.2))) H3 s4 := inv_tr I4 rfl
  have stat : ∀ {σ' : L2.St} {H' : Hp} {s' : Shared}, Inv (blkE X s3 H3 scope ce fp xe) [] σ' H' s' → (∀ b ∈ fp, H' b = none) → ∀ b ∈ fp, FpOk (blkE X s3 H3 scope ce fp xe) [] H' b := by
    intro σ' H' s' I' hn b hb
    exact ⟨hn b hb, (I'.ok.exf b hb).1, I'.ok.exfs b hb, .inl hb, fun x c e => (I'.ok.exf b hb).2 x c e, fun p hp => absurd (show p ∈ ([] : List (Addr × Obj)) ++ [] from hp) (by simp)⟩
  have loop : codeAny (model X.prog X.w) X.A (.compLoop (.ListComp elt [⟨tg, iter, ifs, 0⟩] scope pos) 0 (.ref it) (.ref D) ce) (cPost (model X.prog X.w) X.A X.xe use Qf (.ref D) s3.heap.objs.size X.env.frame) s4 := by
    refine compLoop_any (fun n s' => ∃ i H', Inv (blkE X s3 H3 scope ce fp xe) [] (wipe σ (own.map (·.2))) H' s' ∧ tn i s'.heap ∧ (∀ b ∈ fp, H' b = none) ∧ W i n H') ?_ m0 ⟨0, H3, I4, st4, nfp, w0⟩
    rw [hxe]
    rintro n s5 ⟨i, H5, I5, st5, n5, w5⟩
    rcases turn i n H5 w5 with ⟨stop, qq⟩ | ⟨go, Nx, hNx, step⟩
    · refine thnF (T.done (blkE X s3 H3 scope ce fp xe) rfl rfl rfl hc i [] s5 _ H5 (fun _ _ => False) I5 (stat I5 n5) st5 stop) fun r s6 ⟨hr, I6⟩ => ?_
      subst hr
      have I6 : Inv (X.blk s3 H3 scope ce fp) [] (wipe σ (own.map (·.2))) H5 s6 := inv_rt I6 rfl
      have I7 : Inv X pins σ H5 s6 := I3.call' (ch := fp) I6.os I6.base I6.hok I6.bare fun b hb => ⟨(f3 b hb).1.2.2.2.1, (f3 b hb).1.2.1, (f3 b hb).1.2.2.2.2.1, (f3 b hb).1.2.2.2.2.2⟩
      have nC : H5 s3.heap.objs.size = none := by
        have z : H5 ce.locals = none := I6.free
        rwa [cL] at z
      obtain ⟨m, hn, _⟩ := I6.loc
      have hn : s6.heap.Ns ce.locals m := hn
      rw [cL] at hn
      exact hRR D s3.heap.objs.size s6 m H5 I7 qq hn (I3.fpOk (Nat.le_refl _) nC)
    · refine thnF (T.item (blkE X s3 H3 scope ce fp xe) rfl rfl rfl hc i [] s5 _ H5 (fun _ _ => False) I5 (stat I5 n5) st5 go) fun r s6 ⟨u, hr, h6⟩ => ?_
      subst hr
      refine thnF h6 fun _ s7 ⟨x, H7, I7, r7, y7, st7, n7⟩ => ?_
      have I7' := I7.pinned (stat I7 n7) (T.obj _ _ st7)
      refine thn (pg.run _ s7 _ H7 x u _ I7' r7 (step x H7 y7)) fun _ s8 ⟨σ8, H8, I8, hw8, q8⟩ => ?_
      refine thn (pt.run _ s8 σ8 H8 _ I8 q8) fun b s9 ⟨H9, I9, q9⟩ => ?_
      have fin : ∀ {s' : Shared} {H' : Hp}, Inv (blkE X s3 H3 scope ce fp xe) ([] ++ pinsAt fp s7.heap) σ8 H' s' → Nx H' → ∃ m, m < n ∧ ∃ i H', Inv (blkE X s3 H3 scope ce fp xe) [] (wipe σ (own.map (·.2))) H' s' ∧ tn i s'.heap ∧ (∀ b ∈ fp, H' b = none) ∧ W i m H' := by
        intro s' H' I' nx
        obtain ⟨m', hm, w'⟩ := hNx H' nx
        have stays : ∀ b ∈ fp, ∀ o, s7.heap.get? b = some o → s'.heap.get? b = some o ∧ H' b = none := by
          intro b hb o e
          have z := I'.pin (b, o) (List.mem_append_right _ (List.mem_append_right _ (mem_pinsAt hb e)))
          exact ⟨z.1, z.2.1⟩
        have hl : (wipe σ (own.map (·.2))).length = σ8.length := by rw [← hw8, wipe_length]
        refine ⟨m', hm, i + 1, H', (I'.unpinned (pins := [])).weak hl (fun j v e => ?_), T.keep _ _ _ st7 fun b hb o e => (stays b hb o e).1, fun b hb => ?_, w'⟩
        · rw [← hw8] at e
          exact (wipe_some e).1
        · obtain ⟨o, e, _⟩ := T.obj _ _ st7 b hb
          exact (stays b hb o e).2
      cases b with
      | false =>
        simp only [Bool.false_eq_true, if_false] at q9 ⊢
        exact fin I9 q9
      | true =>
        simp only [if_true] at q9 ⊢
        refine thn (pe.run _ s9 σ8 H9 _ I9 q9) fun z s10 ⟨yv, H10, I10, r10, acc, hD10, hz10, nx⟩ => ?_
        exact app_ok (X := blkE X s3 H3 scope ce fp xe) I10 hD10 hz10 r10 fun s11 I11 => fin I11 nx
  exact codeAny_compStart_list loop (T.self X.A 0 _ _ _ st4 loop)
/-- as a value -/
theorem pe_lcX {elt tg iter : Expr} {ifs : List Expr} {scope : Scope} {own : List (Str × Nat)} {pos : Pos} {wi : TI} {g : TG} {tt : TT} {te : TE} (hc : X.calm = true) (TK : TkL X L E) (hN : X.N.Nodup) (hi : PI X tg iter wi) (ok : BlkOk X.N X.env.scope scope own)
    (hg : ∀ (s : Shared) (H : Hp) (C : Addr) (cl : List (Str × Addr)) (fp : List Addr) (xe : Value → Shared → Prop), PG (blkE X s H scope (compEnvC scope cl C X.env) fp xe) tg g)
    (ht : ∀ (s : Shared) (H : Hp) (C : Addr) (cl : List (Str × Addr)) (fp : List Addr) (xe : Value → Shared → Prop), PTs (blkE X s H scope (compEnvC scope cl C X.env) fp xe) ifs tt)
    (he : ∀ (s : Shared) (H : Hp) (C : Addr) (cl : List (Str × Addr)) (fp : List Addr) (xe : Value → Shared → Prop), TkL (blkE X s H scope (compEnvC scope cl C X.env) fp xe) L E → PE (blkE X s H scope (compEnvC scope cl C X.env) fp xe) elt te)
    (hs : ∀ x, foldedSetIterable iter X.env x = pure x := by intro _; rfl) : PE X (.ListComp elt [⟨tg, iter, ifs, 0⟩] scope pos) (tLc wi g tt te (own.map (·.2))) := by
  refine ⟨fun pins s σ H Q I h => ?_⟩
  rw [eval_ListComp]
  refine lc_coreX hc TK hN I hi ok hg ht he hs h fun D C s' m H' I' q hn f => ⟨m, hn, fun h'' sb => ?_⟩
  obtain ⟨f0, f1, _, f3, f4, f5⟩ := f
  exact ⟨.ref D, H', I'.turned (t' := s'.toks) (fun b o hb e => (sb.2 b hb).trans e) f0 f1 f3 f4 f5, rfl, q⟩
/-- name = [..], the name a local -/
theorem ps_setLcX {i : Nat} {y : Str} {py : Pos} {elt tg iter : Expr} {ifs : List Expr} {scope : Scope} {own : List (Str × Nat)} {pos spos : Pos} {wi : TI} {g : TG} {tt : TT} {te : TE} (hc : X.calm = true) (TK : TkL X L E) (hN : X.N.Nodup) (hy : X.N[i]? = some y) (hyl : X.env.scope.names.lookup y = some .local)
    (hsw : swapsWith (.ListComp elt [⟨tg, iter, ifs, 0⟩] scope pos) (some (.Name y py)) spos.line X.env = pure true) (hi : PI X tg iter wi) (ok : BlkOk X.N X.env.scope scope own)
    (hg : ∀ (s : Shared) (H : Hp) (C : Addr) (cl : List (Str × Addr)) (fp : List Addr) (xe : Value → Shared → Prop), PG (blkE X s H scope (compEnvC scope cl C X.env) fp xe) tg g)
    (ht : ∀ (s : Shared) (H : Hp) (C : Addr) (cl : List (Str × Addr)) (fp : List Addr) (xe : Value → Shared → Prop), PTs (blkE X s H scope (compEnvC scope cl C X.env) fp xe) ifs tt)
    (he : ∀ (s : Shared) (H : Hp) (C : Addr) (cl : List (Str × Addr)) (fp : List Addr) (xe : Value → Shared → Prop), TkL (blkE X s H scope (compEnvC scope cl C X.env) fp xe) L E → PE (blkE X s H scope (compEnvC scope cl C X.env) fp xe) elt te)
    (hs : ∀ x, foldedSetIterable iter X.env x = pure x := by intro _; rfl) : PS X (.Assign [.Name y py] (.ListComp elt [⟨tg, iter, ifs, 0⟩] scope pos) spos) (tAsg (tLc wi g tt te (own.map (·.2))) (gName i)) := by
  refine ⟨fun pins s σ H D I h => ?_⟩
  rw [exec_Assign_Name_used _ _ _ _ hsw]
  refine wpAny_bind (wpAny_standAt (wpAny_bind ?_))
  have h : tLc wi g tt te (own.map (·.2)) σ H (fun x H1 => gName i x σ H1 D.nx) := h
  refine wpAny_bind (thn (lc_coreX (Qf := fun _ s' => SP X pins D .next s') (use := some (assign (.Name y py) X.env)) (pos' := firstIterPos [⟨tg, iter, ifs, 0⟩] pos) hc TK hN I hi ok hg ht he hs h fun L' C s' m H' I' q hn f => ?_) fun _ s' hq => wpAny_pure (wpAny_pure hq))
  show wpAny _ _ (assign (.Name y py) X.env (.ref L')) _ _ _
  refine wpAny_assign_Name (store_ok2 (v := V.ref L') I' hN hy (.inl hyl) rfl (fun s2 I2 ⟨a, sb, ha⟩ => ?_) (.inr hyl))
  obtain ⟨f0, f1, _, f3, f4, f5⟩ := f
  have far : C ≠ a := by
    rcases ha with z | z
    · rw [z]
      exact f1
    · exact fun e => f4 y a z e.symm
  refine ⟨m, hn.sameBut sb far, fun h3 sb3 => ?_⟩
  exact ⟨_, H', I2.turned (t' := s2.toks) (fun b o hb e => (sb3.2 b hb).trans e) f0 f1 f3 f4 f5, q⟩
end
end SS

namespace SS
open PySem PySem.Spec PyProof.Rows L2 LamX
open SX (S S_len S_tl)
section
variable {P : Program} {w : World} {K : PySem.W.Frag} {mg : Str → Option Value} {base : Heap}
abbrev s_written : Stmt := topS 22
theorem sc_written : FnScope ["lists", "rows", "row", "number"] ["lists"] (defScope s_written) := ⟨rfl, rfl, rfl, by decide +kernel, rfl, by decide +kernel, by decide +kernel⟩
def sp_written (K : PySem.W.Frag) : Sp := fun vs H Q _ => ∃ (p : Addr) (xs : List V) (rs : List Row), vs = [.ref p] ∧ Rws K H p xs rs ∧ Good rs ∧ ∀ H', Same H H' → Q (.str (S (writ rs))) H'
theorem ok_written (Z : BZ mg) (O_need_lists : OkF P w K mg base 4 "need_lists" ["thing"] (sp_need_lists K)) (D : DefAt K mg "written" s_written) : OkF P w K mg base 5 "written" ["lists"] (sp_written K) := by
  refine OkF.mk' D sc_written (fun _ _ _ _ _ _ us hl => match us, hl with | [_], _ => rfl) (fun vs H Q E h => ?_) (fun f cdv A outer s H vs Q E hr h => ?_)
  · first | (obtain ⟨_, rfl, _⟩ := h; rfl) | (obtain ⟨_, _, rfl, _⟩ := h; rfl) | (obtain ⟨_, _, _, rfl, _⟩ := h; rfl) | (obtain ⟨_, _, _, _, rfl, _⟩ := h; rfl) | (obtain ⟨_, _, _, _, _, rfl, _⟩ := h; rfl) | (obtain ⟨_, _, _, _, _, _, rfl, _⟩ := h; rfl) | (obtain ⟨_, _, _, _, _, _, _, rfl, _⟩ := h; rfl) | (obtain ⟨_, _, _, _, _, _, _, _, rfl, _⟩ := h; rfl) | (obtain ⟨_, _, _, _, _, _, _, _, _, rfl, _⟩ := h; rfl) | (obtain ⟨_, _, _, _, _, _, _, _, _, _, rfl, _⟩ := h; rfl) | (obtain ⟨_, _, _, _, _, _, _, _, _, _, _, rfl, _⟩ := h; rfl) | (obtain ⟨_, _, _, _, _, _, _, _, _, _, _, _, rfl, _⟩ := h; rfl) | (obtain ⟨_, _, _, _, _, _, _, _, _, _, _, _, _, rfl, _⟩ := h; rfl) | (obtain ⟨_, _, _, _, _, _, _, _, _, _, _, _, _, _, rfl, _⟩ := h; rfl)
  · refine ⟨_, id ((pss_cons (ps_set (i := 1) sc_written.nd rfl (Or.inl rfl) (pc O_need_lists (hr.mono (by decide)) (passes_call (takes_of rfl rfl rfl rfl) (fun _ _ _ _ h => h)) (pa_cons (pv 0) pa_nil)))
      (pss_one (ps_ret (pe_m1 PySem.F.slot_str_join PySem.F.type_str_join (mt_joinK (K := K) rfl) pe_str (pe_lc (own := [("row", 2)]) (g := gName 2) (tt := tYes) rfl sc_written.nd (pi_list (pv 1)) (blkOk_by (N := ["lists", "rows", "row", "number"]) (sc := defScope s_written) (own := [("row", 2)]) (by decide +kernel)) (fun _ _ _ _ _ => pg_name (i := 2) sc_written.nd rfl (Or.inl rfl)) (fun _ _ _ _ _ => pts_nil) (fun _ _ _ _ _ => (pe_m1 PySem.F.slot_str_join PySem.F.type_str_join (mt_joinK (K := K) rfl) pe_str (pe_lc (own := [("number", 3)]) (g := gName 3) (tt := tYes) rfl sc_written.nd (pi_tupK (K := K) rfl (pv 2)) (blkOk_by (N := ["lists", "rows", "row", "number"]) (own := [("number", 3)]) (by rfl)) (fun _ _ _ _ _ => pg_name (i := 3) sc_written.nd rfl (Or.inl rfl)) (fun _ _ _ _ _ => pts_nil) (fun _ _ _ _ _ => (pe_callTy call_str_int (by rfl) Z.str bt_str (pa_cons (pv 3) pa_nil)))))))))))), ?_⟩
    obtain ⟨p, xs, rs, rfl, hR, hg, q⟩ := h
    refine ⟨_, rfl, .ref p, rowsD rs, rfl, .inl hR.dp, fun e => ?_, fun rs2 p2 xs2 e g2 ep hR2 H1 l s1 nl el => ?_⟩
    · rw [areListsD_rows hg] at e
      cases e
    obtain rfl := rowsD_inj e
    cases ep
    have hR1 : Rws K H1 l xs2 rs := ⟨sqL el, hR2.n, fun i x r h1 h2 => (hR2.same s1).at_ i x r h1 h2⟩
    have g12 := hg.2.1
    refine ⟨⟨_, rfl⟩, _, rfl, l, rfl, ⟨_, sqL el⟩, fun D nD => lc_list (K := K) (a := l) (xs := xs2) (fun j H' => Same H1 H' ∧ H' D = some (.lst ((((rs.take j).map rowL).map S).map V.str))) ⟨same_new nD, upd_same⟩ (fun j H' _ ⟨s, _⟩ => same_seq s hR1.l) (fun j x H' hx ⟨s, e⟩ => ?_) (fun H' ⟨s, e⟩ => ?_)⟩
    · obtain ⟨r, a, hr, rfl, ha⟩ := (hR1.same s).getV hx
      have gr := hg.2.2 r (List.mem_of_getElem? hr)
      obtain ⟨er, n1, n2, n3⟩ := good_nat gr
      refine ⟨rfl, ?_⟩
      refine ⟨⟨_, rfl⟩, _, rfl, a, rfl, ⟨_, ha⟩, fun D2 nD2 => lc_tup (K := K) (a := a) (xs := [.int r.1, .int r.2.1, .int r.2.2]) (fun i H'' => Same H' H'' ∧ H'' D2 = some (.lst (((([r.1.toNat, r.2.1.toNat, r.2.2.toNat].take i).map TL.numL).map S).map V.str))) ⟨same_new nD2, upd_same⟩ (fun i H'' _ ⟨s, _⟩ => same_tup s ha) (fun i x H'' hx ⟨s2, e2⟩ => ?_) (fun H'' ⟨s2, e2⟩ => ?_)⟩
      · have hi3 : i < 3 := (List.getElem?_eq_some_iff.mp hx).1
        obtain ⟨n, hn, rfl, en⟩ : ∃ n : Nat, n < 10 ^ 31 ∧ x = .int (n : Int) ∧ [r.1.toNat, r.2.1.toNat, r.2.2.toNat][i]? = some n := by
          rw [er] at hx
          match i, hi3 with
          | 0, _ => exact ⟨_, n1, (Option.some.inj hx).symm, rfl⟩
          | 1, _ => exact ⟨_, n2, (Option.some.inj hx).symm, rfl⟩
          | 2, _ => exact ⟨_, n3, (Option.some.inj hx).symm, rfl⟩
        refine ⟨rfl, ?_⟩
        refine ⟨_, rfl, _, rfl, log_nat hn, _, e2, szl ?_, same_mut s2 nD2, ?_⟩
        · rw [List.length_map, List.length_map, List.length_map, List.length_take]
          omega
        · rw [upd_same, List.take_add_one, en, List.map_append, List.map_append, List.map_append]
          show _ = some (HO.lst (_ ++ [V.str (S (TL.numL n))]))
          rw [← SX.num_S]
      · have l1 := TL.numL_len (k := 31) (by decide) n1
        have l2 := TL.numL_len (k := 31) (by decide) n2
        have l3 := TL.numL_len (k := 31) (by decide) n3
        refine ⟨_, D2, ([r.1.toNat, r.2.1.toNat, r.2.2.toNat].map TL.numL).map S, rfl, rfl, .inl (sqL e2), ?_, ?_⟩
        · rw [SX.lens, List.length_map, List.length_map]
          show ((TL.numL r.1.toNat).length + ((TL.numL r.2.1.toNat).length + ((TL.numL r.2.2.toNat).length + 0))) + 3 * 1 ≤ _
          omega
        · rw [one_sp, SX.join_S]
          refine ⟨_, s2 _ _ e, szl ?_, same_mut (s.trans s2) nD, ?_⟩
          · rw [List.length_map, List.length_map, List.length_map, List.length_take]
            omega
          · rw [upd_same, List.take_add_one, hr, List.map_append, List.map_append, List.map_append]
            rfl
    · have e2 : rs.take xs2.length = rs := List.take_of_length_le (by rw [hR1.n]; exact Nat.le_refl _)
      rw [e2] at e
      have h2 := sum_len (l := rs.map rowL) (k := 100) fun p hp => by
        obtain ⟨r, hr, rfl⟩ := List.mem_map.mp hp
        exact rowL_len (hg.2.2 r hr)
      refine ⟨_, D, (rs.map rowL).map S, rfl, rfl, .inl (sqL e), ?_, ?_⟩
      · rw [SX.lens, List.length_map, List.length_map]
        rw [List.length_map] at h2
        show ((rs.map rowL).map List.length).sum + rs.length * 1 ≤ _
        omega
      · rw [one_nl, SX.join_S]
        exact q _ (s1.trans s)
abbrev s_number_of : Stmt := topS 23
theorem sc_number_of : FnScope ["word", "sign"] ["word"] (defScope s_number_of) := ⟨rfl, rfl, rfl, by decide +kernel, rfl, by decide +kernel, by decide +kernel⟩
def sp_number_of (K : PySem.W.Frag) : Sp := fun vs H Q E => ∃ (a : List Nat), vs = [.str (S a)] ∧ a.length ≤ 10000 ∧ (numOf a = none → ∀ H', Same H H' → E (.ref (He.ga K "BadText")) none H') ∧ ∀ n : Nat, numOf a = some n → Q (.int (n : Int)) H
theorem ok_number_of (Z : BZ mg) (E_BadText : ExF K mg "BadText") (G_MOST_FIGURES : ∃ t, mg "MOST_FIGURES" = some (.int 31 t)) (D : DefAt K mg "number_of" s_number_of) : OkF P w K mg base 1 "number_of" ["word"] (sp_number_of K) := by
  obtain ⟨t_MOST_FIGURES, g_MOST_FIGURES⟩ := G_MOST_FIGURES
  refine OkF.mk' D sc_number_of (fun _ _ _ _ _ _ us hl => match us, hl with | [_], _ => rfl) (fun vs H Q E h => ?_) (fun f cdv A outer s H vs Q E hr h => ?_)
  · first | (obtain ⟨_, rfl, _⟩ := h; rfl) | (obtain ⟨_, _, rfl, _⟩ := h; rfl) | (obtain ⟨_, _, _, rfl, _⟩ := h; rfl) | (obtain ⟨_, _, _, _, rfl, _⟩ := h; rfl) | (obtain ⟨_, _, _, _, _, rfl, _⟩ := h; rfl) | (obtain ⟨_, _, _, _, _, _, rfl, _⟩ := h; rfl) | (obtain ⟨_, _, _, _, _, _, _, rfl, _⟩ := h; rfl) | (obtain ⟨_, _, _, _, _, _, _, _, rfl, _⟩ := h; rfl) | (obtain ⟨_, _, _, _, _, _, _, _, _, rfl, _⟩ := h; rfl) | (obtain ⟨_, _, _, _, _, _, _, _, _, _, rfl, _⟩ := h; rfl) | (obtain ⟨_, _, _, _, _, _, _, _, _, _, _, rfl, _⟩ := h; rfl) | (obtain ⟨_, _, _, _, _, _, _, _, _, _, _, _, rfl, _⟩ := h; rfl) | (obtain ⟨_, _, _, _, _, _, _, _, _, _, _, _, _, rfl, _⟩ := h; rfl) | (obtain ⟨_, _, _, _, _, _, _, _, _, _, _, _, _, _, rfl, _⟩ := h; rfl)
  · refine ⟨_, id ((Evl.pss_cut (ps_if (PW.pt (pw_or (pt_not (pt_chain op_le op_le pe_int (pe_callB call_len_str (by rfl) Z.len bt_len (pa_cons (pv 0) pa_nil)) (pe_glob (v := .int 31) rfl g_MOST_FIGURES ⟨_, rfl⟩))) (pw_or1 (PW.pt (pw_and (pt_cmpR op_eq (pe_ix ix_str (pv 0) pe_int (fun _ _ => rfl)) pe_str (nomark _)) (pw_and1 (pt_cmpR op_ne (pv 0) pe_str (nomark _)))))))) (pss_one (ps_raise rfl (takes_of rfl rfl rfl rfl) (pmk_own PySem.F.excBase_ValueError E_BadText.e E_BadText.g E_BadText.k (raises_own E_BadText.b E_BadText.t) rfl))) pss_nil)
      (pss_cons (ps_for (passes_of rfl) rfl (pi_str (pv 0)) (pg_name (i := 1) sc_number_of.nd rfl (Or.inl rfl)) (pss_one (ps_if (pt_cmpR op_notIn_sign (pv 1) pe_str (by rfl)) (pss_one (ps_raise rfl (takes_of rfl rfl rfl rfl) (pmk_own PySem.F.excBase_ValueError E_BadText.e E_BadText.g E_BadText.k (raises_own E_BadText.b E_BadText.t) rfl))) pss_nil)))
      (pss_one (ps_ret (pe_callTy call_int_str (by rfl) Z.int bt_int (pa_cons (pv 0) pa_nil))))))), ?_⟩
    obtain ⟨a, rfl, hl, qe, q⟩ := h
    have hz : (S a).length ≤ sizeLine := by
      rw [S_len]
      exact sz (by omega)
    have bad : numOf a = none → E (.ref (He.ga K "BadText")) none H := fun e => qe e H (Same.refl H)
    have hle : ((S a).length : Int) = (a.length : Int) := by rw [S_len]
    refine ⟨fun σ' H' => σ' = [some (.str (S a)), none] ∧ H' = H ∧ a ≠ [] ∧ a.length ≤ 31 ∧ (∀ r, a = 48 :: r → a = [48]), ?_, ?_⟩
    · refine ⟨_, rfl, _, rfl, hz, _, _, rfl, rfl, _, rfl, iteB (fun e1 => ⟨_, _, rfl, rfl, _, rfl, ?_⟩) (fun e1 => ⟨_, rfl, iteT (iteT (bad (numOf_len fun z => ?_)))⟩)⟩
      rotate_left 1
      · have := of_decide_eq_false e1
        omega
      have h1 := of_decide_eq_true e1
      refine iteNB (fun e2 => iteT (bad (numOf_len fun z => ?_))) (fun e2 => ?_)
      · have := of_decide_eq_false e2
        omega
      have h2 := of_decide_eq_true e2
      cases a with
      | nil =>
        rw [List.length_nil] at hle
        omega
      | cons c r =>
        refine ⟨_, rfl, _, _, _, rfl, rfl, hz, at0, rfl, _, rfl, ?_⟩
        rw [one_is]
        refine iteB (fun e3 => ?_) (fun e3 => iteF ⟨rfl, rfl, by simp, by omega, fun r' z => ?_⟩)
        · obtain rfl := of_decide_eq_true e3
          refine ⟨_, rfl, rfl, _, rfl, ?_⟩
          rw [word_zero]
          refine iteNB (fun e4 => bad (numOf_zero (of_decide_eq_false e4))) (fun e4 => ⟨rfl, rfl, by simp, by omega, fun _ _ => of_decide_eq_true e4⟩)
        · injection z with z1 z2
          exact absurd z1 (of_decide_eq_false e3)
    rintro σ' H' ⟨rfl, rfl, hne, h31, h48⟩
    have hsz : (S a).cps.size = a.length := S_len a
    refine ⟨_, rfl, _, rfl, for_it walk_str (fun i σ' H1 => ∃ x1, σ' = [some (.str (S a)), x1] ∧ H1 = H' ∧ ∀ x ∈ a.take i, isDig x = true) ⟨none, rfl, rfl, fun x hx => by cases hx⟩ (fun _ _ _ _ _ => trivial) (fun i x σ1 H1 H2 hi hp hy => ?_) (fun σ1 H1 hp => ?_)⟩
    · obtain ⟨x1, rfl, rfl, hd⟩ := hp
      obtain ⟨rfl, c, hc, rfl⟩ := hy
      have hc' : a[i]? = some c := by
        rw [← Array.getElem?_toList] at hc
        exact hc
      refine ⟨_, rfl, c, _, rfl, rfl, _, rfl, ?_⟩
      rw [in_digs]
      refine iteNB (fun e => bad (numOf_sign (List.mem_of_getElem? hc') e)) (fun e => ⟨_, rfl, rfl, fun x hx => ?_⟩)
      rw [List.take_add_one, hc', Option.toList_some] at hx
      rcases List.mem_append.mp hx with hx | hx
      · exact hd x hx
      · rw [List.mem_singleton.mp hx]
        exact e
    · obtain ⟨x1, rfl, rfl, hd⟩ := hp
      rw [hsz, List.take_length] at hd
      refine ⟨_, rfl, _, (NumText.digitsVal a : Nat), rfl, SX.int_S (List.all_eq_true.mpr hd) hne (by omega), ?_, ?_⟩
      · rw [S_len]
        omega
      · refine q _ ?_
        cases a with
        | nil => exact absurd rfl hne
        | cons c r => exact numOf_ok h31 (fun e => by subst e; exact h48 r rfl) hd
end
end SS

namespace SS
open PySem PySem.Spec PyProof.Rows L2 LamX
open SX (S S_len S_tl)
section
variable {P : Program} {w : World} {K : PySem.W.Frag} {mg : Str → Option Value} {base : Heap}
abbrev s_read : Stmt := topS 24
theorem sc_read : FnScope ["text", "found", "row", "word"] ["text"] (defScope s_read) := ⟨rfl, rfl, rfl, by decide +kernel, rfl, by decide +kernel, by decide +kernel⟩
def readD : PyData → Option (List Row)
  | .str s => readN s.cps.toList
  | _ => none
theorem readD_other {d : PyData} (h : isStrD d = false) : readD d = none := by
  cases d with
  | str s => cases h
  | _ => rfl
def sp_read (K : PySem.W.Frag) : Sp := fun vs H Q E => ∃ (v : V) (d : PyData), vs = [v] ∧ Dz K H v d ∧ (∀ s, d = .str s → s.length ≤ 10000) ∧ (readD d = none → ∀ H', Same H H' → E (.ref (He.ga K "BadText")) none H') ∧
  ∀ (rs : List Row), readD d = some rs → Good rs → ∀ H' p xs, Same H H' → H p = none → H' p = some (.lst xs) → Rws K H' p xs rs → Q (.ref p) H'
/-- lines of numbers, each a tuple -/
structure Nls (K : PySem.W.Frag) (H : Hp) (ys : List V) (ls : List (List Nat)) : Prop where
  n : ys.length = ls.length
  at_ : ∀ (i : Nat) (x : V) (ns : List Nat), ys[i]? = some x → ls[i]? = some ns → ∃ a, x = .ref a ∧ SqT K H a (ns.map fun (n : Nat) => V.int (n : Int))
theorem Nls.snoc {K : PySem.W.Frag} {H H' : Hp} {ys : List V} {ls : List (List Nat)} {t : Addr} {ns : List Nat} (h : Nls K H ys ls) (e2 : ∀ a zs, SqT K H a zs → SqT K H' a zs) (ht : SqT K H' t (ns.map fun (n : Nat) => V.int (n : Int))) : Nls K H' (ys ++ [.ref t]) (ls ++ [ns]) := by
  refine ⟨by rw [List.length_append, List.length_append, h.n]; rfl, fun i x s h1 h2 => ?_⟩
  by_cases hi : i < ys.length
  · rw [List.getElem?_append_left hi] at h1
    rw [List.getElem?_append_left (by rw [← h.n]; exact hi)] at h2
    obtain ⟨a, h3, h4⟩ := h.at_ i x s h1 h2
    exact ⟨a, h3, e2 _ _ h4⟩
  · rw [List.getElem?_append_right (Nat.not_lt.mp hi)] at h1
    rw [List.getElem?_append_right (by rw [← h.n]; exact Nat.not_lt.mp hi), ← h.n] at h2
    cases hj : i - ys.length with
    | zero =>
      rw [hj] at h1 h2
      cases h1
      cases h2
      exact ⟨t, rfl, ht⟩
    | succ j =>
      rw [hj] at h1
      cases h1
theorem dpa_nats {K : PySem.W.Frag} {H : Hp} : ∀ (ns : List Nat), DpAll K H (ns.map fun (n : Nat) => V.int (n : Int)) (ns.map fun (n : Nat) => PyData.int (n : Int))
  | [] => .nil
  | n :: r => .cons (.int n) (dpa_nats r)
theorem dpa_nls {K : PySem.W.Frag} {H : Hp} : ∀ {ys : List V} {ls : List (List Nat)}, ys.length = ls.length → (∀ (i : Nat) (x : V) (ns : List Nat), ys[i]? = some x → ls[i]? = some ns → ∃ a, x = .ref a ∧ SqT K H a (ns.map fun (n : Nat) => V.int (n : Int))) → DpAll K H ys (ls.map numsD)
  | [], [], _, _ => .nil
  | [], _ :: _, h, _ => by cases h
  | _ :: _, [], h, _ => by cases h
  | x :: ys, c :: cs, h, k => by
    obtain ⟨a, rfl, ha⟩ := k 0 x c rfl rfl
    exact .cons (.tup ha (dpa_nats c)) (dpa_nls (Nat.succ.inj h) fun i y s h1 h2 => k (i + 1) y s (by simpa using h1) (by simpa using h2))
theorem map_snoc {α β : Type} {f : α → Option β} {l : List α} {ys : List β} {i : Nat} {x : α} {y : β} (h : (l.take i).map f = ys.map some) (hx : l[i]? = some x) (hy : f x = some y) : (l.take (i + 1)).map f = (ys ++ [y]).map some := by
  rw [List.take_add_one, hx, Option.toList_some, List.map_append, List.map_append, h, List.map_cons, hy]
  rfl
theorem map_len {α β : Type} {f : α → Option β} {l : List α} {ys : List β} (h : l.map f = ys.map some) : ys.length = l.length := by
  have := congrArg List.length h
  rw [List.length_map, List.length_map] at this
  exact this.symm
theorem strs_at {L : List (List Nat)} {j : Nat} {x : V} (h : ((L.map S).map V.str)[j]? = some x) : ∃ l, L[j]? = some l ∧ x = .str (S l) := by
  rw [List.getElem?_map, List.getElem?_map] at h
  cases e : L[j]? with
  | none =>
    rw [e] at h
    cases h
  | some l =>
    rw [e] at h
    cases h
    exact ⟨l, rfl, rfl⟩
theorem ok_read (Z : BZ mg) (O_number_of : OkF P w K mg base 1 "number_of" ["word"] (sp_number_of K)) (O_are_lists : OkF P w K mg base 3 "are_lists" ["thing"] (sp_are_lists K)) (E_BadText : ExF K mg "BadText") (D : DefAt K mg "read" s_read) : OkF P w K mg base 4 "read" ["text"] (sp_read K) := by
  refine OkF.mk' D sc_read (fun _ _ _ _ _ _ us hl => match us, hl with | [_], _ => rfl) (fun vs H Q E h => ?_) (fun f cdv A outer s H vs Q E hr h => ?_)
  · first | (obtain ⟨_, rfl, _⟩ := h; rfl) | (obtain ⟨_, _, rfl, _⟩ := h; rfl) | (obtain ⟨_, _, _, rfl, _⟩ := h; rfl) | (obtain ⟨_, _, _, _, rfl, _⟩ := h; rfl) | (obtain ⟨_, _, _, _, _, rfl, _⟩ := h; rfl) | (obtain ⟨_, _, _, _, _, _, rfl, _⟩ := h; rfl) | (obtain ⟨_, _, _, _, _, _, _, rfl, _⟩ := h; rfl) | (obtain ⟨_, _, _, _, _, _, _, _, rfl, _⟩ := h; rfl) | (obtain ⟨_, _, _, _, _, _, _, _, _, rfl, _⟩ := h; rfl) | (obtain ⟨_, _, _, _, _, _, _, _, _, _, rfl, _⟩ := h; rfl) | (obtain ⟨_, _, _, _, _, _, _, _, _, _, _, rfl, _⟩ := h; rfl) | (obtain ⟨_, _, _, _, _, _, _, _, _, _, _, _, rfl, _⟩ := h; rfl) | (obtain ⟨_, _, _, _, _, _, _, _, _, _, _, _, _, rfl, _⟩ := h; rfl) | (obtain ⟨_, _, _, _, _, _, _, _, _, _, _, _, _, _, rfl, _⟩ := h; rfl)
  · refine ⟨_, id ((pss_cons (ps_if (pt_not (pt_val (pe_callB (call_isAK (K := K) rfl) (by rfl) Z.isinstance bt_isinstance (pa_cons (pv 0) (pa_cons (pe_bltn (v := .ty "str") (by rfl) Z.str bt_str rfl) pa_nil))))) (pss_one (ps_raise rfl (takes_of rfl rfl rfl rfl) (pmk_own PySem.F.excBase_ValueError E_BadText.e E_BadText.g E_BadText.k (raises_own E_BadText.b E_BadText.t) rfl))) pss_nil)
      (pss_cons (ps_setLcX (i := 1) (own := [("row", 2)]) (g := gName 2) (tt := tYes) rfl (tkL_of (takes_of rfl rfl rfl rfl) rfl rfl) sc_read.nd rfl rfl (sw_true rfl rfl rfl (by decide +kernel)) (pi_list (pe_m1 PySem.F.slot_str_split PySem.F.type_str_split mt_split (pv 0) pe_str)) (blkOk_by (N := ["text", "found", "row", "word"]) (sc := defScope s_read) (own := [("row", 2)]) (by decide +kernel)) (fun _ _ _ _ _ _ => pg_name (i := 2) sc_read.nd rfl (Or.inl rfl)) (fun _ _ _ _ _ _ => pts_nil) (fun _ _ _ _ _ _ tk => (pe_callTy (call_tuple_ofK (K := K) rfl) (by rfl) Z.tuple bt_tuple (pa_cons (pe_lcX (own := [("word", 3)]) (g := gName 3) (tt := tYes) rfl tk sc_read.nd (pi_listK (K := K) rfl (pe_m1 PySem.F.slot_str_split PySem.F.type_str_split mt_split (pv 2) pe_str)) (blkOk_by (N := ["text", "found", "row", "word"]) (own := [("word", 3)]) (by rfl)) (fun _ _ _ _ _ _ => pg_name (i := 3) sc_read.nd rfl (Or.inl rfl)) (fun _ _ _ _ _ _ => pts_nil) (fun _ _ _ _ _ _ tk => (pc O_number_of (hr.mono (by decide)) tk.passes (pa_cons (pv 3) pa_nil)))) pa_nil))))
      (pss_cons (ps_if (pt_not (pt_val (pc O_are_lists (hr.mono (by decide)) passL (pa_cons (pv 1) pa_nil)))) (pss_one (ps_raise rfl (takes_of rfl rfl rfl rfl) (pmk_own PySem.F.excBase_ValueError E_BadText.e E_BadText.g E_BadText.k (raises_own E_BadText.b E_BadText.t) rfl))) pss_nil)
      (pss_one (ps_ret (pv 1))))))), ?_⟩
    obtain ⟨v, d, rfl, hd, hsz, qe, q⟩ := h
    refine ⟨v, rfl, isi_str hd ⟨_, rfl, iteNB (fun e => qe (readD_other e) H (Same.refl H)) (fun e => ?_)⟩⟩
    cases d with
    | str s =>
      obtain rfl : v = .str s := by
        rcases hd with hd | ⟨hd, _⟩
        · cases hd
          rfl
        · cases hd
      have hl := hsz s rfl
      obtain ⟨a, rfl⟩ : ∃ a, s = S a := ⟨_, (S_tl s).symm⟩
      rw [S_len] at hl
      have qe : readN a = none → ∀ H', Same H H' → E (.ref (He.ga K "BadText")) none H' := qe
      have q : ∀ (rs : List Row), readN a = some rs → Good rs → ∀ H' p xs, Same H H' → H p = none → H' p = some (.lst xs) → Rws K H' p xs rs → Q (.ref p) H' := q
      refine ⟨_, rfl, ⟨_, rfl⟩, S a, _, rfl, rfl, by decide +kernel, ?_, fun p1 n1 => ?_⟩
      · rw [S_len]
        exact sz (by omega)
      have eL : Txt.split (S a) "\n" = (TL.spl [10] 0 [] a).map S := by
        rw [one_nl]
        exact SX.split_S (by simp) (by decide)
      rw [eL]
      have s1 := same_new (o := .lst (((TL.spl [10] 0 [] a).map S).map V.str)) n1
      have ll := spl_len [10] a 0 []
      have lp := spl_part [10] a 0 []
      generalize hL : TL.spl [10] 0 [] a = L at *
      generalize hH1 : upd H p1 (.lst ((L.map S).map V.str)) = H1 at *
      have e1 : H1 p1 = some (.lst ((L.map S).map V.str)) := by
        rw [← hH1]
        exact upd_same
      refine ⟨p1, rfl, ⟨_, sqL e1⟩, fun D nD => lc_list (K := K) (a := p1) (xs := (L.map S).map V.str) (fun j H' => Same H1 H' ∧ ∃ ys ls, H' D = some (.lst ys) ∧ Nls K H' ys ls ∧ (L.take j).map lineOf = ls.map some) ⟨same_new nD, [], [], upd_same, ⟨rfl, fun i x ns h1 _ => by cases h1⟩, rfl⟩ (fun j H' _ ⟨s, _⟩ => sqL (s _ _ e1)) (fun j x H' hx ⟨s, ys, ls, eD, hN, hm⟩ => ?_) (fun H' ⟨s, ys, ls, eD, hN, hm⟩ => ?_)⟩
      · obtain ⟨l, hlj, rfl⟩ := strs_at hx
        have hml := List.mem_of_getElem? hlj
        have hll := lp l hml
        rw [List.length_nil] at hll
        refine ⟨rfl, ?_⟩
        refine ⟨_, rfl, ⟨_, rfl⟩, S l, _, rfl, rfl, by decide +kernel, ?_, fun p2 n2 => ?_⟩
        · rw [S_len]
          exact sz (by omega)
        have eW : Txt.split (S l) " " = (TL.spl [32] 0 [] l).map S := by
          rw [one_sp]
          exact SX.split_S (by simp) (by decide)
        rw [eW]
        have s2 := same_new (o := .lst (((TL.spl [32] 0 [] l).map S).map V.str)) n2
        have wl := spl_len [32] l 0 []
        have wp := spl_part [32] l 0 []
        have lo : lineOf l = allOf numOf (TL.spl [32] 0 [] l) := rfl
        generalize hW : TL.spl [32] 0 [] l = W at *
        generalize hH2 : upd H' p2 (.lst ((W.map S).map V.str)) = H2 at *
        have e2 : H2 p2 = some (.lst ((W.map S).map V.str)) := by
          rw [← hH2]
          exact upd_same
        refine ⟨p2, rfl, ⟨_, sqL e2⟩, fun D2 nD2 => lc_list (K := K) (a := p2) (xs := (W.map S).map V.str) (fun i H'' => Same H2 H'' ∧ ∃ ns : List Nat, H'' D2 = some (.lst (ns.map fun (n : Nat) => V.int (n : Int))) ∧ (W.take i).map numOf = ns.map some) ⟨same_new nD2, [], upd_same, rfl⟩ (fun i H'' _ ⟨s, _⟩ => sqL (s _ _ e2)) (fun i x H'' hx ⟨s3, ns, eD2, hm2⟩ => ?_) (fun H'' ⟨s3, ns, eD2, hm2⟩ => ?_)⟩
        · obtain ⟨w1, hwi, rfl⟩ := strs_at hx
          have hmw := List.mem_of_getElem? hwi
          have hwl := wp w1 hmw
          rw [List.length_nil] at hwl
          have hnl := map_len hm2
          rw [List.length_take] at hnl
          refine ⟨rfl, ?_⟩
          refine ⟨_, rfl, w1, rfl, by omega, fun e H3 s4 => qe (readN_none ?_) H3 (s1.trans (s.trans (s2.trans (s3.trans s4)))), fun n en => ⟨_, eD2, szl ?_, same_mut s3 nD2, ns ++ [n], ?_, map_snoc hm2 hwi en⟩⟩
          · rw [hL]
            exact allOf_none hml (by rw [lo]; exact allOf_none hmw e)
          · rw [List.length_map]
            omega
          · rw [upd_same, List.map_append]
            rfl
        · have hm2 : (W.take ((W.map S).map V.str).length).map numOf = ns.map some := hm2
          rw [List.length_map, List.length_map, List.take_length] at hm2
          refine ⟨D2, _, rfl, .inl ⟨sqL eD2, fun t nt => ?_⟩⟩
          have s4 := s2.trans (s3.trans (same_new (o := .tup (ns.map fun (n : Nat) => V.int (n : Int))) nt))
          have hls := map_len hm
          rw [List.length_take] at hls
          exact ⟨ys, s4 _ _ eD, szl (by rw [hN.n]; omega), same_mut (s.trans s4) nD, _, ls ++ [ns], upd_same, hN.snoc (fun a zs h => tup_mut (s4 _ _ eD) (same_tup s4 h)) (tup_mut (s4 _ _ eD) (sqT upd_same)), map_snoc hm hlj (by rw [lo]; exact allOf_map hm2)⟩
      · have hm : (L.take ((L.map S).map V.str).length).map lineOf = ls.map some := hm
        rw [List.length_map, List.length_map, List.take_length] at hm
        have ea : allOf lineOf (TL.spl [10] 0 [] a) = some ls := by
          rw [hL]
          exact allOf_map hm
        refine ⟨_, rfl, _, PyData.list (ls.map numsD), rfl, .inl (.lst (sqL eD) (dpa_nls hN.n hN.at_)), fun H2 s2 => ⟨_, rfl, iteNB (fun e => qe (readN_bad ea e) H2 (s1.trans (s.trans s2))) (fun e => ⟨_, rfl, ?_⟩)⟩⟩
        obtain ⟨er, gr⟩ := rows_of_nums e
        have hd2 := dpa_ext (ext_of s2) (dpa_nls hN.n hN.at_)
        have er2 : ls.map numsD = (ls.map toRow).map rowD := PyData.list.inj er
        rw [er2] at hd2
        exact q _ (readN_some ea e) gr H2 D ys (s1.trans (s.trans s2)) (s1.free nD) (s2 _ _ eD) (rws_of_dpa (sqL (s2 _ _ eD)) hd2)
    | _ => cases e
end
end SS

namespace SS
open PySem PySem.Spec PyProof.Rows L2 LamX
open SX (S S_len S_tl)
section
variable {P : Program} {w : World} {K : PySem.W.Frag} {mg : Str → Option Value} {base : Heap}
abbrev s__law_number : Stmt := topS 32
theorem sc__law_number : FnScope ["_law_word_here", "_law_sign", "_law_found"] ["_law_word_here"] (defScope s__law_number) := ⟨rfl, rfl, rfl, by decide +kernel, rfl, by decide +kernel, by decide +kernel⟩
def sp__law_number (K : PySem.W.Frag) : Sp := fun vs H Q _ => ∃ (a : List Nat), vs = [.str (S a)] ∧ a.length ≤ 10000 ∧ (∀ c ∈ a, c < 128) ∧ (numOf a = none → ∀ H', Same H H' → Q .non H') ∧ ∀ n : Nat, numOf a = some n → ∀ H', Same H H' → Q (.int (n : Int)) H'
def signs (l : List Nat) : List Str := (l.filter fun c => !isDig c).map fun c => ⟨#[c]⟩
theorem signs_nil {l : List Nat} : signs l = [] ↔ ∀ c ∈ l, isDig c = true := by
  unfold signs
  rw [List.map_eq_nil_iff, List.filter_eq_nil_iff]
  refine ⟨fun h c hc => ?_, fun h c hc => ?_⟩
  · have := h c hc
    cases e : isDig c with
    | true => rfl
    | false =>
      rw [e] at this
      exact absurd rfl this
  · rw [h c hc]
    decide
theorem signs_len (l : List Nat) : (signs l).length ≤ l.length := by
  unfold signs
  rw [List.length_map]
  exact List.length_filter_le _ _
theorem signs_snoc {l : List Nat} {i c : Nat} (h : l[i]? = some c) : signs (l.take (i + 1)) = signs (l.take i) ++ if isDig c = true then [] else [⟨#[c]⟩] := by
  unfold signs
  rw [List.take_add_one, h, Option.toList_some, List.filter_append, List.map_append, List.filter_cons, List.filter_nil]
  cases isDig c <;> rfl
theorem digs_val {l : List Nat} {i c : Nat} (h : l[i]? = some c) : NumText.digitsVal (l.take (i + 1)) = NumText.digitsVal (l.take i) * 10 + (c - 48) := by
  rw [List.take_add_one, h, Option.toList_some]
  exact NumText.digitsVal_snoc _ _
theorem strs_can : ∀ l : List Str, (∀ x ∈ l, PyData.strOk x = true) → PyData.canLayAll0 (l.map PyData.str) = true ∧ PyData.depthAll (l.map PyData.str) = 0
  | [], _ => ⟨rfl, rfl⟩
  | x :: l, h => by
    obtain ⟨h1, h2⟩ := strs_can l fun y hy => h y (List.mem_cons_of_mem x hy)
    refine ⟨?_, ?_⟩
    · rw [List.map_cons]
      simp [PyData.canLayAll0, PyData.canLay0, h1, h x (List.mem_cons_self ..)]
    · rw [List.map_cons]
      simp [PyData.depthAll, PyData.depth, h2]
theorem strs_shaped {l : List Str} (h : ∀ x ∈ l, PyData.strOk x = true) : SeqAt.shaped (.list (l.map PyData.str)) = true := by
  obtain ⟨h1, h2⟩ := strs_can l h
  show (PyData.canLay0 (.list (l.map PyData.str)) && decide ((PyData.list (l.map PyData.str)).depth ≤ 64)) = true
  simp [PyData.canLay0, PyData.depth, h1, h2]
theorem signs_ok {a : List Nat} (h : ∀ c ∈ a, c < 128) : ∀ x ∈ signs a, PyData.strOk x = true := by
  intro x hx
  unfold signs at hx
  obtain ⟨c, hc, rfl⟩ := List.mem_map.mp hx
  have hc := h c (List.mem_filter.mp hc).1
  show (#[c].all fun d => decide (d < 0x110000)) = true
  simp
  omega
theorem ok__law_number (Z : BZ mg) (D : DefAt K mg "_law_number" s__law_number) : OkF P w K mg base 1 "_law_number" ["_law_word_here"] (sp__law_number K) := by
  refine OkF.mk' D sc__law_number (fun _ _ _ _ _ _ us hl => match us, hl with | [_], _ => rfl) (fun vs H Q E h => ?_) (fun f cdv A outer s H vs Q E hr h => ?_)
  · first | (obtain ⟨_, rfl, _⟩ := h; rfl) | (obtain ⟨_, _, rfl, _⟩ := h; rfl) | (obtain ⟨_, _, _, rfl, _⟩ := h; rfl) | (obtain ⟨_, _, _, _, rfl, _⟩ := h; rfl) | (obtain ⟨_, _, _, _, _, rfl, _⟩ := h; rfl) | (obtain ⟨_, _, _, _, _, _, rfl, _⟩ := h; rfl) | (obtain ⟨_, _, _, _, _, _, _, rfl, _⟩ := h; rfl) | (obtain ⟨_, _, _, _, _, _, _, _, rfl, _⟩ := h; rfl) | (obtain ⟨_, _, _, _, _, _, _, _, _, rfl, _⟩ := h; rfl) | (obtain ⟨_, _, _, _, _, _, _, _, _, _, rfl, _⟩ := h; rfl) | (obtain ⟨_, _, _, _, _, _, _, _, _, _, _, rfl, _⟩ := h; rfl) | (obtain ⟨_, _, _, _, _, _, _, _, _, _, _, _, rfl, _⟩ := h; rfl) | (obtain ⟨_, _, _, _, _, _, _, _, _, _, _, _, _, rfl, _⟩ := h; rfl) | (obtain ⟨_, _, _, _, _, _, _, _, _, _, _, _, _, _, rfl, _⟩ := h; rfl)
  · refine ⟨_, PSs.nox ((Evl.pss_cut (ps_if (PW.pt (pw_or (pt_cmpR op_eq (pv 0) pe_str (nomark _)) (pw_or (pt_cmpR op_gt (pe_callB call_len_str (by rfl) Z.len bt_len (pa_cons (pv 0) pa_nil)) pe_int (nomark _)) (pw_or1 (pt_cmpR (op_neDK (K := K) rfl hr.units) (pe_lc (own := [("_law_sign", 1)]) (g := gName 1) rfl sc__law_number.nd (pi_str (pv 0)) (blkOk_by (N := ["_law_word_here", "_law_sign", "_law_found"]) (sc := defScope s__law_number) (own := [("_law_sign", 1)]) (by decide +kernel)) (fun _ _ _ _ _ => pg_name (i := 1) sc__law_number.nd rfl (Or.inl rfl)) (fun _ _ _ _ _ => by exact (pts_one (pt_cmpR op_notIn_sign (pv 1) pe_str (by rfl)))) (fun _ _ _ _ _ => (pv 1))) (pe_lst pa_nil) (nomark _)))))) (pss_one (ps_ret pe_non)) pss_nil)
      (Evl.pss_cut (ps_if (PW.pt (pw_and (pt_cmpR op_eq (pe_ix ix_str (pv 0) pe_int (fun _ _ => rfl)) pe_str (nomark _)) (pw_and1 (pt_cmpR op_ne (pv 0) pe_str (nomark _))))) (pss_one (ps_ret pe_non)) pss_nil)
      (pss_cons (ps_set (i := 2) sc__law_number.nd rfl (Or.inl rfl) pe_int)
      (pss_cons (ps_for PassesOwn.never rfl (pi_str (pv 0)) (pg_name (i := 1) sc__law_number.nd rfl (Or.inl rfl)) (pss_one (ps_set (i := 2) sc__law_number.nd rfl (Or.inl rfl) (pe_op op_add (pe_op op_mul (pv 2) pe_int) (pe_m1 PySem.F.slot_str_index PySem.F.type_str_index mt_sindex pe_str (pv 1))))))
      (pss_one (ps_ret (pv 2)))))))), ?_⟩
    obtain ⟨a, rfl, hl, hk, qn, q⟩ := h
    have hz : (S a).length ≤ sizeLine := by
      rw [S_len]
      exact sz (by omega)
    have hle : ((S a).length : Int) = (a.length : Int) := by rw [S_len]
    have hsz : (S a).cps.size = a.length := S_len a
    refine ⟨fun σ' H' => σ' = [some (.str (S a)), none, none] ∧ Same H H' ∧ a ≠ [] ∧ a.length ≤ 31 ∧ ∀ x ∈ a, isDig x = true, ?_, ?_⟩
    · refine ⟨_, rfl, rfl, _, rfl, ?_⟩
      rw [word_nil]
      refine iteB (fun e1 => iteT (qn (numOf_len fun z => ?_) H (Same.refl H))) (fun e1 => ?_)
      · rw [of_decide_eq_true e1] at z
        exact absurd z.1 (by decide)
      refine ⟨_, rfl, _, rfl, hz, _, _, rfl, rfl, _, rfl, iteB (fun e2 => iteT (qn (numOf_len fun z => ?_) H (Same.refl H))) (fun e2 => ?_)⟩
      · have := of_decide_eq_true e2
        omega
      have h31 : a.length ≤ 31 := by
        have := of_decide_eq_false e2
        omega
      refine ⟨_, rfl, _, rfl, fun D nD => lc_it walk_str (fun i H' => Same H H' ∧ H' D = some (.lst ((signs (a.take i)).map V.str))) ⟨same_new nD, upd_same⟩ (fun _ _ _ _ => trivial) (fun i x H' H'' hi ⟨s, eD⟩ hy => ?_) (fun H' ⟨s, eD⟩ => ?_)⟩
      · obtain ⟨rfl, c, hc, rfl⟩ := hy
        have hc' : a[i]? = some c := by
          rw [← Array.getElem?_toList] at hc
          exact hc
        have step := signs_snoc hc'
        refine ⟨rfl, _, rfl, c, _, rfl, rfl, _, rfl, ?_⟩
        rw [in_digs]
        refine iteNB (fun e => ?_) (fun e => ?_)
        · rw [e] at step
          refine ⟨_, rfl, _, eD, szl ?_, same_mut s nD, ?_⟩
          · rw [List.length_map]
            have := signs_len (a.take i)
            rw [List.length_take] at this
            omega
          · rw [upd_same, step, List.map_append]
            rfl
        · rw [e, if_pos rfl, List.append_nil] at step
          exact ⟨s, by rw [step]; exact eD⟩
      · have eD : H' D = some (.lst ((signs (a.take (S a).cps.size)).map V.str)) := eD
        rw [hsz, List.take_length] at eD
        refine ⟨sz (show 0 ≤ 100000 by decide), fun l nl => ⟨.list ((signs a).map PyData.str), .list [], .lst (sqL (same_new nl _ _ eD)) (dpa_strs _), .lst (sqL upd_same) .nil, strs_shaped (signs_ok hk), by decide, _, rfl, ?_⟩⟩
        rw [eqv_nil]
        refine iteNB (fun e => qn ?_ _ (s.trans (same_new nl))) (fun e => ⟨rfl, s.trans (same_new nl), of_decide_eq_false e1, h31, ?_⟩)
        · have hn := of_decide_eq_false e
          by_cases all : ∀ c ∈ a, isDig c = true
          · exact absurd (by rw [signs_nil.mpr all]; rfl) hn
          · have : ∃ c, c ∈ a ∧ isDig c = false := by
              refine Classical.byContradiction fun no => all fun c hc => ?_
              cases q : isDig c with
              | true => rfl
              | false => exact absurd ⟨c, hc, q⟩ no
            obtain ⟨c, hc, e⟩ := this
            exact numOf_sign hc e
        · exact signs_nil.mp (List.map_eq_nil_iff.mp (of_decide_eq_true e))
    rintro σ' H' ⟨rfl, s1, hne, h31, hd⟩
    cases a with
    | nil => exact absurd rfl hne
    | cons c r =>
    refine ⟨fun σ' H1 => σ' = [some (.str (S (c :: r))), none, none] ∧ H1 = H' ∧ numOf (c :: r) = some (NumText.digitsVal (c :: r)), ?_, ?_⟩
    · refine ⟨_, rfl, _, _, _, rfl, rfl, hz, at0, rfl, _, rfl, ?_⟩
      rw [one_is]
      refine iteB (fun e3 => ?_) (fun e3 => iteF ⟨rfl, rfl, numOf_ok h31 (fun e => absurd e (of_decide_eq_false e3)) hd⟩)
      obtain rfl := of_decide_eq_true e3
      refine ⟨_, rfl, rfl, _, rfl, ?_⟩
      rw [word_zero]
      exact iteNB (fun e4 => qn (numOf_zero (of_decide_eq_false e4)) _ s1) (fun e4 => ⟨rfl, rfl, numOf_ok h31 (fun _ => of_decide_eq_true e4) hd⟩)
    rintro σ' H1 ⟨rfl, rfl, hv⟩
    refine ⟨_, rfl, _, rfl, for_it walk_str (fun i σ' H2 => ∃ x1, σ' = [some (.str (S (c :: r))), x1, some (.int ((NumText.digitsVal ((c :: r).take i) : Nat) : Int))] ∧ H2 = H1) ⟨none, rfl, rfl⟩ (fun _ _ _ _ _ => trivial) (fun i x σ1 H2 H3 hi hp hy => ?_) (fun σ1 H2 hp => ?_)⟩
    · obtain ⟨x1, rfl, rfl⟩ := hp
      obtain ⟨rfl, k, hk, rfl⟩ := hy
      have hk' : (c :: r)[i]? = some k := by
        rw [← Array.getElem?_toList] at hk
        exact hk
      obtain ⟨rest, ho⟩ := index_is (hd k (List.mem_of_getElem? hk'))
      have step := digs_val hk'
      refine ⟨_, rfl, _, 10, rfl, rfl, small_r (by decide), ?_⟩
      refine ⟨⟨_, rfl⟩, _, rfl, _, _, _, _, rfl, rfl, ho, _, _, rfl, rfl, some (.str ⟨#[k]⟩), ?_, rfl⟩
      rw [step, Int.natCast_add, Int.natCast_mul]
      rfl
    · obtain ⟨x1, rfl, rfl⟩ := hp
      rw [hsz, List.take_length]
      exact ⟨_, rfl, q _ hv _ s1⟩
end
end SS

namespace SS
open PySem PySem.Spec PyProof.Rows L2 LamX
open SX (S S_len S_tl)
section
variable {P : Program} {w : World} {K : PySem.W.Frag} {mg : Str → Option Value} {base : Heap}
abbrev s__law_read : Stmt := topS 33
theorem sc__law_read : FnScope ["_law_text", "_law_rows", "_law_line", "_law_numbers", "_law_word_here"] ["_law_text"] (defScope s__law_read) := ⟨rfl, rfl, rfl, by decide +kernel, rfl, by decide +kernel, by decide +kernel⟩
def sp__law_read (K : PySem.W.Frag) : Sp := fun vs H Q _ => ∃ (a : List Nat), vs = [.str (S a)] ∧ a.length ≤ 10000 ∧ (∀ c ∈ a, c < 128) ∧ (readN a = none → ∀ H', Same H H' → Q .non H') ∧
  ∀ (rs : List Row), readN a = some rs → Good rs → ∀ H' p xs, Same H H' → H p = none → H' p = some (.lst xs) → Rws K H' p xs rs → Q (.ref p) H'
theorem optV_at {os : List (Option Nat)} {i : Nat} {o : Option Nat} (h : os[i]? = some o) : atI (os.map optV) (i : Int) = some (optV o) := atI_nat (by rw [List.getElem?_map, h]; rfl)
theorem spl_sub (P : List Nat) : ∀ (a : List Nat) (k : Nat) (acc : List Nat), ∀ p ∈ TL.spl P k acc a, ∀ c ∈ p, c ∈ acc ∨ c ∈ a
  | [], k, acc, p, h, c, hc => by
    rw [TL.spl_nil] at h
    rw [List.mem_singleton.mp h] at hc
    exact .inl hc
  | d :: r, 0, acc, p, h, c, hc => by
    have h' : p ∈ (if TL.pre P (d :: r) = true then acc :: TL.spl P (P.length - 1) [] r else TL.spl P 0 (acc ++ [d]) r) := h
    split at h'
    · rcases List.mem_cons.mp h' with rfl | h'
      · exact .inl hc
      · rcases spl_sub P r _ _ p h' c hc with z | z
        · cases z
        · exact .inr (List.mem_cons_of_mem _ z)
    · rcases spl_sub P r _ _ p h' c hc with z | z
      · rcases List.mem_append.mp z with z | z
        · exact .inl z
        · exact .inr (by rw [List.mem_singleton.mp z]; exact List.mem_cons_self ..)
      · exact .inr (List.mem_cons_of_mem _ z)
  | d :: r, k + 1, acc, p, h, c, hc => by
    rcases spl_sub P r k acc p h c hc with z | z
    · exact .inl z
    · exact .inr (List.mem_cons_of_mem _ z)
theorem ok__law_read (Z : BZ mg) (O__law_number : OkF P w K mg base 1 "_law_number" ["_law_word_here"] (sp__law_number K)) (D : DefAt K mg "_law_read" s__law_read) : OkF P w K mg base 2 "_law_read" ["_law_text"] (sp__law_read K) := by
  refine OkF.mk' D sc__law_read (fun _ _ _ _ _ _ us hl => match us, hl with | [_], _ => rfl) (fun vs H Q E h => ?_) (fun f cdv A outer s H vs Q E hr h => ?_)
  · first | (obtain ⟨_, rfl, _⟩ := h; rfl) | (obtain ⟨_, _, rfl, _⟩ := h; rfl) | (obtain ⟨_, _, _, rfl, _⟩ := h; rfl) | (obtain ⟨_, _, _, _, rfl, _⟩ := h; rfl) | (obtain ⟨_, _, _, _, _, rfl, _⟩ := h; rfl) | (obtain ⟨_, _, _, _, _, _, rfl, _⟩ := h; rfl) | (obtain ⟨_, _, _, _, _, _, _, rfl, _⟩ := h; rfl) | (obtain ⟨_, _, _, _, _, _, _, _, rfl, _⟩ := h; rfl) | (obtain ⟨_, _, _, _, _, _, _, _, _, rfl, _⟩ := h; rfl) | (obtain ⟨_, _, _, _, _, _, _, _, _, _, rfl, _⟩ := h; rfl) | (obtain ⟨_, _, _, _, _, _, _, _, _, _, _, rfl, _⟩ := h; rfl) | (obtain ⟨_, _, _, _, _, _, _, _, _, _, _, _, rfl, _⟩ := h; rfl) | (obtain ⟨_, _, _, _, _, _, _, _, _, _, _, _, _, rfl, _⟩ := h; rfl) | (obtain ⟨_, _, _, _, _, _, _, _, _, _, _, _, _, _, rfl, _⟩ := h; rfl)
  · refine ⟨_, PSs.nox ((pss_cons (ps_set (i := 1) sc__law_read.nd rfl (Or.inl rfl) (pe_lst pa_nil))
      (pss_cons (ps_for PassesOwn.never rfl (pi_list (pe_m1 PySem.F.slot_str_split PySem.F.type_str_split mt_split (pv 0) pe_str)) (pg_name (i := 2) sc__law_read.nd rfl (Or.inl rfl)) (pss_cons (ps_setLc (i := 3) (own := [("_law_word_here", 4)]) (g := gName 4) (tt := tYes) rfl sc__law_read.nd rfl rfl (sw_true rfl rfl rfl (by decide +kernel)) (pi_list (pe_m1 PySem.F.slot_str_split PySem.F.type_str_split mt_split (pv 2) pe_str)) (blkOk_by (N := ["_law_text", "_law_rows", "_law_line", "_law_numbers", "_law_word_here"]) (sc := defScope s__law_read) (own := [("_law_word_here", 4)]) (by decide +kernel)) (fun _ _ _ _ _ => pg_name (i := 4) sc__law_read.nd rfl (Or.inl rfl)) (fun _ _ _ _ _ => pts_nil) (fun _ _ _ _ _ => (pc O__law_number (hr.mono (by decide)) passL (pa_cons (pv 4) pa_nil))))
      (pss_cons (ps_if (PW.pt (pw_or (pt_cmpR op_ne (pe_callB (call_len_seqK (K := K) rfl) (by rfl) Z.len bt_len (pa_cons (pv 3) pa_nil)) pe_int (nomark _)) (pw_or1 (pt_cmpR (op_in_seqK (K := K) rfl) pe_non (pv 3) (by rfl))))) (pss_one (ps_ret pe_non)) pss_nil)
      (pss_cons (ps_if (PW.pt (pw_or (pt_not (pt_chain op_le op_le pe_int (pe_ix (ix_listK (K := K) rfl) (pv 3) pe_int (fun _ _ => rfl)) (pe_op op_pow pe_int pe_int))) (pw_or1 (pt_not (pt_chain op_le op_le (pe_ix (ix_listK (K := K) rfl) (pv 3) pe_int (fun _ _ => rfl)) (pe_ix (ix_listK (K := K) rfl) (pv 3) pe_int (fun _ _ => rfl)) pe_int))))) (pss_one (ps_ret pe_non)) pss_nil)
      (pss_one (ps_expr (pe_bm PySem.F.plainAttrs_list PySem.F.slot_list_append PySem.F.type_list_append mt_append (pv 1) (pa_cons (pe_callTy (call_tuple_ofK (K := K) rfl) (by rfl) Z.tuple bt_tuple (pa_cons (pv 3) pa_nil)) pa_nil))))))))
      (pss_cons (ps_if (pt_cmpR op_gt (pe_callB (call_len_seqK (K := K) rfl) (by rfl) Z.len bt_len (pa_cons (pv 1) pa_nil)) pe_int (nomark _)) (pss_one (ps_ret pe_non)) pss_nil)
      (pss_one (ps_ret (pv 1))))))), ?_⟩
    obtain ⟨a, rfl, hl, hk, qn, q⟩ := h
    refine ⟨sz (show 0 ≤ 100000 by decide), fun b nb => ?_⟩
    have s0 := same_new (o := .lst []) nb
    refine ⟨_, rfl, ⟨_, rfl⟩, S a, _, rfl, rfl, by decide +kernel, ?_, fun p1 n1 => ?_⟩
    · rw [S_len]
      exact sz (by omega)
    have eL : Txt.split (S a) "\n" = (TL.spl [10] 0 [] a).map S := by
      rw [one_nl]
      exact SX.split_S (by simp) (by decide)
    rw [eL]
    have s1 := s0.trans (same_new (o := .lst (((TL.spl [10] 0 [] a).map S).map V.str)) n1)
    have ll := spl_len [10] a 0 []
    have lp := spl_part [10] a 0 []
    have lc := spl_sub [10] a 0 []
    generalize hL : TL.spl [10] 0 [] a = L at *
    have eb1 : (upd (upd H b (.lst [])) p1 (.lst ((L.map S).map V.str))) b = some (.lst []) := same_new n1 _ _ upd_same
    have hbp : p1 ≠ b := fun z => by
      rw [z, upd_same] at n1
      cases n1
    have e1 : (upd (upd H b (.lst [])) p1 (.lst ((L.map S).map V.str))) p1 = some (.lst ((L.map S).map V.str)) := upd_same
    generalize upd (upd H b (.lst [])) p1 (.lst ((L.map S).map V.str)) = H1 at *
    refine ⟨p1, rfl, ⟨_, sqL e1⟩, for_it (walk_list (xs := (L.map S).map V.str)) (fun j σ' H' => ∃ (x2 x3 : Option V) (ys : List V) (rs : List Row), σ' = [some (.str (S a)), some (.ref b), x2, x3, none] ∧ Same H H' ∧ H' p1 = some (.lst ((L.map S).map V.str)) ∧ H' b = some (.lst ys) ∧ Rws K H' b ys rs ∧ (L.take j).map lineR = rs.map some)
      ⟨none, none, [], [], rfl, s1, e1, eb1, ⟨sqL eb1, rfl, fun i x r h1 _ => by cases h1⟩, rfl⟩ (fun j σ' H' _ hp => ?_) (fun j x σ' H' H'' hj hp hy => ?_) (fun σ' H' hp => ?_)⟩
    · obtain ⟨_, _, _, _, _, _, e, _⟩ := hp
      exact sqL e
    · obtain ⟨x2, x3, ys, rs, rfl, s, ep, eb, hR, hm⟩ := hp
      obtain ⟨rfl, hx⟩ := hy
      obtain ⟨l, hlj, rfl⟩ := strs_at hx
      have hml := List.mem_of_getElem? hlj
      have hll := lp l hml
      rw [List.length_nil] at hll
      have hlk : ∀ c ∈ l, c < 128 := fun c hc => by
        rcases lc l hml c hc with z | z
        · cases z
        · exact hk c z
      refine ⟨_, rfl, ⟨_, rfl⟩, S l, _, rfl, rfl, by decide +kernel, ?_, fun p2 n2 => ?_⟩
      · rw [S_len]
        exact sz (by omega)
      have eW : Txt.split (S l) " " = (TL.spl [32] 0 [] l).map S := by
        rw [one_sp]
        exact SX.split_S (by simp) (by decide)
      rw [eW]
      have s2 := same_new (o := .lst (((TL.spl [32] 0 [] l).map S).map V.str)) n2
      have wl := spl_len [32] l 0 []
      have wp := spl_part [32] l 0 []
      have wc := spl_sub [32] l 0 []
      have lr : lineR l = rowOf ((TL.spl [32] 0 [] l).map numOf) := rfl
      generalize hW : TL.spl [32] 0 [] l = W at *
      have e2 : (upd H'' p2 (.lst ((W.map S).map V.str))) p2 = some (.lst ((W.map S).map V.str)) := upd_same
      generalize upd H'' p2 (.lst ((W.map S).map V.str)) = H2 at *
      refine ⟨p2, rfl, ⟨_, sqL e2⟩, fun D2 nD2 => lc_list (K := K) (a := p2) (xs := (W.map S).map V.str) (fun i H3 => Same H2 H3 ∧ H3 D2 = some (.lst (((W.take i).map numOf).map optV))) ⟨same_new nD2, upd_same⟩ (fun i H3 _ ⟨s, _⟩ => sqL (s _ _ e2)) (fun i x H3 hx ⟨s3, eD2⟩ => ?_) (fun H3 ⟨s3, eD2⟩ => ?_)⟩
      · obtain ⟨w1, hwi, rfl⟩ := strs_at hx
        have hmw := List.mem_of_getElem? hwi
        have hwl := wp w1 hmw
        rw [List.length_nil] at hwl
        have fin : ∀ H4, Same H3 H4 → ∃ acc, H4 D2 = some (.lst acc) ∧ acc.length < sizeLine ∧ Same H2 (upd H4 D2 (.lst (acc ++ [optV (numOf w1)]))) ∧ upd H4 D2 (.lst (acc ++ [optV (numOf w1)])) D2 = some (.lst (((W.take (i + 1)).map numOf).map optV)) := fun H4 s4 => by
          refine ⟨_, s4 _ _ eD2, szl ?_, same_mut (s3.trans s4) nD2, ?_⟩
          · rw [List.length_map, List.length_map, List.length_take]
            omega
          · rw [upd_same, List.take_add_one, hwi, List.map_append, List.map_append]
            rfl
        refine ⟨rfl, ?_⟩
        refine ⟨_, rfl, w1, rfl, by omega, fun c hc => ?_, fun e H4 s4 => ?_, fun n en H4 s4 => ?_⟩
        · rcases wc w1 hmw c hc with z | z
          · cases z
          · exact hlk c z
        · have := fin H4 s4
          rw [e] at this
          exact this
        · have := fin H4 s4
          rw [en] at this
          exact this
      · have eD2 : H3 D2 = some (.lst (((W.take ((W.map S).map V.str).length).map numOf).map optV)) := eD2
        rw [List.length_map, List.length_map, List.take_length] at eD2
        have sA := s2.trans s3
        generalize hos : W.map numOf = os at *
        have bad : rowOf os = none → ∀ H4, Same H3 H4 → Q .non H4 := fun e H4 s4 => qn (read_line (by rw [hL]; exact hml) (lr.trans e)) H4 (s.trans (sA.trans s4))
        refine ⟨_, rfl, D2, _, rfl, .inl (sqL eD2), rfl, _, rfl, ifNI (fun e => iteT (bad ?_ H3 (Same.refl H3))) (fun e => ?_)⟩
        · rw [List.length_map] at e
          exact rowOf_short (by omega)
        rw [List.length_map] at e
        obtain ⟨o1, o2, o3, rfl⟩ : ∃ o1 o2 o3, os = [o1, o2, o3] := by
          match os, e with
          | [o1, o2, o3], _ => exact ⟨_, _, _, rfl⟩
        have fl : ([o1, o2, o3].map optV).all flatV = true := by
          cases o1 <;> cases o2 <;> cases o3 <;> rfl
        refine ⟨_, rfl, D2, _, rfl, .inl (sqL eD2), rfl, fl, _, rfl, ?_⟩
        cases o1 with
        | none => exact iteT (bad rfl H3 (Same.refl H3))
        | some m1 =>
        cases o2 with
        | none => exact iteT (bad rfl H3 (Same.refl H3))
        | some m2 =>
        cases o3 with
        | none => exact iteT (bad rfl H3 (Same.refl H3))
        | some m3 =>
        refine iteF ?_
        have no : ¬ ((1 : Int) ≤ (m1 : Int) ∧ (m1 : Int) ≤ 10 ^ Int.toNat 30 ∧ (m2 : Int) ≤ (m3 : Int) ∧ (m3 : Int) ≤ 200) → Q .non H3 := fun z => bad (rowB_no z) H3 (Same.refl H3)
        refine ⟨_, rfl, D2, _, _, _, rfl, rfl, sqL eD2, optV_at (os := [some m1, some m2, some m3]) (i := 0) rfl, _, _, rfl, rfl, _, rfl, iteB (fun e1 => ?_) (fun e1 => ⟨_, rfl, iteT (iteT (no fun z => of_decide_eq_false e1 z.1))⟩)⟩
        refine ⟨10, 30, rfl, rfl, ⟨by decide, by decide, by decide⟩, _, _, rfl, rfl, _, rfl, iteNB (fun e2 => iteT (no fun z => of_decide_eq_false e2 z.2.1)) (fun e2 => ?_)⟩
        refine ⟨_, rfl, D2, _, _, _, rfl, rfl, sqL eD2, optV_at (os := [some m1, some m2, some m3]) (i := 1) rfl, _, rfl, D2, _, _, _, rfl, rfl, sqL eD2, optV_at (os := [some m1, some m2, some m3]) (i := 2) rfl, _, _, rfl, rfl, _, rfl, iteB (fun e3 => ?_) (fun e3 => ⟨_, rfl, iteT (no fun z => of_decide_eq_false e3 z.2.2.1)⟩)⟩
        refine ⟨_, _, rfl, rfl, _, rfl, iteNB (fun e4 => no fun z => of_decide_eq_false e4 z.2.2.2) (fun e4 => ?_)⟩
        have ok := rowB_ok (of_decide_eq_true e1) (of_decide_eq_true e2) (of_decide_eq_true e3) (of_decide_eq_true e4)
        have ebA := sA _ _ eb
        refine ⟨.ref b, rfl, .inl ⟨rfl, _, sqL ebA⟩, _, rfl, D2, _, rfl, .inl ⟨sqL eD2, fun t nt => ?_⟩⟩
        have sB := sA.trans (same_new (o := .tup ([some m1, some m2, some m3].map optV)) nt)
        have ebB := sB _ _ eb
        have hn := map_len hm
        rw [List.length_take] at hn
        refine ⟨b, ys, _, rfl, rfl, ebB, szl (by rw [hR.n]; omega), _, _, ys ++ [.ref t], rs ++ [((m1 : Int), (m2 : Int), (m3 : Int))], rfl, same_mut (s.trans sB) nb, ?_, upd_same, rws_snoc (hR.same sB) (sqT upd_same) (fun a2 ys2 h2 => tup_mut ebB h2) upd_same, map_snoc hm hlj (lr.trans ok)⟩
        rw [upd_ne hbp]
        exact sB _ _ ep
    · obtain ⟨x2, x3, ys, rs, rfl, s, ep, eb, hR, hm⟩ := hp
      have hm : (L.take ((L.map S).map V.str).length).map lineR = rs.map some := hm
      rw [List.length_map, List.length_map, List.take_length] at hm
      have hn := map_len hm
      have nb2 := nb
      refine ⟨_, rfl, b, _, rfl, .inl hR.l, _, _, rfl, rfl, _, rfl, iteB (fun e => qn (read_long ?_) H' s) (fun e => ?_)⟩
      · have := of_decide_eq_true e
        rw [hR.n] at this
        rw [hL]
        omega
      · have := of_decide_eq_false e
        rw [hR.n] at this
        obtain ⟨g, er⟩ := read_lines (a := a) (rs := rs) (by rw [hL]; exact hm) (by omega)
        exact ⟨_, rfl, q rs er g H' b ys s nb eb hR⟩
end
end SS

namespace SS
open PySem PySem.Spec PyProof.Rows L2 LamX
open SX (S S_len S_tl)
section
variable {P : Program} {w : World} {K : PySem.W.Frag} {mg : Str → Option Value} {base : Heap}
abbrev s__law_bent : Stmt := topS 34
theorem sc__law_bent : FnScope ["_law_text", "_law_number_here", "_law_at", "_law_sign"] ["_law_text", "_law_number_here"] (defScope s__law_bent) := ⟨rfl, rfl, rfl, by decide +kernel, rfl, by decide +kernel, by decide +kernel⟩
def sp__law_bent (K : PySem.W.Frag) : Sp := fun vs H Q _ => ∃ (a : List Nat) (num : Int), vs = [.str (S a), .int num] ∧ a.length ≤ 5000 ∧ (∀ c ∈ a, c < 128) ∧ ∀ b : List Nat, b.length ≤ a.length + 1 → (∀ c ∈ b, c < 128) → Q (.str (S b)) H
theorem sign_at {n : Int} (h0 : 0 ≤ n) (h1 : n < 16) : ∃ c, atI (("0123456789 \n-+a." : Str)).cps.toList n = some c ∧ c < 128 := by
  obtain ⟨k, rfl⟩ : ∃ k : Nat, n = (k : Int) := ⟨n.toNat, by omega⟩
  have hk : k < 16 := by omega
  have e : (("0123456789 \n-+a." : Str)).cps.toList = [48, 49, 50, 51, 52, 53, 54, 55, 56, 57, 32, 10, 45, 43, 97, 46] := by decide +kernel
  have g : ∀ k < 16, ([48, 49, 50, 51, 52, 53, 54, 55, 56, 57, 32, 10, 45, 43, 97, 46] : List Nat)[k]?.isSome = true ∧ ∀ c ∈ ([48, 49, 50, 51, 52, 53, 54, 55, 56, 57, 32, 10, 45, 43, 97, 46] : List Nat), c < 128 := by decide +kernel
  obtain ⟨g1, g2⟩ := g k hk
  obtain ⟨c, hc⟩ := Option.isSome_iff_exists.mp g1
  refine ⟨c, ?_, g2 c (List.mem_of_getElem? hc)⟩
  rw [e]
  exact atI_nat hc
theorem cut_to {a : List Nat} (k : Nat) : cutS (S a) none (some (k : Int)) = S (a.take k) := by
  rw [C8.cutS_slice, SX.slice_to (Int.natCast_nonneg _), Int.toNat_natCast]
theorem cut_from {a : List Nat} (k : Nat) : cutS (S a) (some (k : Int)) none = S (a.drop k) := by
  rw [C8.cutS_slice, SX.slice_from (Int.natCast_nonneg _), Int.toNat_natCast]
theorem add_le {a b : List Nat} {n : Nat} (h : a.length + b.length ≤ n) (hn : n ≤ 100000) : (S a).length + (S b).length ≤ sizeLine := by
  rw [S_len, S_len]
  exact sz (Nat.le_trans h hn)
theorem ok__law_bent (Z : BZ mg) (D : DefAt K mg "_law_bent" s__law_bent) : OkF P w K mg base 1 "_law_bent" ["_law_text", "_law_number_here"] (sp__law_bent K) := by
  refine OkF.mk' D sc__law_bent (fun _ _ _ _ _ _ us hl => match us, hl with | [_, _], _ => rfl) (fun vs H Q E h => ?_) (fun f cdv A outer s H vs Q E hr h => ?_)
  · first | (obtain ⟨_, rfl, _⟩ := h; rfl) | (obtain ⟨_, _, rfl, _⟩ := h; rfl) | (obtain ⟨_, _, _, rfl, _⟩ := h; rfl) | (obtain ⟨_, _, _, _, rfl, _⟩ := h; rfl) | (obtain ⟨_, _, _, _, _, rfl, _⟩ := h; rfl) | (obtain ⟨_, _, _, _, _, _, rfl, _⟩ := h; rfl) | (obtain ⟨_, _, _, _, _, _, _, rfl, _⟩ := h; rfl) | (obtain ⟨_, _, _, _, _, _, _, _, rfl, _⟩ := h; rfl) | (obtain ⟨_, _, _, _, _, _, _, _, _, rfl, _⟩ := h; rfl) | (obtain ⟨_, _, _, _, _, _, _, _, _, _, rfl, _⟩ := h; rfl) | (obtain ⟨_, _, _, _, _, _, _, _, _, _, _, rfl, _⟩ := h; rfl) | (obtain ⟨_, _, _, _, _, _, _, _, _, _, _, _, rfl, _⟩ := h; rfl) | (obtain ⟨_, _, _, _, _, _, _, _, _, _, _, _, _, rfl, _⟩ := h; rfl) | (obtain ⟨_, _, _, _, _, _, _, _, _, _, _, _, _, _, rfl, _⟩ := h; rfl)
  · refine ⟨_, PSs.nox ((pss_cons (ps_set (i := 2) sc__law_bent.nd rfl (Or.inl rfl) (pe_op op_mod (pe_op op_fdiv (pv 1) pe_int) (pe_op op_add (pe_callB call_len_str (by rfl) Z.len bt_len (pa_cons (pv 0) pa_nil)) pe_int)))
      (pss_cons (ps_set (i := 3) sc__law_bent.nd rfl (Or.inl rfl) (pe_ix ix_str pe_str (pe_op op_mod (pe_op op_fdiv (pe_op op_fdiv (pv 1) pe_int) (pe_op op_add (pe_callB call_len_str (by rfl) Z.len bt_len (pa_cons (pv 0) pa_nil)) pe_int)) pe_int) (fun _ _ => rfl)))
      (pss_cons (ps_if (pt_cmpR op_eq (pe_op op_mod (pv 1) pe_int) pe_int (nomark _)) (pss_one (ps_ret (pe_op op_add_str (pe_slice sl_str (pv 0) po_none (po_some (pv 2))) (pe_slice sl_str (pv 0) (po_some (pe_op op_add (pv 2) pe_int)) po_none)))) pss_nil)
      (pss_cons (ps_if (pt_cmpR op_eq (pe_op op_mod (pv 1) pe_int) pe_int (nomark _)) (pss_one (ps_ret (pe_op op_add_str (pe_op op_add_str (pe_slice sl_str (pv 0) po_none (po_some (pv 2))) (pv 3)) (pe_slice sl_str (pv 0) (po_some (pv 2)) po_none)))) pss_nil)
      (pss_one (ps_ret (pe_op op_add_str (pe_op op_add_str (pe_slice sl_str (pv 0) po_none (po_some (pv 2))) (pv 3)) (pe_slice sl_str (pv 0) (po_some (pe_op op_add (pv 2) pe_int)) po_none))))))))), ?_⟩
    obtain ⟨a, num, rfl, hl, hk, q⟩ := h
    have hz : (S a).length ≤ sizeLine := by
      rw [S_len]
      exact sz (by omega)
    have hle : ((S a).length : Int) = (a.length : Int) := by rw [S_len]
    have pos : (0 : Int) < ((S a).length : Int) + 1 := by omega
    refine ⟨_, rfl, _, 3, rfl, rfl, ⟨by decide, by decide⟩, _, rfl, _, rfl, hz, _, 1, rfl, rfl, _, _, rfl, rfl, pos, ?_⟩
    obtain ⟨c, hc, c128⟩ := sign_at (n := num / 3 / (((S a).length : Int) + 1) % 16) (Int.emod_nonneg _ (by decide)) (Int.emod_lt_of_pos _ (by decide))
    refine ⟨_, rfl, _, 3, rfl, rfl, ⟨by decide, by decide⟩, _, rfl, _, rfl, hz, _, 1, rfl, rfl, _, _, rfl, rfl, ⟨pos, by omega⟩, _, 16, rfl, rfl, (show (0 : Int) < 16 by decide), _, _, c, rfl, rfl, by decide +kernel, hc, ?_⟩
    have m0 := Int.emod_nonneg (num / 3) (show ((S a).length : Int) + 1 ≠ 0 by omega)
    dsimp only
    generalize num / 3 % (((S a).length : Int) + 1) = atI_ at *
    obtain ⟨k, rfl⟩ : ∃ k : Nat, atI_ = (k : Int) := ⟨atI_.toNat, by omega⟩
    have h1 : (a.take k).length + (a.drop k).length = a.length := by
      rw [List.length_take, List.length_drop]
      omega
    have h2 : (a.take k).length + (a.drop (k + 1)).length ≤ a.length := by
      rw [List.length_take, List.length_drop]
      omega
    have t128 : ∀ x ∈ a.take k, x < 128 := fun x hx => hk x (List.mem_of_mem_take hx)
    have d128 : ∀ j, ∀ x ∈ a.drop j, x < 128 := fun j x hx => hk x (List.mem_of_mem_drop hx)
    have e1 := cut_to (a := a) k
    have e2 := cut_from (a := a) k
    have e3 := cut_from (a := a) (k + 1)
    rw [show ((k + 1 : Nat) : Int) = (k : Int) + 1 by omega] at e3
    have in1 : ∀ {z : Nat}, z ∈ [c] → z < 128 := fun h => by
      rw [List.mem_singleton.mp h]
      exact c128
    refine ⟨_, rfl, _, 3, rfl, rfl, (show (0 : Int) < 3 by decide), rfl, _, rfl, ifI (fun _ => ?_) (fun _ => ?_)⟩
    · refine ⟨_, rfl, _, rfl, _, rfl, S a, rfl, hz, _, rfl, _, rfl, _, 1, rfl, rfl, _, rfl, S a, rfl, hz, ?_⟩
      rw [e1, e3]
      refine ⟨_, _, rfl, rfl, add_le h2 (by omega), ?_⟩
      rw [SX.S_cat]
      refine q _ (by rw [List.length_append]; omega) (fun x hx => ?_)
      rcases List.mem_append.mp hx with hx | hx
      · exact t128 x hx
      · exact d128 _ x hx
    refine ⟨_, rfl, _, 3, rfl, rfl, (show (0 : Int) < 3 by decide), rfl, _, rfl, ifI (fun _ => ?_) (fun _ => ?_)⟩
    · refine ⟨_, rfl, _, rfl, _, rfl, S a, rfl, hz, _, rfl, ?_⟩
      rw [e1]
      refine ⟨_, _, rfl, rfl, add_le (b := [c]) (n := a.length + 1) (by show _ + 1 ≤ _; omega) (by omega), _, rfl, _, rfl, _, rfl, S a, rfl, hz, ?_⟩
      rw [e2]
      rw [show (S (a.take k) ++ ⟨#[c]⟩ : Str) = S (a.take k ++ [c]) from SX.S_cat _ _]
      refine ⟨_, _, rfl, rfl, add_le (n := a.length + 1) (by rw [List.length_append, List.length_singleton]; omega) (by omega), ?_⟩
      rw [SX.S_cat]
      refine q _ (by rw [List.length_append, List.length_append, List.length_singleton]; omega) (fun x hx => ?_)
      rcases List.mem_append.mp hx with hx | hx
      · rcases List.mem_append.mp hx with hx | hx
        · exact t128 x hx
        · exact in1 hx
      · exact d128 _ x hx
    · refine ⟨_, rfl, _, rfl, _, rfl, S a, rfl, hz, _, rfl, ?_⟩
      rw [e1]
      refine ⟨_, _, rfl, rfl, add_le (b := [c]) (n := a.length + 1) (by show _ + 1 ≤ _; omega) (by omega), _, rfl, _, rfl, _, 1, rfl, rfl, _, rfl, S a, rfl, hz, ?_⟩
      rw [e3]
      rw [show (S (a.take k) ++ ⟨#[c]⟩ : Str) = S (a.take k ++ [c]) from SX.S_cat _ _]
      refine ⟨_, _, rfl, rfl, add_le (n := a.length + 1) (by rw [List.length_append, List.length_singleton]; omega) (by omega), ?_⟩
      rw [SX.S_cat]
      refine q _ (by rw [List.length_append, List.length_append, List.length_singleton]; omega) (fun x hx => ?_)
      rcases List.mem_append.mp hx with hx | hx
      · rcases List.mem_append.mp hx with hx | hx
        · exact t128 x hx
        · exact in1 hx
      · exact d128 _ x hx
end
end SS

namespace SS
open PySem PySem.Spec PyProof.Rows L2 LamX
open SX (S S_len S_tl)
section
variable {P : Program} {w : World} {K : PySem.W.Frag} {mg : Str → Option Value} {base : Heap}
abbrev s__law_word : Stmt := topS 31
theorem sc__law_word : FnScope ["_law_deed", "_law_caught", "error", "_law_some", "_law_found", "_law_name", "_law_fits"] ["_law_deed"] (defScope s__law_word) := ⟨rfl, rfl, rfl, by decide +kernel, rfl, by decide +kernel, by decide +kernel⟩
theorem wd_filter (o : Option Str) (i : Nat) {nm x : Str} (h : exWords[i]? = some (nm, x)) :
    ((exWords.take (i + 1)).filter fun q => decide (o = some q.2)).map (·.1) = ((exWords.take i).filter fun q => decide (o = some q.2)).map (·.1) ++ if decide (o = some x) = true then [nm] else [] := by
  rw [List.take_add_one, h, List.filter_append, List.map_append]
  congr 1
  show ((List.filter _ [(nm, x)]).map (·.1)) = _
  rw [List.filter_cons, List.filter_nil]
  by_cases e : decide (o = some x) = true
  · rw [if_pos e, if_pos (show decide (o = some (nm, x).2) = true from e)]
    rfl
  · rw [if_neg e, if_neg (show ¬ decide (o = some (nm, x).2) = true from e)]
    rfl
theorem word_gives {X : Cx} (Z : BZ X.mg) (EA : ExAll X.K) (EG : ∀ x ∈ exNames, X.mg x = some (.ref (He.ga X.K x))) (gS : X.mg "ShareError" = some (.ref (He.ga X.K "ShareError")))
    (g : Addr) (cdg : Value) (q : Str) : GivesTo X ["_law_deed", "_law_caught", "error", "_law_some", "_law_found", "_law_name", "_law_fits"] "_law_word" (defScope s__law_word) g cdg (defBody s__law_word) "_law_deed" q (TTword X.K) := by
  intro f c' s H Q tl act hco h
  have E_BadWay : ExG X.K X.mg "BadWay" := ⟨EG _ (by decide)⟩
  have E_BadCount : ExG X.K X.mg "BadCount" := ⟨EG _ (by decide)⟩
  have E_BadLists : ExG X.K X.mg "BadLists" := ⟨EG _ (by decide)⟩
  have E_BadSeats : ExG X.K X.mg "BadSeats" := ⟨EG _ (by decide)⟩
  have E_BadPrice : ExG X.K X.mg "BadPrice" := ⟨EG _ (by decide)⟩
  have E_BadPlace : ExG X.K X.mg "BadPlace" := ⟨EG _ (by decide)⟩
  have E_BadGroups : ExG X.K X.mg "BadGroups" := ⟨EG _ (by decide)⟩
  have E_Tied : ExG X.K X.mg "Tied" := ⟨EG _ (by decide)⟩
  have E_BadText : ExG X.K X.mg "BadText" := ⟨EG _ (by decide)⟩
  have hrest : ∃ tr, PSs (cxOf C8.CX0 X.prog X.w X.K X.mg X.base ["_law_deed", "_law_caught", "error", "_law_some", "_law_found", "_law_name", "_law_fits"] "_law_word" (defScope s__law_word) g cdg X.A X.stack s H C8.E0).nox ((defBody s__law_word).drop 2) tr ∧
      ∀ (σ : L2.St) (H2 : Hp) (v : V) (o : Option Str), σ.length = 7 → σ[1]? = some (some v) → Caught X.K H2 v o →
        (∀ H3 p, Same H2 H3 → H2 p = none → H3 p = some (.lst ((wordsOf o).map V.str)) → Q (.ref p) H3) → tr { nx := fun _ H' => Q .non H', rt := Q } σ H2 := by
    refine ⟨_, (pss_cons (ps_set (i := 3) sc__law_word.nd rfl (Or.inl rfl) (pe_lst (pa_cons (pe_tup (pa_cons pe_str (pa_cons (pe_callB (call_isAK (K := X.K) rfl) (by rfl) Z.isinstance bt_isinstance (pa_cons (pv 1) (pa_cons (pe_glob (v := .ref (He.ga X.K "BadWay")) rfl E_BadWay.g rfl) pa_nil))) pa_nil))) (pa_cons (pe_tup (pa_cons pe_str (pa_cons (pe_callB (call_isAK (K := X.K) rfl) (by rfl) Z.isinstance bt_isinstance (pa_cons (pv 1) (pa_cons (pe_glob (v := .ref (He.ga X.K "BadCount")) rfl E_BadCount.g rfl) pa_nil))) pa_nil))) pa_nil))))
      (pss_cons (ps_set (i := 3) sc__law_word.nd rfl (Or.inl rfl) (pe_op op_cat (pv 3) (pe_lst (pa_cons (pe_tup (pa_cons pe_str (pa_cons (pe_callB (call_isAK (K := X.K) rfl) (by rfl) Z.isinstance bt_isinstance (pa_cons (pv 1) (pa_cons (pe_glob (v := .ref (He.ga X.K "BadLists")) rfl E_BadLists.g rfl) pa_nil))) pa_nil))) (pa_cons (pe_tup (pa_cons pe_str (pa_cons (pe_callB (call_isAK (K := X.K) rfl) (by rfl) Z.isinstance bt_isinstance (pa_cons (pv 1) (pa_cons (pe_glob (v := .ref (He.ga X.K "BadSeats")) rfl E_BadSeats.g rfl) pa_nil))) pa_nil))) pa_nil)))))
      (pss_cons (ps_set (i := 3) sc__law_word.nd rfl (Or.inl rfl) (pe_op op_cat (pv 3) (pe_lst (pa_cons (pe_tup (pa_cons pe_str (pa_cons (pe_callB (call_isAK (K := X.K) rfl) (by rfl) Z.isinstance bt_isinstance (pa_cons (pv 1) (pa_cons (pe_glob (v := .ref (He.ga X.K "BadPrice")) rfl E_BadPrice.g rfl) pa_nil))) pa_nil))) (pa_cons (pe_tup (pa_cons pe_str (pa_cons (pe_callB (call_isAK (K := X.K) rfl) (by rfl) Z.isinstance bt_isinstance (pa_cons (pv 1) (pa_cons (pe_glob (v := .ref (He.ga X.K "BadPlace")) rfl E_BadPlace.g rfl) pa_nil))) pa_nil))) pa_nil)))))
      (pss_cons (ps_set (i := 3) sc__law_word.nd rfl (Or.inl rfl) (pe_op op_cat (pv 3) (pe_lst (pa_cons (pe_tup (pa_cons pe_str (pa_cons (pe_callB (call_isAK (K := X.K) rfl) (by rfl) Z.isinstance bt_isinstance (pa_cons (pv 1) (pa_cons (pe_glob (v := .ref (He.ga X.K "BadGroups")) rfl E_BadGroups.g rfl) pa_nil))) pa_nil))) (pa_cons (pe_tup (pa_cons pe_str (pa_cons (pe_callB (call_isAK (K := X.K) rfl) (by rfl) Z.isinstance bt_isinstance (pa_cons (pv 1) (pa_cons (pe_glob (v := .ref (He.ga X.K "Tied")) rfl E_Tied.g rfl) pa_nil))) pa_nil))) pa_nil)))))
      (pss_cons (ps_set (i := 3) sc__law_word.nd rfl (Or.inl rfl) (pe_op op_cat (pv 3) (pe_lst (pa_cons (pe_tup (pa_cons pe_str (pa_cons (pe_callB (call_isAK (K := X.K) rfl) (by rfl) Z.isinstance bt_isinstance (pa_cons (pv 1) (pa_cons (pe_glob (v := .ref (He.ga X.K "BadText")) rfl E_BadText.g rfl) pa_nil))) pa_nil))) pa_nil))))
      (pss_cons (ps_setLc (i := 4) (own := [("_law_name", 5), ("_law_fits", 6)]) (g := gTup _ 2 (gCons (gName 5) (gCons (gName 6) gNil))) rfl sc__law_word.nd rfl rfl (sw_true rfl rfl rfl (by decide +kernel)) (pi_list (pv 3)) (blkOk_by (N := ["_law_deed", "_law_caught", "error", "_law_some", "_law_found", "_law_name", "_law_fits"]) (sc := defScope s__law_word) (own := [("_law_name", 5), ("_law_fits", 6)]) (by decide +kernel)) (fun _ _ _ _ _ => pg_tup rfl (pgs_cons (pg_name (i := 5) sc__law_word.nd rfl (Or.inl rfl)) (pgs_cons (pg_name (i := 6) sc__law_word.nd rfl (Or.inl rfl)) pgs_nil))) (fun _ _ _ _ _ => by exact (pts_one (pt_val (pv 6)))) (fun _ _ _ _ _ => (pv 5)))
      (pss_cons (ps_if (PW.pt (pw_and (pt_cmpR op_notN (pv 1) pe_non (nomark _)) (pw_and1 (pt_not (pt_val (pe_callB (call_isAK (K := X.K) rfl) (by rfl) Z.isinstance bt_isinstance (pa_cons (pv 1) (pa_cons (pe_bltn (v := .ty "ValueError") (by rfl) Z.valueError bt_ValueError rfl) pa_nil)))))))) (pss_one (ps_expr (pe_bm PySem.F.plainAttrs_list PySem.F.slot_list_append PySem.F.type_list_append mt_append (pv 4) (pa_cons pe_str pa_nil)))) pss_nil)
      (pss_one (ps_ret (pv 4)))))))))), ?_⟩
    intro σ H2 v o hl hv hc k
    match σ, hl with
    | [a0, a1, a2, a3, a4, a5, a6], _ =>
    obtain rfl : a1 = some v := Option.some.inj hv
    refine ⟨v, rfl, isA_word EA hc (by decide) ⟨sz (show 2 ≤ 100000 by decide), fun t1 n1 => ?_⟩⟩
    have s1 := same_new (o := .tup [.str "way", .bl (decide (o = some ("BadWay" : Str)))]) n1
    refine ⟨v, rfl, isA_word EA (caught_same s1 hc) (by decide) ⟨sz (show 2 ≤ 100000 by decide), fun t2 n2 => ?_⟩⟩
    have s2 := same_new (o := .tup [.str "count", .bl (decide (o = some ("BadCount" : Str)))]) n2
    refine ⟨sz (show 2 ≤ 100000 by decide), fun l1 m1 => ?_⟩
    have s3 := same_new (o := .lst [V.ref t1, V.ref t2]) m1
    refine ⟨_, rfl, ?_⟩
    refine ⟨v, rfl, isA_word EA (caught_same ((s1.trans s2).trans s3) hc) (by decide) ⟨sz (show 2 ≤ 100000 by decide), fun t3 n3 => ?_⟩⟩
    have s4 := same_new (o := .tup [.str "lists", .bl (decide (o = some ("BadLists" : Str)))]) n3
    refine ⟨v, rfl, isA_word EA (caught_same (((s1.trans s2).trans s3).trans s4) hc) (by decide) ⟨sz (show 2 ≤ 100000 by decide), fun t4 n4 => ?_⟩⟩
    have s5 := same_new (o := .tup [.str "seats", .bl (decide (o = some ("BadSeats" : Str)))]) n4
    refine ⟨sz (show 2 ≤ 100000 by decide), fun l2 m2 => ?_⟩
    have s6 := same_new (o := .lst [V.ref t3, V.ref t4]) m2
    refine ⟨l1, l2, [V.ref t1, V.ref t2], [V.ref t3, V.ref t4], rfl, rfl, ((s4.trans s5).trans s6) _ _ upd_same, upd_same, sz (show 4 ≤ 100000 by decide), fun l3 m3 => ?_⟩
    have s7 := same_new (o := .lst ([V.ref t1, V.ref t2] ++ [V.ref t3, V.ref t4])) m3
    refine ⟨_, rfl, ?_⟩
    refine ⟨v, rfl, isA_word EA (caught_same ((((((s1.trans s2).trans s3).trans s4).trans s5).trans s6).trans s7) hc) (by decide) ⟨sz (show 2 ≤ 100000 by decide), fun t5 n5 => ?_⟩⟩
    have s8 := same_new (o := .tup [.str "price", .bl (decide (o = some ("BadPrice" : Str)))]) n5
    refine ⟨v, rfl, isA_word EA (caught_same (((((((s1.trans s2).trans s3).trans s4).trans s5).trans s6).trans s7).trans s8) hc) (by decide) ⟨sz (show 2 ≤ 100000 by decide), fun t6 n6 => ?_⟩⟩
    have s9 := same_new (o := .tup [.str "place", .bl (decide (o = some ("BadPlace" : Str)))]) n6
    refine ⟨sz (show 2 ≤ 100000 by decide), fun l4 m4 => ?_⟩
    have s10 := same_new (o := .lst [V.ref t5, V.ref t6]) m4
    refine ⟨l3, l4, ([V.ref t1, V.ref t2] ++ [V.ref t3, V.ref t4]), [V.ref t5, V.ref t6], rfl, rfl, ((s8.trans s9).trans s10) _ _ upd_same, upd_same, sz (show 6 ≤ 100000 by decide), fun l5 m5 => ?_⟩
    have s11 := same_new (o := .lst (([V.ref t1, V.ref t2] ++ [V.ref t3, V.ref t4]) ++ [V.ref t5, V.ref t6])) m5
    refine ⟨_, rfl, ?_⟩
    refine ⟨v, rfl, isA_word EA (caught_same ((((((((((s1.trans s2).trans s3).trans s4).trans s5).trans s6).trans s7).trans s8).trans s9).trans s10).trans s11) hc) (by decide) ⟨sz (show 2 ≤ 100000 by decide), fun t7 n7 => ?_⟩⟩
    have s12 := same_new (o := .tup [.str "groups", .bl (decide (o = some ("BadGroups" : Str)))]) n7
    refine ⟨v, rfl, isA_word EA (caught_same (((((((((((s1.trans s2).trans s3).trans s4).trans s5).trans s6).trans s7).trans s8).trans s9).trans s10).trans s11).trans s12) hc) (by decide) ⟨sz (show 2 ≤ 100000 by decide), fun t8 n8 => ?_⟩⟩
    have s13 := same_new (o := .tup [.str "tied", .bl (decide (o = some ("Tied" : Str)))]) n8
    refine ⟨sz (show 2 ≤ 100000 by decide), fun l6 m6 => ?_⟩
    have s14 := same_new (o := .lst [V.ref t7, V.ref t8]) m6
    refine ⟨l5, l6, (([V.ref t1, V.ref t2] ++ [V.ref t3, V.ref t4]) ++ [V.ref t5, V.ref t6]), [V.ref t7, V.ref t8], rfl, rfl, ((s12.trans s13).trans s14) _ _ upd_same, upd_same, sz (show 8 ≤ 100000 by decide), fun l7 m7 => ?_⟩
    have s15 := same_new (o := .lst ((([V.ref t1, V.ref t2] ++ [V.ref t3, V.ref t4]) ++ [V.ref t5, V.ref t6]) ++ [V.ref t7, V.ref t8])) m7
    refine ⟨_, rfl, ?_⟩
    refine ⟨v, rfl, isA_word EA (caught_same ((((((((((((((s1.trans s2).trans s3).trans s4).trans s5).trans s6).trans s7).trans s8).trans s9).trans s10).trans s11).trans s12).trans s13).trans s14).trans s15) hc) (by decide) ⟨sz (show 2 ≤ 100000 by decide), fun t9 n9 => ?_⟩⟩
    have s16 := same_new (o := .tup [.str "text", .bl (decide (o = some ("BadText" : Str)))]) n9
    refine ⟨sz (show 1 ≤ 100000 by decide), fun l8 m8 => ?_⟩
    have s17 := same_new (o := .lst [V.ref t9]) m8
    refine ⟨l7, l8, ((([V.ref t1, V.ref t2] ++ [V.ref t3, V.ref t4]) ++ [V.ref t5, V.ref t6]) ++ [V.ref t7, V.ref t8]), [V.ref t9], rfl, rfl, (s16.trans s17) _ _ upd_same, upd_same, sz (show 9 ≤ 100000 by decide), fun l9 m9 => ?_⟩
    have s18 := same_new (o := .lst (((([V.ref t1, V.ref t2] ++ [V.ref t3, V.ref t4]) ++ [V.ref t5, V.ref t6]) ++ [V.ref t7, V.ref t8]) ++ [V.ref t9])) m9
    have sF := (((((((((((((((((s1.trans s2).trans s3).trans s4).trans s5).trans s6).trans s7).trans s8).trans s9).trans s10).trans s11).trans s12).trans s13).trans s14).trans s15).trans s16).trans s17).trans s18)
    have e1 := ((((((((((((((((s2.trans s3).trans s4).trans s5).trans s6).trans s7).trans s8).trans s9).trans s10).trans s11).trans s12).trans s13).trans s14).trans s15).trans s16).trans s17).trans s18) _ _ upd_same
    have e2 := (((((((((((((((s3.trans s4).trans s5).trans s6).trans s7).trans s8).trans s9).trans s10).trans s11).trans s12).trans s13).trans s14).trans s15).trans s16).trans s17).trans s18) _ _ upd_same
    have e3 := (((((((((((((s5.trans s6).trans s7).trans s8).trans s9).trans s10).trans s11).trans s12).trans s13).trans s14).trans s15).trans s16).trans s17).trans s18) _ _ upd_same
    have e4 := ((((((((((((s6.trans s7).trans s8).trans s9).trans s10).trans s11).trans s12).trans s13).trans s14).trans s15).trans s16).trans s17).trans s18) _ _ upd_same
    have e5 := (((((((((s9.trans s10).trans s11).trans s12).trans s13).trans s14).trans s15).trans s16).trans s17).trans s18) _ _ upd_same
    have e6 := ((((((((s10.trans s11).trans s12).trans s13).trans s14).trans s15).trans s16).trans s17).trans s18) _ _ upd_same
    have e7 := (((((s13.trans s14).trans s15).trans s16).trans s17).trans s18) _ _ upd_same
    have e8 := ((((s14.trans s15).trans s16).trans s17).trans s18) _ _ upd_same
    have e9 := (s17.trans s18) _ _ upd_same
    have eF : (upd (upd (upd (upd (upd (upd (upd (upd (upd (upd (upd (upd (upd (upd (upd (upd (upd (upd H2 t1 (.tup [.str "way", .bl (decide (o = some ("BadWay" : Str)))])) t2 (.tup [.str "count", .bl (decide (o = some ("BadCount" : Str)))])) l1 (.lst [V.ref t1, V.ref t2])) t3 (.tup [.str "lists", .bl (decide (o = some ("BadLists" : Str)))])) t4 (.tup [.str "seats", .bl (decide (o = some ("BadSeats" : Str)))])) l2 (.lst [V.ref t3, V.ref t4])) l3 (.lst ([V.ref t1, V.ref t2] ++ [V.ref t3, V.ref t4]))) t5 (.tup [.str "price", .bl (decide (o = some ("BadPrice" : Str)))])) t6 (.tup [.str "place", .bl (decide (o = some ("BadPlace" : Str)))])) l4 (.lst [V.ref t5, V.ref t6])) l5 (.lst (([V.ref t1, V.ref t2] ++ [V.ref t3, V.ref t4]) ++ [V.ref t5, V.ref t6]))) t7 (.tup [.str "groups", .bl (decide (o = some ("BadGroups" : Str)))])) t8 (.tup [.str "tied", .bl (decide (o = some ("Tied" : Str)))])) l6 (.lst [V.ref t7, V.ref t8])) l7 (.lst ((([V.ref t1, V.ref t2] ++ [V.ref t3, V.ref t4]) ++ [V.ref t5, V.ref t6]) ++ [V.ref t7, V.ref t8]))) t9 (.tup [.str "text", .bl (decide (o = some ("BadText" : Str)))])) l8 (.lst [V.ref t9])) l9 (.lst (((([V.ref t1, V.ref t2] ++ [V.ref t3, V.ref t4]) ++ [V.ref t5, V.ref t6]) ++ [V.ref t7, V.ref t8]) ++ [V.ref t9]))) l9 = some (.lst (((([V.ref t1, V.ref t2] ++ [V.ref t3, V.ref t4]) ++ [V.ref t5, V.ref t6]) ++ [V.ref t7, V.ref t8]) ++ [V.ref t9])) := upd_same
    generalize (upd (upd (upd (upd (upd (upd (upd (upd (upd (upd (upd (upd (upd (upd (upd (upd (upd (upd H2 t1 (.tup [.str "way", .bl (decide (o = some ("BadWay" : Str)))])) t2 (.tup [.str "count", .bl (decide (o = some ("BadCount" : Str)))])) l1 (.lst [V.ref t1, V.ref t2])) t3 (.tup [.str "lists", .bl (decide (o = some ("BadLists" : Str)))])) t4 (.tup [.str "seats", .bl (decide (o = some ("BadSeats" : Str)))])) l2 (.lst [V.ref t3, V.ref t4])) l3 (.lst ([V.ref t1, V.ref t2] ++ [V.ref t3, V.ref t4]))) t5 (.tup [.str "price", .bl (decide (o = some ("BadPrice" : Str)))])) t6 (.tup [.str "place", .bl (decide (o = some ("BadPlace" : Str)))])) l4 (.lst [V.ref t5, V.ref t6])) l5 (.lst (([V.ref t1, V.ref t2] ++ [V.ref t3, V.ref t4]) ++ [V.ref t5, V.ref t6]))) t7 (.tup [.str "groups", .bl (decide (o = some ("BadGroups" : Str)))])) t8 (.tup [.str "tied", .bl (decide (o = some ("Tied" : Str)))])) l6 (.lst [V.ref t7, V.ref t8])) l7 (.lst ((([V.ref t1, V.ref t2] ++ [V.ref t3, V.ref t4]) ++ [V.ref t5, V.ref t6]) ++ [V.ref t7, V.ref t8]))) t9 (.tup [.str "text", .bl (decide (o = some ("BadText" : Str)))])) l8 (.lst [V.ref t9])) l9 (.lst (((([V.ref t1, V.ref t2] ++ [V.ref t3, V.ref t4]) ++ [V.ref t5, V.ref t6]) ++ [V.ref t7, V.ref t8]) ++ [V.ref t9]))) = HF at sF e1 e2 e3 e4 e5 e6 e7 e8 e9 eF ⊢
    have cF : Caught X.K HF v o := caught_same sF hc
    have items : ∀ (i : Nat) (x : V) (qq : Str × Str), [V.ref t1, V.ref t2, V.ref t3, V.ref t4, V.ref t5, V.ref t6, V.ref t7, V.ref t8, V.ref t9][i]? = some x → exWords[i]? = some qq → pairV o HF x qq := by
      have z1 : pairV o HF (V.ref t1) ("way", "BadWay") := ⟨t1, rfl, e1⟩
      have z2 : pairV o HF (V.ref t2) ("count", "BadCount") := ⟨t2, rfl, e2⟩
      have z3 : pairV o HF (V.ref t3) ("lists", "BadLists") := ⟨t3, rfl, e3⟩
      have z4 : pairV o HF (V.ref t4) ("seats", "BadSeats") := ⟨t4, rfl, e4⟩
      have z5 : pairV o HF (V.ref t5) ("price", "BadPrice") := ⟨t5, rfl, e5⟩
      have z6 : pairV o HF (V.ref t6) ("place", "BadPlace") := ⟨t6, rfl, e6⟩
      have z7 : pairV o HF (V.ref t7) ("groups", "BadGroups") := ⟨t7, rfl, e7⟩
      have z8 : pairV o HF (V.ref t8) ("tied", "Tied") := ⟨t8, rfl, e8⟩
      have z9 : pairV o HF (V.ref t9) ("text", "BadText") := ⟨t9, rfl, e9⟩
      intro i x qq h1 h2
      match i with
      | 0 => cases h1; cases h2; exact z1
      | 1 => cases h1; cases h2; exact z2
      | 2 => cases h1; cases h2; exact z3
      | 3 => cases h1; cases h2; exact z4
      | 4 => cases h1; cases h2; exact z5
      | 5 => cases h1; cases h2; exact z6
      | 6 => cases h1; cases h2; exact z7
      | 7 => cases h1; cases h2; exact z8
      | 8 => cases h1; cases h2; exact z9
      | n + 9 => simp at h1
    -- the comprehension
    refine ⟨_, rfl, l9, rfl, ⟨_, sqL eF⟩, fun D nD => lc_list (K := X.K) (a := l9) (xs := [V.ref t1, V.ref t2, V.ref t3, V.ref t4, V.ref t5, V.ref t6, V.ref t7, V.ref t8, V.ref t9])
      (fun i H' => Same HF H' ∧ H' D = some (.lst ((((exWords.take i).filter fun q => decide (o = some q.2)).map (·.1)).map V.str))) ⟨same_new nD, upd_same⟩ (fun i H' _ ⟨s, _⟩ => sqL (s _ _ eF)) (fun i x H' hx ⟨sS, eD⟩ => ?_) (fun H' ⟨sS, eD⟩ => ?_)⟩
    · have hi : i < 9 := (List.getElem?_eq_some_iff.mp hx).1
      have hq : exWords[i]? = some exWords[i] := List.getElem?_eq_getElem hi
      obtain ⟨a, rfl, ha⟩ := pairV_same sS (items i x _ hx hq)
      have step := wd_filter o i (nm := exWords[i].1) (x := exWords[i].2) hq
      refine ⟨a, _, rfl, sqT ha, rfl, _, _, rfl, _, _, rfl, rfl, rfl, ⟨_, rfl, _, rfl, iteB (fun e => ?_) (fun e => ?_)⟩⟩
      · rw [if_pos e] at step
        refine ⟨_, rfl, _, eD, szl ?_, same_mut sS nD, ?_⟩
        · rw [List.length_map, List.length_map]
          exact Nat.lt_of_le_of_lt (List.length_filter_le _ _) (by rw [List.length_take]; omega)
        · rw [upd_same, step, List.map_append]
          rfl
      · rw [if_neg (by rw [e]; decide), List.append_nil] at step
        exact ⟨sS, by rw [step]; exact eD⟩
    · have e9 : exWords.take 9 = exWords := rfl
      have eD : H' D = some (.lst ((((exWords.take 9).filter fun q => decide (o = some q.2)).map (·.1)).map V.str)) := eD
      rw [e9] at eD
      have cE := caught_same sS cF
      have nD2 : H2 D = none := sF.free nD
      have fin : ∀ {H4 : Hp}, H4 = H' → Q (.ref D) H' := fun _ => k H' D (sF.trans sS) nD2 eD
      refine ⟨v, rfl, rfl, ?_⟩
      by_cases hn : v = .non
      · rw [show (!decide (v = V.non)) = false by rw [decide_eq_true hn]; rfl]
        refine ⟨_, rfl, iteF (iteF ⟨_, rfl, fin rfl⟩)⟩
      · rw [show (!decide (v = V.non)) = true by rw [decide_eq_false hn]; rfl]
        refine ⟨_, rfl, iteT ⟨v, rfl, isA_ve EA cE hn ⟨_, rfl, ?_⟩⟩⟩
        exact iteF ⟨_, rfl, fin rfl⟩
  obtain ⟨tr, pr, tail⟩ := hrest
  refine ⟨_, pss_cons (ps_set (i := 1) sc__law_word.nd rfl (Or.inl rfl) pe_non)
    (pss_cons (ps_try_trk (i := 2) (j := 1) (X := (cxOf C8.CX0 X.prog X.w X.K X.mg X.base ["_law_deed", "_law_caught", "error", "_law_some", "_law_found", "_law_name", "_law_fits"] "_law_word" (defScope s__law_word) g cdg X.A X.stack s H C8.E0).nox) (c := .ref (He.ga X.K "ShareError"))
      (tb := fun W D σ H => ∃ Ech : XK, (∀ cls d σ' H', Ech cls d H' → W cls d σ' H') ∧ σ[0]? = some (some (.ref f)) ∧ H c' = some (CodeO c' q) ∧ tl Ech H (fun _ H' => D.nx σ H'))
      rfl rfl sc__law_word.nd rfl rfl rfl rfl (by decide) ⟨rfl, rfl, .inl gS⟩ LamX.takes0 rfl rfl rfl (fun _ _ => rfl) (fun W pn xe tk _ => ?body))
    pr), ?_⟩
  case body =>
    refine ⟨fun pins s' σ H' D I h' => ?_⟩
    obtain ⟨Ech, hW, h1, h2, h3⟩ := h'
    exact (pss_one (ps_expr (act W pn xe Ech _ _ tk hW))).run pins s' σ H' D I ⟨h1, h2, h3⟩
  refine ⟨fun cls d H' => d = none ∧ ∃ x ∈ exNames, cls = .ref (He.ga X.K x) ∧ (∀ H2 p, Same H' H2 → H' p = none → H2 p = some (.lst [.str (wordOf x)]) → Q (.ref p) H2), fun cls d σ' H' z => ?_, rfl, hco, ?_⟩
  · obtain ⟨rfl, x, hx, rfl, k⟩ := z
    refine ⟨true, EA.m x hx, fun _ => ⟨rfl, _, rfl, fun a na σ2 hl hv => ?_⟩, fun z => by cases z⟩
    refine tail σ2 _ (.ref a) (some x) hl hv (.inr ⟨a, x, rfl, rfl, hx, upd_same⟩) fun H3 p s3 n3 e3 => k H3 p ((same_new na).trans s3) (Same.free (same_new na) n3) ?_
    rw [e3, words_some hx]
    rfl
  · refine h _ _ (fun x hx H' k => ⟨rfl, x, hx, rfl, k⟩) (fun v H' k => tail _ H' .non none rfl rfl (.inl ⟨rfl, rfl⟩) fun H3 p s3 n3 e3 => k H3 p s3 n3 ?_)
    rw [e3, words_none]
    rfl
theorem word_ok {P : Program} {w : World} {K : PySem.W.Frag} {mg : Str → Option Value} {base : Heap} (Z : BZ mg) (EA : ExAll K) (EG : ∀ x ∈ exNames, mg x = some (.ref (He.ga K x))) (gS : mg "ShareError" = some (.ref (He.ga K "ShareError")))
    (D : DefAt K mg "_law_word" s__law_word) : WordOk P w K mg base := by
  refine ⟨fun {X} hP hw hK hm hb => ?_⟩
  subst hP hw hK hm hb
  obtain ⟨hmg, fd, F⟩ := D
  have hb := F.bindsN (ps := ["_law_deed"]) (fun _ _ _ _ _ _ us hl => match us, hl with | [_], _ => rfl)
  obtain ⟨oc, od, dV, kV, doc, pm, an, cdv, ct, osl, rfl, lk, hcd, hD, hK⟩ := F.ex
  exact ⟨_, _, _, _, dV, kV, doc, pm, cdv, ct, oc, an, od, osl, ["_law_deed", "_law_caught", "error", "_law_some", "_law_found", "_law_name", "_law_fits"], hmg, F.kp, lk, hcd, hb, sc__law_word, rfl, .inl rfl, word_gives Z EA EG gS _ cdv _⟩

end
end SS

namespace SS
open PySem PySem.Spec PyProof.Rows L2 LamX
open SX (S S_len S_tl)
section
variable {P : Program} {w : World} {K : PySem.W.Frag} {mg : Str → Option Value} {base : Heap}
abbrev s_law : Stmt := topS 35
theorem sc_law : FnScope ["_law_script", "_law_rows", "_law_text", "_law_found", "_law_number_here", "_law_turn", "_law_due", "_law_bent_here", "_law_odd", "_law_row"] ["_law_script"] (defScope s_law) := ⟨rfl, rfl, rfl, by decide +kernel, rfl, by decide +kernel, by decide +kernel⟩
def tabs1 (K : PySem.W.Frag) : List (Addr × Str) := [(tbl K "law", lamQ "law" s_law)]
theorem hm_law (K : PySem.W.Frag) : (tbl K "law", lamQ "law" s_law) ∈ tabs1 K ∧ (∀ p ∈ tabs1 K, p.1 = tbl K "law" → p.2 = lamQ "law" s_law) :=
  ⟨List.mem_singleton.mpr rfl, fun p hp _ => by rw [List.mem_singleton.mp hp]⟩
def sp_law (K : PySem.W.Frag) : Sp := fun vs H Q _ => ∃ (a : Addr) (ns : List Int), vs = [.ref a] ∧ SqL K H a (ns.map V.int) ∧ ns.length ≤ 63 ∧ Tabs (tabs1 K) H ∧ ∀ H', Q (.bl true) H'
theorem menu {K : PySem.W.Frag} {H : Hp} {l : Addr} {xs : List V} {n m : Int} {Q : VK} (h : H l = some (.lst xs)) (hm : (xs.length : Int) = m) (h0 : 0 < m) (q : ∀ v, v ∈ xs → Q v H) :
    rIxL K (.ref l) (.int (n % m)) H Q := by
  have a0 := Int.emod_nonneg n (show m ≠ 0 by omega)
  have a1 := Int.emod_lt_of_pos n h0
  have hj : (n % m).toNat < xs.length := by omega
  exact ⟨l, xs, n % m, xs[(n % m).toNat], rfl, rfl, sqL h, at_of (j := (n % m).toNat) (by omega) (List.getElem?_eq_getElem hj), q _ (List.getElem_mem hj)⟩
theorem num_ascii {n c : Nat} (h : c ∈ TL.numL n) : c < 128 := by
  have := (TL.numL_digits n c h).2
  omega
theorem writ_ascii {rs : List Row} : ∀ c ∈ writ rs, c < 128 := fun c h => by
  rcases joinL_mem h with h | ⟨p, hp, h⟩
  · rw [List.mem_singleton.mp h]
    decide
  · obtain ⟨r, _, rfl⟩ := List.mem_map.mp hp
    rcases joinL_mem h with h | ⟨p, hp, h⟩
    · rw [List.mem_singleton.mp h]
      decide
    · simp only [List.mem_cons, List.not_mem_nil, or_false] at hp
      rcases hp with rfl | rfl | rfl <;> exact num_ascii h
theorem readD_S (l : List Nat) : readD (.str (S l)) = readN l := rfl
theorem row_nat {r : Row} (g : GoodRow r) : ∃ m1 m2 m3 : Nat, r = ((m1 : Int), (m2 : Int), (m3 : Int)) ∧ m1 < 10 ^ 31 ∧ m2 < 10 ^ 31 ∧ m3 < 10 ^ 31 := by
  obtain ⟨e, h⟩ := good_nat g
  exact ⟨_, _, _, e, h⟩
section
variable {K : PySem.W.Frag} {H : Hp} {Q : VK} {E : XK}
theorem read_bad {l : List Nat} (h : readN l = none) (hl : l.length ≤ 10000) (e : ∀ H', Same H H' → E (.ref (He.ga K "BadText")) none H') : sp_read K [.str (S l)] H Q E := by
  refine ⟨_, .str (S l), rfl, .inl (.str _), fun s z => ?_, fun _ => e, fun rs z => ?_⟩
  · cases z
    rw [S_len]
    exact hl
  · rw [readD_S, h] at z
    cases z
theorem read_ok {l : List Nat} {rs : List Row} (h : readN l = some rs) (hl : l.length ≤ 10000) (q : ∀ H' p xs, Same H H' → H p = none → H' p = some (.lst xs) → Rws K H' p xs rs → Q (.ref p) H') : sp_read K [.str (S l)] H Q E := by
  refine ⟨_, .str (S l), rfl, .inl (.str _), fun s z => ?_, fun z => ?_, fun rs2 z _ => ?_⟩
  · cases z
    rw [S_len]
    exact hl
  · rw [readD_S, h] at z
    cases z
  · rw [readD_S, h] at z
    cases z
    exact q
theorem read_odd {v : V} {d : PyData} (hd : Dz K H v d) (hs : isStrD d = false) (e : ∀ H', Same H H' → E (.ref (He.ga K "BadText")) none H') : sp_read K [v] H Q E := by
  refine ⟨v, d, rfl, hd, fun s z => ?_, fun _ => e, fun rs z => ?_⟩
  · rw [z] at hs
    cases hs
  · rw [readD_other hs] at z
    cases z
theorem call_var {sp : Sp} {i : Nat} {v : V} {σ : L2.St} (hv : σ[i]? = some (some v)) (h : sp [v] H Q E) : tCall sp [] E (tCons (tVar i) tNil) σ H Q := ⟨v, hv, h⟩
end
theorem ok_law (Z : BZ mg) (O__law_lists : OkF P w K mg base 3 "_law_lists" ["_law_script", "_law_most"] (sp__law_lists K)) (O_written : OkF P w K mg base 5 "written" ["lists"] (sp_written K)) (O_read : OkF P w K mg base 4 "read" ["text"] (sp_read K)) (O__law_mixed : OkF P w K mg base 1 "_law_mixed" ["_law_cell", "_law_k"] (sp__law_mixed K)) (O__law_bent : OkF P w K mg base 1 "_law_bent" ["_law_text", "_law_number_here"] (sp__law_bent K)) (O__law_read : OkF P w K mg base 2 "_law_read" ["_law_text"] (sp__law_read K)) (W : WordOk P w K mg base) (TB : TabB base mg (He.codeOf K ("law", none)) (tbl K "law")) (D : DefAt K mg "law" s_law) : OkF P w K mg base 7 "law" ["_law_script"] (sp_law K) := by
  refine OkF.mkL D sc_law (fun _ _ _ _ _ _ us hl => match us, hl with | [_], _ => rfl) (fun vs H Q E h => ?_) (fun f cdv A outer s H vs Q E hcd hr h => ?_)
  · first | (obtain ⟨_, rfl, _⟩ := h; rfl) | (obtain ⟨_, _, rfl, _⟩ := h; rfl) | (obtain ⟨_, _, _, rfl, _⟩ := h; rfl) | (obtain ⟨_, _, _, _, rfl, _⟩ := h; rfl) | (obtain ⟨_, _, _, _, _, rfl, _⟩ := h; rfl) | (obtain ⟨_, _, _, _, _, _, rfl, _⟩ := h; rfl) | (obtain ⟨_, _, _, _, _, _, _, rfl, _⟩ := h; rfl) | (obtain ⟨_, _, _, _, _, _, _, _, rfl, _⟩ := h; rfl) | (obtain ⟨_, _, _, _, _, _, _, _, _, rfl, _⟩ := h; rfl) | (obtain ⟨_, _, _, _, _, _, _, _, _, _, rfl, _⟩ := h; rfl) | (obtain ⟨_, _, _, _, _, _, _, _, _, _, _, rfl, _⟩ := h; rfl) | (obtain ⟨_, _, _, _, _, _, _, _, _, _, _, _, rfl, _⟩ := h; rfl) | (obtain ⟨_, _, _, _, _, _, _, _, _, _, _, _, _, rfl, _⟩ := h; rfl) | (obtain ⟨_, _, _, _, _, _, _, _, _, _, _, _, _, _, rfl, _⟩ := h; rfl)
  · have HM := hm_law K 
    refine ⟨_, PSs.nox ((pss_cons (ps_set (i := 1) sc_law.nd rfl (Or.inl rfl) (pc O__law_lists (hr.mono (by decide)) passL (pa_cons (pv 0) (pa_cons pe_int pa_nil))))
      (pss_cons (ps_set (i := 2) sc_law.nd rfl (Or.inl rfl) (pc O_written (hr.mono (by decide)) passL (pa_cons (pv 1) pa_nil)))
      (pss_cons (ps_if (pt_cmpR op_ne (pv 2) (pe_m1 PySem.F.slot_str_join PySem.F.type_str_join (mt_joinK (K := K) rfl) pe_str (pe_lc (own := [("_law_row", 9)]) (g := gName 9) (tt := tYes) rfl sc_law.nd (pi_list (pv 1)) (blkOk_by (N := ["_law_script", "_law_rows", "_law_text", "_law_found", "_law_number_here", "_law_turn", "_law_due", "_law_bent_here", "_law_odd", "_law_row"]) (sc := defScope s_law) (own := [("_law_row", 9)]) (by decide +kernel)) (fun _ _ _ _ _ => pg_name (i := 9) sc_law.nd rfl (Or.inl rfl)) (fun _ _ _ _ _ => pts_nil) (fun _ _ _ _ _ => (pe_m1 PySem.F.slot_str_join PySem.F.type_str_join (mt_joinK (K := K) rfl) pe_str (pe_lst (pa_cons (pe_callTy call_str_int (by rfl) Z.str bt_str (pa_cons (pe_ix (ix_tupK (K := K) rfl) (pv 9) pe_int (fun _ _ => rfl)) pa_nil)) (pa_cons (pe_callTy call_str_int (by rfl) Z.str bt_str (pa_cons (pe_ix (ix_tupK (K := K) rfl) (pv 9) pe_int (fun _ _ => rfl)) pa_nil)) (pa_cons (pe_callTy call_str_int (by rfl) Z.str bt_str (pa_cons (pe_ix (ix_tupK (K := K) rfl) (pv 9) pe_int (fun _ _ => rfl)) pa_nil)) pa_nil)))))))) (nomark _)) (pss_one (ps_ret pe_bl)) pss_nil)
      (pss_cons (ps_set (i := 3) sc_law.nd rfl (Or.inl rfl) (pc O_read (hr.mono (by decide)) passL (pa_cons (pv 2) pa_nil)))
      (pss_cons (ps_if (PW.pt (pw_or (pt_not (pt_val (pe_callB (call_isAK (K := K) rfl) (by rfl) Z.isinstance bt_isinstance (pa_cons (pv 3) (pa_cons (pe_bltn (v := .ty "list") (by rfl) Z.list bt_list rfl) pa_nil))))) (pw_or1 (pt_cmpR (op_neDK (K := K) rfl hr.units) (pv 3) (pv 1) (nomark _))))) (pss_one (ps_ret pe_bl)) pss_nil)
      (pss_cons (ps_expr (pe_bm PySem.F.plainAttrs_list PySem.F.slot_list_append PySem.F.type_list_append mt_append (pv 3) (pa_cons (pe_tup (pa_cons pe_int (pa_cons pe_int (pa_cons pe_int pa_nil)))) pa_nil)))
      (pss_cons (ps_set (i := 4) sc_law.nd rfl (Or.inl rfl) (pc O__law_mixed (hr.mono (by decide)) passL (pa_cons (pe_op op_mod (pe_callB (cr_sumK (K := K) rfl rfl) (by rfl) Z.sum bt_sum (pa_cons (pv 0) pa_nil)) (pe_op op_pow pe_int pe_int)) (pa_cons pe_int pa_nil))))
      (pss_cons (ps_for PassesOwn.never rfl (pi_range1 (by rfl) Z.range (pa_cons pe_int pa_nil)) (pg_name (i := 5) sc_law.nd rfl (Or.inl rfl)) (pss_cons (ps_set (i := 7) sc_law.nd rfl (Or.inr rfl) (pc O__law_bent (hr.mono (by decide)) passL (pa_cons (pv 2) (pa_cons (pc O__law_mixed (hr.mono (by decide)) passL (pa_cons (pv 4) (pa_cons (pe_op op_add pe_int (pv 5)) pa_nil))) pa_nil))))
      (pss_cons (ps_set (i := 6) sc_law.nd rfl (Or.inl rfl) (pc O__law_read (hr.mono (by decide)) passL (pa_cons (pv 7) pa_nil)))
      (pss_one (ps_if (pt_cmpR op_isN (pv 6) pe_non (nomark _)) (pss_one (ps_if (pt_cmpR (op_neDK (K := K) rfl hr.units) (pl_word (k := 4) W HM TB (by exact hcd) (hr.mono (by decide)) (fun A outer s H E f c' hr => by exact (pc O_read (hr.mono (by decide)) (passes_call (takes_of rfl rfl rfl rfl) (fun _ _ _ _ h => h)) (pa_cons (pv 7) pa_nil))) rfl (lamS_by (sc := defScope s_law) (by decide +kernel)) rfl (fun _ _ _ _ _ => rfl)) (pe_lst (pa_cons pe_str pa_nil)) (nomark _)) (pss_one (ps_ret pe_bl)) pss_nil)) (pss_one (ps_if (pt_cmpR (op_neDK (K := K) rfl hr.units) (pc O_read (hr.mono (by decide)) passL (pa_cons (pv 7) pa_nil)) (pv 6) (nomark _)) (pss_one (ps_ret pe_bl)) pss_nil)))))))
      (pss_cons (ps_set (i := 8) sc_law.nd rfl (Or.inr rfl) (pe_ix (ix_listK (K := K) rfl) (pe_lst (pa_cons pe_non (pa_cons pe_int (pa_cons pe_bl (pa_cons (pv 1) (pa_cons (pe_tup (pa_cons (pv 2) pa_nil)) (pa_cons pe_dnewK (pa_cons pe_str pa_nil)))))))) (pe_op op_mod (pv 4) pe_int) (fun _ _ => rfl)))
      (pss_one (ps_ret (pe_and (pe_cmpR (op_eqDK (K := K) rfl hr.units) (pl_word (k := 4) W HM TB (by exact hcd) (hr.mono (by decide)) (fun A outer s H E f c' hr => by exact (pc O_read (hr.mono (by decide)) (passes_call (takes_of rfl rfl rfl rfl) (fun _ _ _ _ h => h)) (pa_cons (pv 8) pa_nil))) rfl (lamS_by (sc := defScope s_law) (by decide +kernel)) rfl (fun _ _ _ _ _ => rfl)) (pe_lst (pa_cons pe_str pa_nil)) (nomark _)) (pe_one (pe_cmpR (op_eqDK (K := K) rfl hr.units) (pc O_read (hr.mono (by decide)) passL (pa_cons (pv 2) pa_nil)) (pv 1) (nomark _)))))))))))))))), ?_⟩
    obtain ⟨a, ns, rfl, hS, hlen, hT, q⟩ := h
    refine ⟨_, rfl, a, ns, 12, rfl, hS, by decide, by decide, fun H1 p xs rs s1 np ep hR hg _ => ?_⟩
    refine ⟨_, rfl, p, xs, rs, rfl, hR, hg, fun H2 s2 => ?_⟩
    have s12 := s1.trans s2
    have hR2 := hR.same s2
    have g12 := hg.2.1
    have wl := writ_len hg
    -- the text
    refine ⟨_, rfl, ⟨_, rfl⟩, _, rfl, p, rfl, ⟨_, hR2.l⟩, fun D nD => lc_list (K := K) (a := p) (xs := xs) (fun j H' => Same H2 H' ∧ H' D = some (.lst ((((rs.take j).map rowL).map S).map V.str))) ⟨same_new nD, upd_same⟩ (fun j H' _ ⟨s, _⟩ => same_seq s hR2.l) (fun j x H' hx ⟨s, e⟩ => ?_) (fun H3 ⟨s3, e⟩ => ?_)⟩
    · obtain ⟨r, b, hr, rfl, hb⟩ := (hR2.same s).getV hx
      obtain ⟨m1, m2, m3, rfl, n1, n2, n3⟩ := row_nat (hg.2.2 r (List.mem_of_getElem? hr))
      refine ⟨rfl, ?_⟩
      refine ⟨⟨_, rfl⟩, _, rfl, b, _, 0, _, rfl, rfl, hb, atI_nat (j := 0) rfl, _, rfl, log_nat n1, _, rfl, b, _, 1, _, rfl, rfl, hb, atI_nat (j := 1) rfl, _, rfl, log_nat n2, _, rfl, b, _, 2, _, rfl, rfl, hb, atI_nat (j := 2) rfl, _, rfl, log_nat n3, sz (show 3 ≤ 100000 by decide), fun l nl => ?_⟩
      rw [SX.num_S, SX.num_S, SX.num_S]
      have l1 := TL.numL_len (k := 31) (by decide) n1
      have l2 := TL.numL_len (k := 31) (by decide) n2
      have l3 := TL.numL_len (k := 31) (by decide) n3
      have st := same_new (o := .lst [V.str (S (TL.numL m1)), .str (S (TL.numL m2)), .str (S (TL.numL m3))]) nl
      refine ⟨_, l, ([m1, m2, m3].map TL.numL).map S, rfl, rfl, .inl (sqL upd_same), ?_, ?_⟩
      · rw [SX.lens, List.length_map, List.length_map]
        show ((TL.numL m1).length + ((TL.numL m2).length + ((TL.numL m3).length + 0))) + 3 * 1 ≤ _
        omega
      · rw [one_sp, SX.join_S]
        refine ⟨_, st _ _ e, szl ?_, same_mut (s.trans st) nD, ?_⟩
        · rw [List.length_map, List.length_map, List.length_map, List.length_take]
          omega
        · rw [upd_same, List.take_add_one, hr, List.map_append, List.map_append, List.map_append]
          rfl
    have e2 : rs.take xs.length = rs := List.take_of_length_le (by rw [hR2.n]; exact Nat.le_refl _)
    rw [e2] at e
    have h2 := sum_len (l := rs.map rowL) (k := 100) fun p hp => by
      obtain ⟨r, hr, rfl⟩ := List.mem_map.mp hp
      exact rowL_len (hg.2.2 r hr)
    refine ⟨_, D, (rs.map rowL).map S, rfl, rfl, .inl (sqL e), ?_, ?_⟩
    · rw [SX.lens, List.length_map, List.length_map]
      rw [List.length_map] at h2
      show ((rs.map rowL).map List.length).sum + rs.length * 1 ≤ _
      omega
    rw [one_nl, SX.join_S]
    refine ⟨rfl, _, rfl, ?_⟩
    rw [show (!decide (V.str (S (writ rs)) = V.str (S (TL.joinL [10] (rs.map rowL))))) = false by rw [decide_eq_true (show V.str (S (writ rs)) = V.str (S (TL.joinL [10] (rs.map rowL))) from rfl)]; rfl]
    refine iteF ?_
    have s13 := s12.trans s3
    have hR3 := hR2.same s3
    generalize hw : writ rs = w at *
    have rw0 : readN w = some rs := by
      rw [← hw]
      exact read_writ hg
    have w128 : ∀ c ∈ w, c < 128 := by
      rw [← hw]
      exact writ_ascii
    -- read
    refine call_var rfl (read_ok rw0 (by omega) fun H4 F fx s4 nF eF hF => ?_)
    refine ⟨_, rfl, isi_lst (.inl hF.dp) ⟨_, rfl, iteF ⟨_, rfl, _, rfl, rowsD rs, rowsD rs, hF.dp, (hR3.same s4).dp, lv_shaped (lv_rows _) (by decide), lv_shaped (lv_rows _) (by decide), ?_⟩⟩⟩
    rw [lv_refl (lv_rows _)]
    refine ⟨_, rfl, iteF ?_⟩
    refine ⟨.ref F, rfl, .inl ⟨rfl, _, sqL eF⟩, sz (show 3 ≤ 100000 by decide), fun t nt => ?_⟩
    have st := same_new (o := .tup [V.int 1, .int 0, .int 0]) nt
    have fn := hF.n
    refine ⟨F, fx, _, rfl, rfl, st _ _ eF, szl (by omega), ?_⟩
    have s5 := s13.trans (same_mut (o := .lst (fx ++ [V.ref t])) (s4.trans st) nF)
    have hR5 := hR3.same (same_mut (o := .lst (fx ++ [V.ref t])) (s4.trans st) nF)
    generalize upd (upd H4 t (.tup [V.int 1, .int 0, .int 0])) F (.lst (fx ++ [V.ref t])) = H5 at *
    have hT5 := hT.ext s5
    refine ⟨_, rfl, a, ns, rfl, same_seq s5 hS, 10, 40, rfl, rfl, ⟨by decide, by decide, by decide⟩, _, _, rfl, rfl, (show (0 : Int) < 10 ^ 40 by decide), _, 68, rfl, by decide, by decide, ?_⟩
    have hNn := mixed_nn (ns.sum % 10 ^ (40 : Int).toNat) 68
    generalize hnum : mixed (ns.sum % 10 ^ (40 : Int).toNat) 68 = num at *
    -- four turns
    refine ⟨4, rfl, by decide, by decide, for_range (lo := 0) (n := 4) (fun i σ H'' => ∃ (x5 x6 x7 : Option V), σ = [some (V.ref a), some (V.ref p), some (V.str (S w)), some (V.ref F), some (V.int num), x5, x6, x7, none, none] ∧ ExtN H5 H'' ∧ Tabs (tabs1 K) H'')
      ⟨none, none, none, rfl, ExtN.refl _, hT5⟩ (fun i σ H'' hi ⟨x5, x6, x7, hσ, xA, hTA⟩ => ?_) (fun σ H'' ⟨x5, x6, x7, hσ, xA, hTA⟩ => ?_)⟩
    · subst hσ
      refine ⟨_, rfl, _, rfl, _, rfl, 72, 0 + (i : Int), rfl, rfl, num, 72 + (0 + (i : Int)), rfl, by omega, by omega, ?_⟩
      refine ⟨w, _, rfl, by omega, w128, fun b hb b128 => ?_⟩
      have bl : b.length ≤ 10000 := by omega
      refine ⟨_, rfl, b, rfl, bl, b128, fun e H6 s6 => ?_, fun rs2 e g2 H6 p2 xs2 s6 np2 ep2 hR6 => ?_⟩
      · refine ⟨_, rfl, rfl, _, rfl, iteT ?_⟩
        refine lam_word (hTA.ext s6) fun Ha y hTa E2 Q2 hE2 hQ2 => call_var rfl (read_bad e bl fun Hb sb => hE2 "BadText" (by decide) _ fun Hc pc sc nc ec => ⟨sz (show 1 ≤ 100000 by decide), fun l nl => ?_⟩)
        rw [show wordOf "BadText" = "text" by decide +kernel] at ec
        have sl := same_new (o := .lst [V.str "text"]) nl
        refine word_ne (c := "text") (sl _ _ ec) upd_same (by decide +kernel) (by decide +kernel) ⟨_, rfl, iteF ⟨_, _, _, rfl, ?_, ?_⟩⟩
        · exact (xA.trans (ext_of s6)).trans (y.trans (ext_of ((sb.trans sc).trans sl)))
        · exact ((hTa.ext sb).ext sc).ext sl
      · refine ⟨_, rfl, rfl, _, rfl, ?_⟩
        rw [decide_eq_false (show ¬ V.ref p2 = V.non from fun z => by cases z)]
        refine iteF (call_var rfl (read_ok e bl fun H7 p3 xs3 s7 np3 ep3 hR7 => ⟨_, rfl, rowsD rs2, rowsD rs2, hR7.dp, (hR6.same s7).dp, lv_shaped (lv_rows _) (by decide), lv_shaped (lv_rows _) (by decide), ?_⟩))
        rw [lv_refl (lv_rows _)]
        exact ⟨_, rfl, iteF ⟨_, _, _, rfl, xA.trans (ext_of (s6.trans s7)), hTA.ext (s6.trans s7)⟩⟩
    subst hσ
    have hRA := hR5.ext xA
    refine ⟨_, rfl, _, rfl, sz (show 1 ≤ 100000 by decide), fun t1 m1 => ?_⟩
    have u1 := same_new (o := .tup [V.str (S w)]) m1
    refine fun t2 m2 => ?_
    have u2 := same_new (o := .dK []) m2
    refine ⟨sz (show 7 ≤ 100000 by decide), fun l nl => ?_⟩
    have u3 := same_new (o := .lst [V.non, .int 5, .bl true, .ref p, .ref t1, .ref t2, .str ""]) nl
    refine ⟨_, rfl, _, 7, rfl, rfl, (show (0 : Int) < 7 by decide), menu upd_same rfl (by decide) fun v hv => ?_⟩
    have sA := u1.trans (u2.trans u3)
    have hRB := hRA.same sA
    have odd : ∀ (H6 : Hp) (E2 : XK) (Q2 : VK), ExtN (upd (upd (upd H'' t1 (.tup [V.str (S w)])) t2 (.dK [])) l (.lst [V.non, .int 5, .bl true, .ref p, .ref t1, .ref t2, .str ""])) H6 → (∀ H', Same H6 H' → E2 (.ref (He.ga K "BadText")) none H') → sp_read K [v] H6 Q2 E2 := by
      intro H6 E2 Q2 y hE
      simp only [List.mem_cons, List.not_mem_nil, or_false] at hv
      rcases hv with rfl | rfl | rfl | rfl | rfl | rfl | rfl
      · exact read_odd (d := .none) (.inl .non) rfl hE
      · exact read_odd (d := .int 5) (.inl (.int _)) rfl hE
      · exact read_odd (d := .bool true) (.inl (.bl _)) rfl hE
      · exact read_odd (d := rowsD rs) (.inl (hRB.ext y).dp) rfl hE
      · exact read_odd (d := .tuple [.str (S w)]) (dz_ext y (.inl (.tup (sqT ((u2.trans u3) _ _ upd_same)) (.cons (.str _) .nil)))) rfl hE
      · exact read_odd (d := .dict []) (dz_ext y (.inr ⟨rfl, _, rfl, u3 _ _ upd_same⟩)) rfl hE
      · exact read_bad (l := []) (by decide +kernel) (by decide) hE
    refine lam_word (hTA.ext sA) fun Ha y hTa E2 Q2 hE2 hQ2 => call_var rfl (odd _ _ _ y fun Hb sb => hE2 "BadText" (by decide) _ fun Hc pc sc nc ec => ⟨sz (show 1 ≤ 100000 by decide), fun l2 nl2 => ?_⟩)
    rw [show wordOf "BadText" = "text" by decide +kernel] at ec
    have sl := same_new (o := .lst [V.str "text"]) nl2
    refine word_is (c := "text") (sl _ _ ec) upd_same (by decide +kernel) (by decide +kernel) ⟨_, rfl, iteT ?_⟩
    have xC := (ext_of sA).trans (y.trans (ext_of ((sb.trans sc).trans sl)))
    refine call_var rfl (read_ok rw0 (by omega) fun H7 p3 xs3 s7 np3 ep3 hR7 => ⟨_, rfl, rowsD rs, rowsD rs, hR7.dp, ((hRA.ext xC).same s7).dp, lv_shaped (lv_rows _) (by decide), lv_shaped (lv_rows _) (by decide), ?_⟩)
    rw [lv_refl (lv_rows _)]
    exact q _
end
end SS

namespace SS
open PySem PySem.Spec PyProof.Rows L2 LamX
def d_is_whole : He.DefD := ⟨("is_whole", none), "is_whole", "is_whole", defArgs s_is_whole, defBody s_is_whole, defScope s_is_whole, [], []⟩
def d__law_mixed : He.DefD := ⟨("_law_mixed", none), "_law_mixed", "_law_mixed", defArgs s__law_mixed, defBody s__law_mixed, defScope s__law_mixed, [], []⟩
def d_is_list : He.DefD := ⟨("is_list", none), "is_list", "is_list", defArgs s_is_list, defBody s_is_list, defScope s_is_list, [], []⟩
def d_are_lists : He.DefD := ⟨("are_lists", none), "are_lists", "are_lists", defArgs s_are_lists, defBody s_are_lists, defScope s_are_lists, [], []⟩
def d_need_lists : He.DefD := ⟨("need_lists", none), "need_lists", "need_lists", defArgs s_need_lists, defBody s_need_lists, defScope s_need_lists, [], []⟩
def d__law_cell_at : He.DefD := ⟨("_law_cell_at", none), "_law_cell_at", "_law_cell_at", defArgs s__law_cell_at, defBody s__law_cell_at, defScope s__law_cell_at, [], []⟩
def d__law_votes : He.DefD := ⟨("_law_votes", none), "_law_votes", "_law_votes", defArgs s__law_votes, defBody s__law_votes, defScope s__law_votes, [], []⟩
def d__law_lists : He.DefD := ⟨("_law_lists", none), "_law_lists", "_law_lists", defArgs s__law_lists, defBody s__law_lists, defScope s__law_lists, [], []⟩
def d__law_seats : He.DefD := ⟨("_law_seats", none), "_law_seats", "_law_seats", defArgs s__law_seats, defBody s__law_seats, defScope s__law_seats, [], []⟩
def d_written : He.DefD := ⟨("written", none), "written", "written", defArgs s_written, defBody s_written, defScope s_written, [], []⟩
def d_number_of : He.DefD := ⟨("number_of", none), "number_of", "number_of", defArgs s_number_of, defBody s_number_of, defScope s_number_of, [], []⟩
def d_read : He.DefD := ⟨("read", none), "read", "read", defArgs s_read, defBody s_read, defScope s_read, [], []⟩
def d__law_number : He.DefD := ⟨("_law_number", none), "_law_number", "_law_number", defArgs s__law_number, defBody s__law_number, defScope s__law_number, [], []⟩
def d__law_read : He.DefD := ⟨("_law_read", none), "_law_read", "_law_read", defArgs s__law_read, defBody s__law_read, defScope s__law_read, [], []⟩
def d__law_bent : He.DefD := ⟨("_law_bent", none), "_law_bent", "_law_bent", defArgs s__law_bent, defBody s__law_bent, defScope s__law_bent, [], []⟩
def d__law_word : He.DefD := ⟨("_law_word", none), "_law_word", "_law_word", defArgs s__law_word, defBody s__law_word, defScope s__law_word, [], []⟩
def d_law : He.DefD := ⟨("law", none), "law", "law", defArgs s_law, defBody s_law, defScope s_law, [], []⟩
def fnL : List He.DefD := [d_is_whole, d__law_mixed, d_is_list, d_are_lists, d_need_lists, d__law_cell_at, d__law_votes, d__law_lists, d__law_seats, d_written, d_number_of, d_read, d__law_number, d__law_read, d__law_bent, d__law_word, d_law]
def faL : List He.Fa := (bzNames.map He.Fa.free) ++ [.glo "is_whole", .glo "_law_mixed", .glo "is_list", .glo "are_lists", .glo "need_lists", .glo "_law_cell_at", .glo "_law_votes", .glo "_law_lists", .glo "_law_seats", .glo "written", .glo "number_of", .glo "read", .glo "_law_number", .glo "_law_read", .glo "_law_bent", .glo "_law_word", .glo "law", .int "MOST_VOTES" (10 ^ 30), .int "MOST_SEATS" 200, .int "MOST_LISTS" 12, .int "MOST_FIGURES" 31, .glo "ShareError"]
def exL (K : PySem.W.Frag) : Bool := ((exFB K "BadLists") && ((exFB K "BadText") && ((exAllB K) && ((exNames.all fun x => He.eqO (PySem.W.nsIn K mainGlobals x) (some (some (.ref (He.ga K x)))))))))
def tfL : List He.Defn := [("law", none)]
abbrev RL : PySem.W.OpenRow := PySem.W.OpenLaw.row PySem.Challenge.rw_seatshares_k15_lists_written
abbrev hkL : PySem.W.Hook := He.hookX 5 faL fnL [] tfL exL
def obL (s : PySem.W.SharedT) : He.AlX := He.obsX 5 faL fnL [] tfL exL (HandSHeadRun.getT s)
theorem ob_eq (s : PySem.W.SharedT) : obL s = hkL.obs s.abs := He.obsX_eq (HandSHeadRun.getT_eq s)
def looseL : List Str := (["ShareError", "BadWay", "BadCount", "BadLists", "BadSeats", "BadPrice", "BadPlace", "BadGroups", "Tied", "BadText", "MOST_SEATS", "is_whole", "MOST_LISTS", "MOST_VOTES", "is_list", "are_lists", "need_lists", "MOST_FIGURES", "written", "number_of", "read", "_law_cell_at", "_law_mixed", "_law_votes", "_law_lists", "_law_seats", "_law_word", "_law_number", "_law_read", "_law_bent"] : List Str)
theorem runL (w : World) : HandSHeadRun.RunEq RL (PySem.W.view RL.prog [35]) hkL obL 40000 looseL w := by
  intro os
  kernel_rfl
theorem factsL {P : Program} {w : World} {K : PySem.W.Frag} {h : Heap} {mg : Str → Option Value} {fa : Addr} (X : K.In h) (G : h.Ns mainGlobals mg) (hfa : mg ("law" : Str) = some (.ref fa)) (c : He.SaysX faL fnL [] tfL exL w h K) :
    ∃ fd : FuncData, (∀ (s : Shared) (v : Value), BindsTo s fd ⟨[v], []⟩ [("_law_script", v)]) ∧ ∀ base : Heap, K.In base → base.Ns mainGlobals mg → (∀ p ∈ tfL.map (He.cT K), TabB base mg p.1 p.2) → FnOk P w K mg base (L2.CX P w) 7 fa fd ["_law_script"] (sp_law K) := by
  have cd := c.t.d
  have Z : BZ mg := bz_of fun x hx => He.free_ok X G (cd.facts (f := .free x) (List.mem_append_left _ (List.mem_map.mpr ⟨x, hx, rfl⟩)))
  have D_is_whole : DefAt K mg "is_whole" s_is_whole := ⟨He.glo_ok X G (cd.fact 17 (f := .glo "is_whole") rfl), cd.def_ 0 (d := d_is_whole) rfl⟩
  have D__law_mixed : DefAt K mg "_law_mixed" s__law_mixed := ⟨He.glo_ok X G (cd.fact 18 (f := .glo "_law_mixed") rfl), cd.def_ 1 (d := d__law_mixed) rfl⟩
  have D_is_list : DefAt K mg "is_list" s_is_list := ⟨He.glo_ok X G (cd.fact 19 (f := .glo "is_list") rfl), cd.def_ 2 (d := d_is_list) rfl⟩
  have D_are_lists : DefAt K mg "are_lists" s_are_lists := ⟨He.glo_ok X G (cd.fact 20 (f := .glo "are_lists") rfl), cd.def_ 3 (d := d_are_lists) rfl⟩
  have D_need_lists : DefAt K mg "need_lists" s_need_lists := ⟨He.glo_ok X G (cd.fact 21 (f := .glo "need_lists") rfl), cd.def_ 4 (d := d_need_lists) rfl⟩
  have D__law_cell_at : DefAt K mg "_law_cell_at" s__law_cell_at := ⟨He.glo_ok X G (cd.fact 22 (f := .glo "_law_cell_at") rfl), cd.def_ 5 (d := d__law_cell_at) rfl⟩
  have D__law_votes : DefAt K mg "_law_votes" s__law_votes := ⟨He.glo_ok X G (cd.fact 23 (f := .glo "_law_votes") rfl), cd.def_ 6 (d := d__law_votes) rfl⟩
  have D__law_lists : DefAt K mg "_law_lists" s__law_lists := ⟨He.glo_ok X G (cd.fact 24 (f := .glo "_law_lists") rfl), cd.def_ 7 (d := d__law_lists) rfl⟩
  have D__law_seats : DefAt K mg "_law_seats" s__law_seats := ⟨He.glo_ok X G (cd.fact 25 (f := .glo "_law_seats") rfl), cd.def_ 8 (d := d__law_seats) rfl⟩
  have D_written : DefAt K mg "written" s_written := ⟨He.glo_ok X G (cd.fact 26 (f := .glo "written") rfl), cd.def_ 9 (d := d_written) rfl⟩
  have D_number_of : DefAt K mg "number_of" s_number_of := ⟨He.glo_ok X G (cd.fact 27 (f := .glo "number_of") rfl), cd.def_ 10 (d := d_number_of) rfl⟩
  have D_read : DefAt K mg "read" s_read := ⟨He.glo_ok X G (cd.fact 28 (f := .glo "read") rfl), cd.def_ 11 (d := d_read) rfl⟩
  have D__law_number : DefAt K mg "_law_number" s__law_number := ⟨He.glo_ok X G (cd.fact 29 (f := .glo "_law_number") rfl), cd.def_ 12 (d := d__law_number) rfl⟩
  have D__law_read : DefAt K mg "_law_read" s__law_read := ⟨He.glo_ok X G (cd.fact 30 (f := .glo "_law_read") rfl), cd.def_ 13 (d := d__law_read) rfl⟩
  have D__law_bent : DefAt K mg "_law_bent" s__law_bent := ⟨He.glo_ok X G (cd.fact 31 (f := .glo "_law_bent") rfl), cd.def_ 14 (d := d__law_bent) rfl⟩
  have D__law_word : DefAt K mg "_law_word" s__law_word := ⟨He.glo_ok X G (cd.fact 32 (f := .glo "_law_word") rfl), cd.def_ 15 (d := d__law_word) rfl⟩
  have D_law : DefAt K mg "law" s_law := ⟨He.glo_ok X G (cd.fact 33 (f := .glo "law") rfl), cd.def_ 16 (d := d_law) rfl⟩
  have G_MOST_VOTES : ∃ t, mg "MOST_VOTES" = some (.int (10 ^ 30) t) := He.int_ok X G (cd.fact 34 (f := .int "MOST_VOTES" (10 ^ 30)) rfl)
  have G_MOST_SEATS : ∃ t, mg "MOST_SEATS" = some (.int 200 t) := He.int_ok X G (cd.fact 35 (f := .int "MOST_SEATS" 200) rfl)
  have G_MOST_LISTS : ∃ t, mg "MOST_LISTS" = some (.int 12 t) := He.int_ok X G (cd.fact 36 (f := .int "MOST_LISTS" 12) rfl)
  have G_MOST_FIGURES : ∃ t, mg "MOST_FIGURES" = some (.int 31 t) := He.int_ok X G (cd.fact 37 (f := .int "MOST_FIGURES" 31) rfl)
  have gS : mg "ShareError" = some (.ref (He.ga K "ShareError")) := He.glo_ok X G (cd.fact 38 (f := .glo "ShareError") rfl)
  have m0 := c.more
  unfold exL at m0
  obtain ⟨x0, m0⟩ := He.ba m0
  obtain ⟨x1, m0⟩ := He.ba m0
  obtain ⟨x2, m0⟩ := He.ba m0
  have x3 := m0
  have E_BadLists : ExF K mg "BadLists" := exF_of X G x0
  have E_BadText : ExF K mg "BadText" := exF_of X G x1
  have EA : ExAll K := exAll_of x2
  have EG : ∀ x ∈ exNames, mg x = some (.ref (He.ga K x)) := fun x hx => PySem.W.mg_of X G (He.eqO_ok (List.all_eq_true.mp x3 x hx))
  obtain ⟨fdl, FD⟩ := D_law.2
  have hfl : fa = He.ga K "law" := Value.ref.inj (Option.some.inj (hfa.symm.trans D_law.1))
  obtain ⟨oc, od, dV, kV, doc, pm, an, cdv, ct, osl, efd, lk, _⟩ := id FD.ex
  refine ⟨fdl, fun s v => FD.bindsA (ps := ["_law_script"]) (fun _ _ _ _ _ _ us hl => match us, hl with | [_], _ => rfl) s [v] rfl, fun base KB GB TB => ?_⟩
  have TB_law : TabB base mg (He.codeOf K ("law", none)) (tbl K "law") := TB _ (List.mem_map.mpr ⟨("law", none), by simp [tfL], rfl⟩)
  have W : WordOk P w K mg base := word_ok Z EA EG gS D__law_word
  have O_is_whole := ok_is_whole (P := P) (w := w) (base := base) Z D_is_whole
  have O__law_mixed := ok__law_mixed (P := P) (w := w) (base := base) Z D__law_mixed
  have O_is_list := ok_is_list (P := P) (w := w) (base := base) Z O_is_whole G_MOST_VOTES G_MOST_SEATS D_is_list
  have O_are_lists := ok_are_lists (P := P) (w := w) (base := base) Z O_is_list G_MOST_LISTS D_are_lists
  have O_need_lists := ok_need_lists (P := P) (w := w) (base := base) Z O_are_lists E_BadLists D_need_lists
  have O__law_cell_at := ok__law_cell_at (P := P) (w := w) (base := base) Z D__law_cell_at
  have O__law_votes := ok__law_votes (P := P) (w := w) (base := base) Z O__law_mixed D__law_votes
  have O__law_lists := ok__law_lists (P := P) (w := w) (base := base) Z O__law_mixed O__law_cell_at O__law_votes D__law_lists
  have O__law_seats := ok__law_seats (P := P) (w := w) (base := base) Z O__law_mixed D__law_seats
  have O_written := ok_written (P := P) (w := w) (base := base) Z O_need_lists D_written
  have O_number_of := ok_number_of (P := P) (w := w) (base := base) Z E_BadText G_MOST_FIGURES D_number_of
  have O_read := ok_read (P := P) (w := w) (base := base) Z O_number_of O_are_lists E_BadText D_read
  have O__law_number := ok__law_number (P := P) (w := w) (base := base) Z D__law_number
  have O__law_read := ok__law_read (P := P) (w := w) (base := base) Z O__law_number D__law_read
  have O__law_bent := ok__law_bent (P := P) (w := w) (base := base) Z D__law_bent
  have O_law := ok_law (P := P) (w := w) (base := base) Z O__law_lists O_written O_read O__law_mixed O__law_bent O__law_read W TB_law D_law
  refine OkF.law O_law hfa (oc := oc) (od := od) (osl := osl) ?_
  rw [hfl]
  exact lk
end SS
open PySem PySem.W PySem.Calls PyProof.Rows
theorem PySem.Challenge.cw_seatshares_k15_lists_written_holds : PySem.Challenge.rw_seatshares_k15_lists_written.Holds := by
  w_on; o_law
  refine HandSHeadRun.head_any (r := OpenLaw.row PySem.Challenge.rw_seatshares_k15_lists_written) (q := view (OpenLaw.row PySem.Challenge.rw_seatshares_k15_lists_written).prog [35]) (H := SS.hkL) (ob := SS.obL) (M := 40000) (loose := SS.looseL)
    (d := HandSHeadRun.topDef (OpenLaw.row PySem.Challenge.rw_seatshares_k15_lists_written).prog 35) (kwd := []) SS.ob_eq
    (by kernel_rfl) (fun s => by kernel_rfl) SS.runL (by kernel_rfl) (by kernel_rfl) (by kernel_rfl) (by rfl) (by first | assumption | decide +kernel) (by decide +kernel) ⟨rfl, rfl, rfl, rfl, rfl, by decide +kernel⟩ ?hw ?hc
  case hw => w_witness2
  case hc =>
    refine LamX.walk_ofTsE (l := PySem.Challenge.rw_seatshares_k15_lists_written) (n := 63) (k := 7) (x := "_law_script") (CX := fun w => L2.CX (PySem.Challenge.rw_seatshares_k15_lists_written).prog w) rfl (by decide) (by kernel_rfl) ⟨rfl, by decide, by decide⟩ ?F ?C
    case C =>
      intro w H s e s' z
      obtain ⟨_, _, _, _, _, _, _, _, _, _, _, _, z⟩ := z
      exact z.elim
    case F =>
      intro w mg fa h Y G hmg0
      obtain ⟨K, KX, c⟩ := Y
      have hmg : mg ("law" : PySem.Str) = some (.ref fa) := by
        have e : (HandSHeadRun.topDef (OpenLaw.row PySem.Challenge.rw_seatshares_k15_lists_written).prog 35).name = ("law" : PySem.Str) := by kernel_rfl
        rw [← e]
        exact hmg0
      obtain ⟨fd, hb, hF⟩ := SS.factsL (P := (PySem.Challenge.rw_seatshares_k15_lists_written).prog) (w := w) KX G hmg c
      refine ⟨K, KX, fd, SS.tfL.map (He.cT K), SS.sp_law K, fun p hp => ?_, fun p hp => ?_, fun p hp => ?_, hb, fun H a ns hl hbits hT hS => ?_, hF⟩
      · obtain ⟨d, hd, rfl⟩ := List.mem_map.mp hp
        exact c.empty d hd
      · obtain ⟨d, hd, rfl⟩ := List.mem_map.mp hp
        exact c.out d hd
      · obtain ⟨d, hd, rfl⟩ := List.mem_map.mp hp
        exact PySem.W.codeHd_of_K KX (c.hd d hd)
      · refine ⟨a, ns, rfl, hS, hl, ?_, fun _ => rfl⟩
        intro p hp
        rw [List.mem_singleton.mp hp]
        exact LamX.TabS.nil (hT _ (List.mem_map.mpr ⟨("law", none), by simp [SS.tfL], rfl⟩))


