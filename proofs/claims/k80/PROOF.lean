import PyProof.Rows.All
import Wide.All
import OpenK.AllK
import Wide.FinOn
import HandS.ForMost
import HandS.Exc
import HandS.TryOnly
import HandS.ExcOwn
import HandS.ExcIs
import HandS.ExcValue
import HandS.WordsExc
import HandS.Lambda
import HandS.IsInst
import HandS.Evl
import HandS.Deep
import HandS.Wide
import HandS.Star
import HandS.RaiseMore
import HandS.Defaults
import HandS.Conv
import HandS.HeadHook4
import HandS.HeadWalk
import HandS.NestedK
import HandS.TupSets
import HandS.Head0
import HandS.Head1
import HandS.Head2
import HandS.HeadEnd
import HandS.HeadHook1
import HandS.HeadHook2
import KE.KStateDown
import PySem.Challenge.RW_housekept_k80_days_of_all_years
set_option Elab.async false
set_option linter.all false
set_option maxRecDepth 100000
set_option maxHeartbeats 8000000
/-! part LkExc -/
/-! Lk, part 1: what the laws' texts want beyond the hand layer: calls by keywords alone, an exception caught and kept, isinstance of it, a def that calls a lambda and hands back what it raised. -/
namespace Lk
open PySem PySem.Spec PyProof.Rows L2
section
variable {X : Cx} {CX : CXT} {k : Nat} {f : Addr} {fd : FuncData} {ps ks : List Str} {sp : Sp} {E : XK} {x : Str} {p pos : Pos} {kws : List Keyword} {tk : TA}
  {g : List Value → List Value → List Value} {gV : List V → List V → List V}
/-- f(k = v, ..), nothing by position -/
theorem pe_kwOnly (F : FnOk X.prog X.w X.K X.mg X.base CX k f fd ps sp) (hr : Room k X.A) (hg : Gl X x) (hm : X.mg x = some (.ref f)) (hk : PySem.W.keepIn X.K (.ref f) = true)
    (hb : KBinds X.K fd ps ks g gV) (hx : Passes CX X E) (hkw : PK X kws tk)
    (hall : (backToKw pos (keywordEach kws X.env)).all (·.1.isSome) = true := by rfl)
    (hks : (backToKw pos (keywordEach kws X.env)).filterMap (·.1) = ks := by rfl)
    (hdb : (x == ("__debug__" : Str)) = false := by decide)
    (hpl : ((backTo pos (starEach [] X.env)).any (·.1) || (backToKw pos (keywordEach kws X.env)).any (·.1.isNone)) = false := by rfl) :
    PE X (.Call (.Name x p) [] kws pos) (tCallK sp gV E tNil tk) := by
  constructor
  intro pins s σ H Q I h
  apply wpAny_Call_Name_kw
  apply ld_glob I hg hm _ hdb
  apply PySem.W.callWith_KW0 (h₀ := X.base) I.ok.mod.kin hk hall _ hpl
  apply thn (hkw.run pos pins s σ H _ I h)
  rintro ws s2 ⟨zs, H2, I2, rz, q2⟩
  constructor
  · exact I2.kIn
  · rw [hks]
    exact run_fnk (us := []) (vs := []) F hr hb hx I2 .nil rz q2
end
/-- an exception that was caught, its class, its own dict -/
def ExV (cls : Value) (d : Option Addr) (a : Addr) : HO :=
  .ext fun h => ∃ (oe : Obj) (vs : Array Value), h.get? a = some oe ∧ Zc cls d oe ∧ oe.data = .fields vs
theorem exv_ok {P : Program} {w : World} {H : Hp} {h : Heap} {a : Addr} {cls : Value} {d : Option Addr} {oe : Obj} {vs : Array Value}
    (e : h.get? a = some oe) (z : Zc cls d oe) (dt : oe.data = .fields vs) : ObjOk P w H h a (ExV cls d a) := by
  refine ⟨⟨oe, vs, e, z, dt⟩, ⟨oe, e⟩, ?_⟩
  rintro h1 h2 ⟨o, v, q, r1, r2⟩ kp
  exact ⟨o, v, kp o q, r1, r2⟩
section
variable {X : Cx} {pins : List (Addr × Obj)} {σ : L2.St} {H : Hp} {s : Shared}
/-- an object of ours that nobody tracks, new since the entry, is tracked from now on -/
theorem inv_track {a : Addr} {oe : Obj} {vs : Array Value} {cls : Value} {d : Option Addr} (I : Inv X ((a, oe) :: pins) σ H s)
    (n0 : X.s_0.heap.get? a = none) (np : ∀ p ∈ X.pn ++ pins, p.1 ≠ a) (dt : oe.data = .fields vs) (z : Zc cls d oe) :
    Inv X pins σ (upd H a (ExV cls d a)) s := by
  obtain ⟨ha, na, nL, nF, _⟩ := I.pin (a, oe) (List.mem_append_right _ List.mem_cons_self)
  have ne0 : ∀ b o, X.s_0.heap.get? b = some o → b ≠ a := by
    intro b o e q
    rw [q, n0] at e
    cases e
  have neS : ∀ b u, H b = some u → b ≠ a := by
    intro b u e q
    rw [q, na] at e
    cases e
  have neC : ∀ y c, X.env.cells.lookup y = some c → c ≠ a := by
    intro y c e q
    obtain ⟨v, o, ho, hd⟩ := I.cell y c e
    rw [q, ha] at ho
    cases ho
    rw [dt] at hd
    cases hd
  have ok : HOk X.prog X.w (upd H a (ExV cls d a)) s.heap := I.hok.laidN (fun _ _ q => q) na (exv_ok ha z dt)
  constructor
  · exact I.ok
  · exact I.os
  · exact I.bare
  · constructor
    · exact I.base.keep
    · exact I.base.slot
    · intro b o e n hx
      rw [upd_ne (ne0 b o e)]
      exact I.base.free b o e n hx
    · exact I.base.there
    · intro b xs e
      have q := I.base.tups b xs e
      rw [upd_ne (neS b _ q)]
      exact q
    · intro b o u e
      have q := I.base.frzs b o u e
      rw [upd_ne (neS b _ q)]
      exact q
    · intro b ps e
      obtain ⟨m, q⟩ := I.base.tbls b ps e
      exact ⟨m, by rw [upd_ne (neS b _ q)]; exact q⟩
  · exact I.loc
  · exact I.cell
  · rw [upd_ne (Ne.symm nL)]
    exact I.free
  · intro y c e
    rw [upd_ne (neC y c e)]
    exact I.freeC y c e
  · intro p hp
    obtain ⟨e, n, ne, nf, dd⟩ := I.pin p (by
      rcases List.mem_append.mp hp with q | q
      · exact List.mem_append_left _ q
      · exact List.mem_append_right _ (List.mem_cons_of_mem _ q))
    exact ⟨e, by rw [upd_ne (np p hp)]; exact n, ne, nf, dd⟩
  · exact ok
  · exact I.len
theorem unsuite_pin {a : Addr} {oe : Obj} {pn' : List (Addr × Obj)} (I : Inv (X.suite a ((a, oe) :: (X.pn ++ pins))) pn' σ H s) (ok : X.Ok) : Inv X ((a, oe) :: pins) σ H s := by
  refine ⟨ok, I.os, I.bare, I.base, I.loc, I.cell, I.free, I.freeC, ?_, I.hok, I.len⟩
  intro p hp
  apply I.pin p
  apply List.mem_append_left
  show p ∈ (a, oe) :: (X.pn ++ pins)
  rcases List.mem_append.mp hp with q | q
  · exact List.mem_cons_of_mem _ (List.mem_append_left _ q)
  · rcases List.mem_cons.mp q with q | q
    · rw [q]
      exact List.mem_cons_self
    · exact List.mem_cons_of_mem _ (List.mem_append_right _ q)
end
/-- what «except x as n: y = n» wishes of an exception of the body: slot i is n's, slot j is y's -/
def wKeep (K : PySem.W.Frag) (c : Value) (i j : Nat) (Wout : WX) (D : Ends) : WX := fun cls d σ H =>
  ∃ b, PySem.W.exmOne K cls c = some b ∧
    (b = true → ∀ a, H a = none → D.nx (((σ.set i (some (.ref a))).set j (some (.ref a))).set i none) (upd H a (ExV cls d a))) ∧ (b = false → Wout cls d σ H)
section
variable {X : Cx} {x n y : Str} {c : Value} {i j : Nat} {body : List Stmt} {np pos pos' yp vp sp : Pos} {tb : WX → TS} {Wout : WX}
/-- try: body / except x as n: y = n -/
theorem ps_try_keep (hs : X.stack = X.env :: X.outer) (hf : X.env.frame = some X.env.locals) (hex : X.ex = []) (hN : X.N.Nodup) (hi : X.N[i]? = some n) (hln : X.env.kindOf n = some .local)
    (hj : X.N[j]? = some y) (hy : X.env.scope.names.lookup y = some .local) (hc : Names X x c) (tk : Takes X Wout)
    (hb : ∀ (W : WX) (pn : List (Addr × Obj)) (xe : Value → Shared → Prop), Takes (X.tr pn xe) W → PassesOwn (model X.prog X.w) X.A X.env xe → PSs (X.tr pn xe) body (tb W))
    (hdb : (n == ("__debug__" : Str)) = false := by decide) (hcd : (n == ("__classdict__" : Str)) = false := by decide) :
    PS X (.Try body [.ExceptHandler (some (.Name x np)) (some n) [.Assign [.Name y yp] (.Name n vp) sp] pos'] [] [] pos) (fun D σ H => tb (wKeep X.K c i j Wout D) D σ H) := by
  constructor
  intro pins s σ H D I h
  have ok := I.ok
  have hfr : X.A.frames = some (X.env :: X.outer) := by rw [ok.frames, hs]
  have hloc : Loc X.env.scope n := .inl hln
  refine wpAny_Try_except ?_
  refine wpAny_mono ((hb (wKeep X.K c i j Wout D) (X.pn ++ pins) (fun e s₁ => wpAny (model X.prog X.w) X.A (noteFrame e X.env) (fun _ s₂ => wpAny (model X.prog X.w) X.A (setFlight e none)
    (fun _ s₃ => wpAny (model X.prog X.w) X.A (handleBy e X.env [.ExceptHandler (some (.Name x np)) (some n) [.Assign [.Name y yp] (.Name n vp) sp] pos']) (SP X pins D) X.xe s₃) X.xe s₂) X.xe s₁)
    ?takes PassesOwn.looking).run [] s σ H D (I.toTry _) h) ?ends (fun e s1 he => he)
  case takes =>
    rintro u s' ⟨a, B, sI, pins', σ', H', cls, d, rfl, J', nb, up, sky, na, os, ag, b, hb1, hyes, hno⟩
    have J : Inv X pins σ' H' sI := J'.ofTry ok
    have sky' : Sky B (X.env :: X.outer) a (Zc cls d) X.env.locals s'.heap := by rw [← hs]; exact sky
    show wpAny (model X.prog X.w) X.A (noteFrame (.ref a) X.env) _ _ _
    refine Sky.land Zc.steady hfr hf sky' fun h3 fl3 up3 => ?_
    have J3 : Inv X pins σ' H' { s' with heap := h3 } := J.landed nb fl3.1 (up.trans up3) os ag
    obtain ⟨oe3, vs3, he3, hz3, hd3⟩ := fl3.there
    have nfr : a ∉ frs (X.env :: X.outer) := by
      intro hm
      obtain ⟨_, o', e', hnf⟩ := fl3.2.2.1.mem hm
      rw [he3] at e'
      cases e'
      exact hnf _ hd3
    have nL : a ≠ X.env.locals := by
      intro z
      apply nfr
      exact List.mem_filterMap.mpr ⟨X.env, List.mem_cons_self, by rw [hf, z]⟩
    have nF : a ∉ X.fs := by
      intro hm
      obtain ⟨e, he, q⟩ := List.mem_filterMap.mp hm
      exact nfr (List.mem_filterMap.mpr ⟨e, List.mem_cons_of_mem _ he, q⟩)
    -- it did not stand at the entry
    have nI : sI.heap.get? a = none := by
      cases q : sI.heap.get? a with
      | none => rfl
      | some o =>
        have z := nb a o q (by rw [hs]; exact nfr)
        rw [fl3.2.1] at z
        cases z
    have n0 : X.s_0.heap.get? a = none := by
      cases q : X.s_0.heap.get? a with
      | none => rfl
      | some o =>
        obtain ⟨o', z⟩ := J.base.there a o q (by rw [hex]; exact fun z => nomatch z)
        rw [nI] at z
        cases z
    have npn : ∀ p ∈ X.pn ++ pins, p.1 ≠ a := by
      intro p hp z
      obtain ⟨e, _⟩ := J.pin p hp
      rw [z, nI] at e
      cases e
    have S3 := J3.suite he3 hd3 na nL nF
    refine wpAny_handleBy_cons (codeAny_handlers_test ?_) (by intro q; cases q)
    have LT : PySem.W.Looks (model X.prog X.w) h3 (typeOf (.ref a)) cls := fun A Q E s k q => wpAny_typeOf_ref (k _ _ he3) (by rw [hz3.1]; exact q)
    have LM := PySem.W.exm_one (M := model X.prog X.w) (J3.kIn) LT hb1
    have test : ∀ {Q : Value → Shared → Prop} {E : Value → Shared → Prop}, Q c { s' with heap := h3 } →
        wpAny (model X.prog X.w) (X.A.mark (some (.ref a))) (eval (.Name x np) X.env) Q E { s' with heap := h3 } := by
      intro Q E q
      obtain ⟨hg, hdbg, hm | ⟨hm, hv, hnn⟩⟩ := hc
      · exact ld_glob (X := X.suite a ((a, oe3) :: (X.pn ++ pins))) S3 hg hm q hdbg
      · exact ld_blt (X := X.suite a ((a, oe3) :: (X.pn ++ pins))) S3 hg hm hv q hnn hdbg
    refine test (LM.here ?_)
    cases b with
    | true =>
      refine codeAny_handlers_suite_as ?_
      refine HandSPX.lands_againZ fl3 fun h4 fl4 up4 => ?_
      have J4 : Inv X pins σ' H' { s' with heap := h4 } := J.landed nb fl4.1 ((up.trans up3).trans up4) os ag
      obtain ⟨oe4, vs4, he4, hz4, hd4⟩ := fl4.there
      have S4 := J4.suite he4 hd4 na nL nF
      have hlen : i < σ'.length := by
        rw [J4.len]
        exact (List.getElem?_eq_some_iff.mp hi).1
      refine store_ok (X := X.suite a ((a, oe4) :: (X.pn ++ pins))) (v := .ref a) S4 hN hi hloc rfl (fun s5 S5 => ?_) (.inr hln)
      have hst : PSs (X.suite a ((a, oe4) :: (X.pn ++ pins))) [.Assign [.Name y yp] (.Name n vp) sp] (tAsg (tVar i) (gName j)) :=
        pss_one (ps_asg (pe_var hi (.inl hln) hdb hcd) (pg_name hN hj (.inl hy) (.inr hy)))
      refine wpAny_mono (hst.run [] s5 _ H' { nx := fun σ6 H6 => σ6 = (σ'.set i (some (.ref a))).set j (some (.ref a)) ∧ H6 = H', rt := fun _ _ => False } S5 ⟨.ref a, List.getElem?_set_self hlen, rfl, rfl⟩)
        (fun f s6 hsp => ?_) (fun _ _ z => False.elim z)
      cases f with
      | next =>
        obtain ⟨σ6, H6, S6, e6, eH⟩ := hsp
        subst e6 eH
        refine gone_ok (unsuite_pin (pins := pins) S6 ok) hN hi hln fun s7 J7 => ?_
        exact ⟨_, _, inv_track J7 n0 npn hd4 hz4, hyes rfl a na⟩
      | brk =>
        obtain ⟨σ6, H6, S6, q6⟩ := hsp
        exact False.elim q6
      | cont =>
        obtain ⟨σ6, H6, S6, q6⟩ := hsp
        exact False.elim q6
      | ret u =>
        obtain ⟨v6, σ6, H6, S6, r6, q6⟩ := hsp
        exact False.elim q6
    | false =>
      show wpAny _ X.A (handleBy (.ref a) X.env []) _ _ _
      refine wpAny_handleBy_nil ?_
      obtain ⟨k1, k2, k3, oe, vs, T, oT, ts', he, hz, hd, h1, hr⟩ := id fl3
      unfold PySem.passOn
      refine wpAny_bind (wpAny_field he hd h1 ?_)
      rw [if_neg (show ¬ ((Value.ref T == Value.none) = true) from by simp)]
      have fin : wpAny (model X.prog X.w) X.A (setFlight (.ref a) X.env.frame) (fun _ s4 => wpAny (model X.prog X.w) X.A (throw (.ref a) : Sem Flow) (SP X pins D) X.xe s4) X.xe { s' with heap := h3 } := by
        rw [hf]
        refine HandSPX.setFlight_upZ fl3 fun h4 hh4 up4 => wpAny_throw (tk _ _ ?_)
        exact ⟨a, B, sI, pins, σ', H', cls, d, rfl, J, nb, (up.trans up3).trans up4, .inr (.inr (by rw [hs]; exact hh4)), na, os, ag, hno rfl⟩
      first
        | exact wpAny_bind (wpAny_pure (wpAny_bind fin))
        | exact wpAny_bind fin
  case ends =>
    intro f s1 hsp
    cases f with
    | next =>
      obtain ⟨σ', H', J', q⟩ := hsp
      exact wpAny_execs_nil ⟨σ', H', J'.ofTry ok, q⟩
    | brk =>
      obtain ⟨σ', H', J', q⟩ := hsp
      exact ⟨σ', H', J'.ofTry ok, q⟩
    | cont =>
      obtain ⟨σ', H', J', q⟩ := hsp
      exact ⟨σ', H', J'.ofTry ok, q⟩
    | ret u =>
      obtain ⟨v, σ', H', J', r, q⟩ := hsp
      exact ⟨v, σ', H', J'.ofTry ok, r, q⟩
end
end Lk

/-! part LkCaught -/
namespace Lk
open PySem PySem.Spec PyProof.Rows L2 LamX
/-- isinstance(e, C), e an exception that was kept -/
def rIsEV (K : PySem.W.Frag) : List V → Hp → VK → Prop := fun xs H Q =>
  ∃ (a D : Addr) (c : V) (cv : Value) (b : Bool), xs = [.ref a, c] ∧ H a = some (ExV (.ref D) none a) ∧ ExcC K D ∧ ClsV c cv ∧ PySem.W.kitOne K (.ref D) cv = some b ∧ Q (.bl b) H
theorem call_isEV {X : Cx} : CallR X (.builtin "isinstance") (rIsEV X.K) := by
  intro pins s σ H xs us Q I r h
  obtain ⟨a, D, c, cv, b, rfl, ha, C, hc, e, q⟩ := h
  obtain ⟨u1, u2, rfl, r1, r2⟩ := vals2 r
  cases r1
  have ec := hc.eq r2
  subst ec
  obtain ⟨⟨⟨oc, od, oda, osl⟩, vs, ho, ⟨z1, z2⟩, hd⟩, _, _⟩ := I.hok a _ ha
  dsimp only at z1 z2 hd
  subst z1 z2 hd
  have J : PySem.W.InstAt s.heap a ⟨.ref D, none, .fields vs, osl⟩ D none := ⟨ho, rfl, rfl, trivial⟩
  refine PySem.W.kia_one (PySem.W.handS_kitx_exc C.hg C.hk C.hs C.hd C.ha C.hn C.ht C.hm) I.kIn J e (fun z => nomatch z) ?_
  intro tk
  exact ⟨.bl b, H, I.kept (t' := tk) fun _ _ z => z, rfl, q⟩
/-- what a def «found = None; try: a(); except CS as e: found = e; return found» makes of the lambda's reading -/
def TCaught (K : PySem.W.Frag) (CS : Addr) : (XK → Hp → VK → Prop) → Hp → VK → Prop := fun tl H Q =>
  tl (fun cls d H' => ∃ b, PySem.W.exmOne K cls (.ref CS) = some b ∧ (b = true → ∀ a, H' a = none → Q (.ref a) (upd H' a (ExV cls d a))) ∧ (b = false → False)) H fun _ H1 => Q .non H1
section
variable {X : Cx}
theorem caught_gives {Ng : List Str} {x a e n y q : Str} {sg : Scope} {g CS : Addr} {cdg : Value} {j : Nat} {p1 p2 p3 p4 p5 p6 p7 p8 p9 q1 q2 q3 q4 q5 : Pos}
    (hNg : Ng = [a, y, n]) (hnd : Ng.Nodup)
    (hge : sg.names.lookup e = some .globalImplicit) (hme : X.mg e = some (.ref CS)) (hde : (e == ("__debug__" : Str)) = false)
    (hy : sg.names.lookup y = some .local) (hn : sg.names.lookup n = some .local)
    (hdb : (n == ("__debug__" : Str)) = false) (hcd : (n == ("__classdict__" : Str)) = false)
    (hdb2 : (y == ("__debug__" : Str)) = false) (hcd2 : (y == ("__classdict__" : Str)) = false) :
    GivesTo X Ng x sg g cdg [.Assign [.Name y q1] (.Constant .none j q2) q3,
      .Try [.Expr (.Call (.Name a p1) [] [] p2) p3] [.ExceptHandler (some (.Name e p4)) (some n) [.Assign [.Name y p5] (.Name n p6) p7] p8] [] [] p9,
      .Return (some (.Name y q4)) q5] a q (TCaught X.K CS) := by
  intro f c' s H Q tl act hc h
  have hgl : Gl (cxOf C8.CX0 X.prog X.w X.K X.mg X.base Ng x sg g cdg X.A X.stack s H C8.E0).nox e := hge
  subst hNg
  refine ⟨_, pss_cons (ps_set (i := 1) hnd rfl (.inl hy) pe_non)
    (pss_cons (ps_try_keep (X := (cxOf C8.CX0 X.prog X.w X.K X.mg X.base [a, y, n] x sg g cdg X.A X.stack s H C8.E0).nox) (c := .ref CS) (i := 2) (j := 1)
      (tb := fun W D σ H => ∃ Ech : XK, (∀ cls d σ' H', σ'.length = 3 → Ech cls d H' → W cls d σ' H') ∧ σ[0]? = some (some (.ref f)) ∧ H c' = some (CodeO c' q) ∧ tl Ech H fun _ H1 => D.nx σ H1)
      rfl rfl rfl hnd rfl hn rfl hy ⟨hgl, hde, .inl hme⟩ L2.takes0 ?_ hdb hcd)
    (pss_one (ps_ret (pe_var (i := 1) rfl (.inl hy) hdb2 hcd2)))), ?_⟩
  · intro W pn xe tk _
    have tk' : Takes ((cxOf C8.CX0 X.prog X.w X.K X.mg X.base [a, y, n] x sg g cdg X.A X.stack s H C8.E0).tr pn xe) (fun cls d σ' H' => σ'.length = 3 → W cls d σ' H') := by
      rintro u s' ⟨a', B, sI, pins', σ', H', cls, d, eu, J', nb, up, sky, na, os, ag, w⟩
      exact tk u s' ⟨a', B, sI, pins', σ', H', cls, d, eu, J', nb, up, sky, na, os, ag, w J'.len⟩
    constructor
    intro pins s' σ H' D I h'
    obtain ⟨Ech, hW, h1, h2, h3⟩ := h'
    have hp := act (fun cls d σ' H' => σ'.length = 3 → W cls d σ' H') pn xe Ech p1 p2 tk' (fun cls d σ' H' e hl => hW cls d σ' H' hl e)
    exact (pss_one (ps_expr (pos := p3) hp)).run pins s' σ H' D I ⟨h1, h2, h3⟩
  · refine ⟨fun cls d H' => ∃ b, PySem.W.exmOne X.K cls (.ref CS) = some b ∧ (b = true → ∀ a, H' a = none → Q (.ref a) (upd H' a (ExV cls d a))) ∧ (b = false → False), ?_, rfl, hc, ?_⟩
    · rintro cls d σ' H' hl ⟨b, e1, e2, e3⟩
      refine ⟨b, e1, fun hb a' ha' => ⟨.ref a', ?_, e2 hb a' ha'⟩, fun hb => e3 hb⟩
      match σ', hl with
      | [_, _, _], _ => rfl
    · have e : (fun (_ : V) (H1 : Hp) => Q .non H1) = fun _ H1 => tRet (tVar 1) { nx := fun _ H' => Q .non H', rt := Q } ((L2.start [a, y, n] [V.ref f]).set 1 (some V.non)) H1 := by
        funext _ H1
        apply propext
        constructor
        · intro q
          exact ⟨.non, rfl, q⟩
        · rintro ⟨v, e, q⟩
          have e' : some (some V.non) = some (some v) := e
          cases e'
          exact q
      have h' : tl (fun cls d H' => ∃ b, PySem.W.exmOne X.K cls (.ref CS) = some b ∧ (b = true → ∀ a, H' a = none → Q (.ref a) (upd H' a (ExV cls d a))) ∧ (b = false → False)) H fun _ H1 => Q .non H1 := h
      rw [e] at h'
      exact h'
end
end Lk

/-! part LkVal -/
/-! Lk, part 3: what a reading evaluates to, told by data (PyData) in place of addresses. -/
namespace Lk
open PySem PySem.Spec PyProof.Rows L2 Evl
/-! ### data in a heap that grows -/
mutual
theorem dp_ex {K : PySem.W.Frag} {H H' : Hp} (e : Ex H H') : ∀ (d : PyData) (v : V), Dp K H v d → Dp K H' v d
  | .none, _, .non => .non
  | .bool b, _, .bl _ => .bl b
  | .int i, _, .int _ => .int i
  | .str x, _, .str _ => .str x
  | .list ds, _, .lst s a => .lst (ex_l e s) (dps_ex e ds _ a)
  | .tuple ds, _, .tup s a => .tup (ex_t e s) (dps_ex e ds _ a)
theorem dps_ex {K : PySem.W.Frag} {H H' : Hp} (e : Ex H H') : ∀ (ds : List PyData) (vs : List V), DpAll K H vs ds → DpAll K H' vs ds
  | [], _, .nil => .nil
  | d :: ds, _, .cons h r => .cons (dp_ex e d _ h) (dps_ex e ds _ r)
end
section
variable {K : PySem.W.Frag} {H H' : Hp} {v : V} {vs : List V} {d : PyData} {ds : List PyData}
theorem dp_none (h : Dp K H v .none) : v = .non := by cases h; rfl
theorem dp_bool {b : Bool} (h : Dp K H v (.bool b)) : v = .bl b := by cases h; rfl
theorem dp_int {i : Int} (h : Dp K H v (.int i)) : v = .int i := by cases h; rfl
theorem dp_str {x : Str} (h : Dp K H v (.str x)) : v = .str x := by cases h; rfl
theorem dp_tup (h : Dp K H v (.tuple ds)) : ∃ a xs, v = .ref a ∧ SqT K H a xs ∧ DpAll K H xs ds := by
  cases h with
  | tup s a => exact ⟨_, _, rfl, s, a⟩
theorem dp_lst (h : Dp K H v (.list ds)) : ∃ a xs, v = .ref a ∧ SqL K H a xs ∧ DpAll K H xs ds := by
  cases h with
  | lst s a => exact ⟨_, _, rfl, s, a⟩
theorem dps_len : ∀ {vs : List V} {ds : List PyData}, DpAll K H vs ds → vs.length = ds.length
  | [], _, .nil => rfl
  | _ :: _, _, .cons _ r => congrArg Nat.succ (dps_len r)
theorem dps_at : ∀ {vs : List V} {ds : List PyData} {i : Nat} {d : PyData}, DpAll K H vs ds → ds[i]? = some d → ∃ v, vs[i]? = some v ∧ Dp K H v d
  | _, _, _, _, .nil, e => by simp at e
  | _, _, 0, _, .cons h _, e => by
    have e' := Option.some.inj e
    subst e'
    exact ⟨_, rfl, h⟩
  | _, _, i + 1, d, .cons _ r, e => dps_at (i := i) (d := d) r e
theorem dps_ints : ∀ (ns : List Int), DpAll K H (ns.map V.int) (ns.map PyData.int)
  | [] => .nil
  | n :: ns => .cons (.int n) (dps_ints ns)
theorem dps_app : ∀ {xs ys : List V} {ds es : List PyData}, DpAll K H xs ds → DpAll K H ys es → DpAll K H (xs ++ ys) (ds ++ es)
  | _, _, _, _, .nil, b => b
  | _, _, _, _, .cons h r, b => .cons h (dps_app r b)
end
/-- a value's kind -/
def tyN : PyData → String
  | .none => "NoneType"
  | .bool _ => "bool"
  | .int _ => "int"
  | .str _ => "str"
  | .list _ => "list"
  | .tuple _ => "tuple"
  | .dict _ => "dict"
theorem dp_ty {K : PySem.W.Frag} {H : Hp} {v : V} {d : PyData} (h : Dp K H v d) : TyX K H v (.type (tyN d)) := by
  cases h with
  | non => exact .base .non
  | bl b => exact .base (.bl b)
  | int i => exact .base (.int i)
  | str x => exact .base (.str x)
  | lst s a =>
    rcases s with (s | ⟨o, s⟩) | ⟨o, its, n, h1, h2, _⟩
    · exact .base (.lst s)
    · exact .base (.frz s)
    · exact .kList h1 h2
  | tup s a =>
    rcases s with (s | ⟨o, s⟩) | ⟨o, its, n, h1, h2, _⟩
    · exact .base (.tup s)
    · exact .fTuple s
    · exact .kTuple h1 h2
/-! ### what evaluates to which data -/
def EvD (K : PySem.W.Frag) (te : TE) (σ : L2.St) (H : Hp) (d : PyData) : Prop := ∀ H1, Ex H H1 → ∀ Q : VK, (∀ v H2, Ex H1 H2 → Dp K H2 v d → Q v H2) → te σ H1 Q
def EvDA (K : PySem.W.Frag) (ta : TA) (σ : L2.St) (H : Hp) (ds : List PyData) : Prop := ∀ H1, Ex H H1 → ∀ Q : List V → Hp → Prop, (∀ vs H2, Ex H1 H2 → DpAll K H2 vs ds → Q vs H2) → ta σ H1 Q
section
variable {K : PySem.W.Frag} {σ : L2.St} {H H' : Hp} {ta tb te tx : TE} {t u : TT} {x y z v : V} {r : R2} {d e : PyData} {ds es : List PyData}
theorem EvD.mono (a : Ex H H') (h : EvD K te σ H d) : EvD K te σ H' d := fun H1 b Q q => h H1 (a.trans b) Q q
theorem EvDA.mono {ta : TA} (a : Ex H H') (h : EvDA K ta σ H ds) : EvDA K ta σ H' ds := fun H1 b Q q => h H1 (a.trans b) Q q
theorem ed_ev (h : Ev te σ H v) (hv : Dp K H v d) : EvD K te σ H d := fun H1 a Q q => h H1 a Q fun H2 b => q v H2 b (dp_ex (a.trans b) _ _ hv)
theorem ed_var {i : Nat} (h : σ[i]? = some (some v)) (hv : Dp K H v d) : EvD K (tVar i) σ H d := ed_ev (ev_var h) hv
theorem ed_cI {i : Int} : EvD K (tC (.int i)) σ H (.int i) := ed_ev ev_c (.int i)
theorem ed_cS {s : Str} : EvD K (tC (.str s)) σ H (.str s) := ed_ev ev_c (.str s)
theorem ed_cN : EvD K (tC .non) σ H .none := ed_ev ev_c .non
theorem ed_cB {b : Bool} : EvD K (tC (.bl b)) σ H (.bool b) := ed_ev ev_c (.bl b)
theorem ev_edI {i : Int} (h : EvD K te σ H (.int i)) : Ev te σ H (.int i) := fun H1 a Q q => h H1 a Q fun v H2 b hv => by
  have e := dp_int hv
  subst e
  exact q H2 b
theorem ev_edB {b : Bool} (h : EvD K te σ H (.bool b)) : Ev te σ H (.bl b) := fun H1 a Q q => h H1 a Q fun v H2 b hv => by
  have e := dp_bool hv
  subst e
  exact q H2 b
theorem ev_edS {s : Str} (h : EvD K te σ H (.str s)) : Ev te σ H (.str s) := fun H1 a Q q => h H1 a Q fun v H2 b hv => by
  have e := dp_str hv
  subst e
  exact q H2 b
theorem ed_is (h : EvD K te σ H d) (e' : d = e) : EvD K te σ H e := by
  rw [← e']
  exact h
/-- arguments -/
theorem eda_nil : EvDA K tNil σ H [] := fun H1 _ _ q => q [] H1 (Ex.refl H1) .nil
theorem eda_cons {tr : TA} (h : EvD K te σ H d) (hr : EvDA K tr σ H ds) : EvDA K (tCons te tr) σ H (d :: ds) := fun H1 a _ q =>
  h H1 a _ fun v H2 b hv => hr H2 (a.trans b) _ fun vs H3 c hvs => q (v :: vs) H3 (b.trans c) (.cons (dp_ex c _ _ hv) hvs)
theorem eda_star {K' : PySem.W.Frag} {tr : TA} (h : EvD K te σ H (.tuple ds)) (hr : EvDA K tr σ H es) (hK : K' = K) : EvDA K (StX.tStar K' te tr) σ H (ds ++ es) := by
  subst hK
  exact fun H1 a _ q =>
  h H1 a _ fun v H2 b hv => by
    obtain ⟨p, xs, rfl, hs, hx⟩ := dp_tup hv
    exact ⟨p, xs, rfl, .inl hs, hr H2 (a.trans b) _ fun vs H3 c hvs => q (xs ++ vs) H3 (b.trans c) (dps_app (dps_ex c _ _ hx) hvs)⟩
/-- displays -/
theorem ed_tup {ta : TA} (h : EvDA K ta σ H ds) (hl : ds.length ≤ 100000 := by first | decide | exact Nat.le_of_ble_eq_true rfl) : EvD K (tTup ta) σ H (.tuple ds) := fun H1 a _ q =>
  h H1 a _ fun vs H2 b hvs => ⟨sz_of (by rw [dps_len hvs]; exact hl), fun p hp => q _ _ (b.trans (Ex.new hp)) (.tup (st_of upd_same) (dps_ex (Ex.new hp) _ _ hvs))⟩
theorem ed_lst {ta : TA} (h : EvDA K ta σ H ds) (hl : ds.length ≤ 100000 := by first | decide | exact Nat.le_of_ble_eq_true rfl) : EvD K (tLst ta) σ H (.list ds) := fun H1 a _ q =>
  h H1 a _ fun vs H2 b hvs => ⟨sz_of (by rw [dps_len hvs]; exact hl), fun p hp => q _ _ (b.trans (Ex.new hp)) (.lst (sq_of upd_same) (dps_ex (Ex.new hp) _ _ hvs))⟩
/-- equal | unlike data -/
theorem ev_eqD (ha : EvD K ta σ H d) (hb : EvD K tb σ H e) (sd : SeqAt.shaped d = true := by rfl) (se : SeqAt.shaped e = true := by rfl) : Ev (tOp (rEqD K) ta tb) σ H (.bl (PyData.eqv d e)) := fun H1 a _ q =>
  ha H1 a _ fun v H2 b hv => hb H2 (a.trans b) _ fun w H3 c hw => ⟨d, e, dp_ex c _ _ hv, hw, sd, se, q H3 (b.trans c)⟩
theorem ev_neD (ha : EvD K ta σ H d) (hb : EvD K tb σ H e) (sd : SeqAt.shaped d = true := by rfl) (se : SeqAt.shaped e = true := by rfl) : Ev (tOp (rNeD K) ta tb) σ H (.bl (!PyData.eqv d e)) := fun H1 a _ q =>
  ha H1 a _ fun v H2 b hv => hb H2 (a.trans b) _ fun w H3 c hw => ⟨d, e, dp_ex c _ _ hv, hw, sd, se, q H3 (b.trans c)⟩
theorem atI_data {xs : List V} {i : Int} (hx : DpAll K H xs ds) (ha : atI ds i = some d) : ∃ v, atI xs i = some v ∧ Dp K H v d := by
  unfold atI at ha ⊢
  rw [dps_len hx]
  cases q : ixN ds.length i with
  | none =>
    rw [q] at ha
    cases ha
  | some j =>
    rw [q] at ha
    exact dps_at (i := j) hx ha
/-- an item of a tuple | of a list -/
theorem ed_ixT {K' : PySem.W.Frag} {i : Int} (ha : EvD K ta σ H (.tuple ds)) (hb : Ev tb σ H (.int i)) (hi : atI ds i = some d) (hK : K' = K) : EvD K (tOp (rIxT K') ta tb) σ H d := by
  subst hK
  exact fun H1 a _ q =>
  ha H1 a _ fun v H2 b hv => hb H2 (a.trans b) _ fun H3 c => by
    obtain ⟨p, xs, rfl, hs, hx⟩ := dp_tup hv
    obtain ⟨w, hw, dw⟩ := atI_data hx hi
    exact ⟨p, xs, i, w, rfl, rfl, ex_t c hs, hw, q w H3 (b.trans c) (dp_ex c _ _ dw)⟩
theorem ed_ixL {K' : PySem.W.Frag} {i : Int} (ha : EvD K ta σ H (.list ds)) (hb : Ev tb σ H (.int i)) (hi : atI ds i = some d) (hK : K' = K) : EvD K (tOp (rIxL K') ta tb) σ H d := by
  subst hK
  exact fun H1 a _ q =>
  ha H1 a _ fun v H2 b hv => hb H2 (a.trans b) _ fun H3 c => by
    obtain ⟨p, xs, rfl, hs, hx⟩ := dp_lst hv
    obtain ⟨w, hw, dw⟩ := atI_data hx hi
    exact ⟨p, xs, i, w, rfl, rfl, ex_l c hs, hw, q w H3 (b.trans c) (dp_ex c _ _ dw)⟩
/-- one or the other -/
theorem ed_if {b : Bool} (h : EvT t σ H b) (h1 : b = true → EvD K ta σ H d) (h2 : b = false → EvD K tb σ H d) : EvD K (tIf t ta tb) σ H d := fun H1 a Q q => h H1 a _ fun H2 c => by
  cases b with
  | true =>
    show ta σ H2 Q
    exact h1 rfl H2 (a.trans c) Q fun v H3 f => q v H3 (c.trans f)
  | false =>
    show tb σ H2 Q
    exact h2 rfl H2 (a.trans c) Q fun v H3 f => q v H3 (c.trans f)
/-- isinstance(x, T), T a built-in type -/
theorem ev_isiD {n : String} {b : Bool} (h : EvD K te σ H d) (hb : kitB (tyN d) n = some b) : Ev (tCB (rIsi K) (tCons te (tCons (tC (.ty n)) tNil))) σ H (.bl b) := fun H1 a _ q =>
  h H1 a _ fun v H2 c hv => ⟨v, .ty n, .type (tyN d), .type n, b, rfl, .ty n, dp_ty hv, kit_ty hb, q H2 c⟩
/-- isinstance by kinds -/
def isInt : PyData → Bool
  | .int _ => true
  | .bool _ => true
  | _ => false
def isBool : PyData → Bool
  | .bool _ => true
  | _ => false
def isTup : PyData → Bool
  | .tuple _ => true
  | _ => false
def isLst : PyData → Bool
  | .list _ => true
  | _ => false
def isStr : PyData → Bool
  | .str _ => true
  | _ => false
def isDct : PyData → Bool
  | .dict _ => true
  | _ => false
theorem kit_int (d : PyData) : kitB (tyN d) "int" = some (isInt d) := by
  cases d with
  | none => exact (show kitB "NoneType" "int" = some false by decide +kernel)
  | bool _ => exact (show kitB "bool" "int" = some true by decide +kernel)
  | int _ => exact (show kitB "int" "int" = some true by decide +kernel)
  | str _ => exact (show kitB "str" "int" = some false by decide +kernel)
  | list _ => exact (show kitB "list" "int" = some false by decide +kernel)
  | tuple _ => exact (show kitB "tuple" "int" = some false by decide +kernel)
  | dict _ => exact (show kitB "dict" "int" = some false by decide +kernel)
theorem kit_bool (d : PyData) : kitB (tyN d) "bool" = some (isBool d) := by
  cases d with
  | none => exact (show kitB "NoneType" "bool" = some false by decide +kernel)
  | bool _ => exact (show kitB "bool" "bool" = some true by decide +kernel)
  | int _ => exact (show kitB "int" "bool" = some false by decide +kernel)
  | str _ => exact (show kitB "str" "bool" = some false by decide +kernel)
  | list _ => exact (show kitB "list" "bool" = some false by decide +kernel)
  | tuple _ => exact (show kitB "tuple" "bool" = some false by decide +kernel)
  | dict _ => exact (show kitB "dict" "bool" = some false by decide +kernel)
theorem kit_tup (d : PyData) : kitB (tyN d) "tuple" = some (isTup d) := by
  cases d with
  | none => exact (show kitB "NoneType" "tuple" = some false by decide +kernel)
  | bool _ => exact (show kitB "bool" "tuple" = some false by decide +kernel)
  | int _ => exact (show kitB "int" "tuple" = some false by decide +kernel)
  | str _ => exact (show kitB "str" "tuple" = some false by decide +kernel)
  | list _ => exact (show kitB "list" "tuple" = some false by decide +kernel)
  | tuple _ => exact (show kitB "tuple" "tuple" = some true by decide +kernel)
  | dict _ => exact (show kitB "dict" "tuple" = some false by decide +kernel)
theorem kit_lst (d : PyData) : kitB (tyN d) "list" = some (isLst d) := by
  cases d with
  | none => exact (show kitB "NoneType" "list" = some false by decide +kernel)
  | bool _ => exact (show kitB "bool" "list" = some false by decide +kernel)
  | int _ => exact (show kitB "int" "list" = some false by decide +kernel)
  | str _ => exact (show kitB "str" "list" = some false by decide +kernel)
  | list _ => exact (show kitB "list" "list" = some true by decide +kernel)
  | tuple _ => exact (show kitB "tuple" "list" = some false by decide +kernel)
  | dict _ => exact (show kitB "dict" "list" = some false by decide +kernel)
theorem kit_str (d : PyData) : kitB (tyN d) "str" = some (isStr d) := by
  cases d with
  | none => exact (show kitB "NoneType" "str" = some false by decide +kernel)
  | bool _ => exact (show kitB "bool" "str" = some false by decide +kernel)
  | int _ => exact (show kitB "int" "str" = some false by decide +kernel)
  | str _ => exact (show kitB "str" "str" = some true by decide +kernel)
  | list _ => exact (show kitB "list" "str" = some false by decide +kernel)
  | tuple _ => exact (show kitB "tuple" "str" = some false by decide +kernel)
  | dict _ => exact (show kitB "dict" "str" = some false by decide +kernel)
theorem kit_dct (d : PyData) : kitB (tyN d) "dict" = some (isDct d) := by
  cases d with
  | none => exact (show kitB "NoneType" "dict" = some false by decide +kernel)
  | bool _ => exact (show kitB "bool" "dict" = some false by decide +kernel)
  | int _ => exact (show kitB "int" "dict" = some false by decide +kernel)
  | str _ => exact (show kitB "str" "dict" = some false by decide +kernel)
  | list _ => exact (show kitB "list" "dict" = some false by decide +kernel)
  | tuple _ => exact (show kitB "tuple" "dict" = some false by decide +kernel)
  | dict _ => exact (show kitB "dict" "dict" = some true by decide +kernel)
/-- len of a tuple | of a list -/
theorem ev_lenT (h : EvD K te σ H (.tuple ds)) : Ev (tCB (rLenS K) (tCons te tNil)) σ H (.int (ds.length : Int)) := fun H1 a _ q =>
  h H1 a _ fun v H2 c hv => by
    obtain ⟨p, xs, rfl, hs, hx⟩ := dp_tup hv
    refine ⟨_, xs, rfl, .inr hs, ?_⟩
    rw [dps_len hx]
    exact q H2 c
theorem ev_lenL (h : EvD K te σ H (.list ds)) : Ev (tCB (rLenS K) (tCons te tNil)) σ H (.int (ds.length : Int)) := fun H1 a _ q =>
  h H1 a _ fun v H2 c hv => by
    obtain ⟨p, xs, rfl, hs, hx⟩ := dp_lst hv
    refine ⟨_, xs, rfl, .inl hs, ?_⟩
    rw [dps_len hx]
    exact q H2 c
end
/-! ### statements -/
section
variable {K : PySem.W.Frag} {σ : L2.St} {H : Hp} {te : TE} {D : Ends} {tz : TS} {d : PyData}
theorem s_asgD {i : Nat} (h : EvD K te σ H d) (k : ∀ v H1, Ex H H1 → Dp K H1 v d → D.nx (σ.set i (some v)) H1) : tAsg te (gName i) D σ H := h H (Ex.refl H) _ fun v H1 e hv => k v H1 e hv
theorem q_asgD {i : Nat} (h : EvD K te σ H d) (k : ∀ v H1, Ex H H1 → Dp K H1 v d → tz D (σ.set i (some v)) H1) : tSeq (tAsg te (gName i)) tz D σ H := s_asgD (D := { D with nx := tz D }) h k
theorem s_retD (h : EvD K te σ H d) (k : ∀ v H1, Ex H H1 → Dp K H1 v d → D.rt v H1) : tRet te D σ H := h H (Ex.refl H) _ fun v H1 e hv => k v H1 e hv
end
/-! ### built-ins by names of our own -/
def rAbs : List V → Hp → VK → Prop := fun xs H Q => ∃ i, xs = [.int i] ∧ Q (.int (if i < 0 then -i else i)) H
def rMin : List V → Hp → VK → Prop := fun xs H Q => ∃ i j, xs = [.int i, .int j] ∧ Q (.int (if j < i then j else i)) H
def rIntI : List V → Hp → VK → Prop := fun xs H Q => (∃ i, xs = [.int i] ∧ Q (.int i) H) ∨ ∃ k, xs = [.bl k] ∧ Q (.int (if k then 1 else 0)) H
def rTxtI : List V → Hp → VK → Prop := fun xs H Q => ∃ i, xs = [.int i] ∧ i.natAbs.log2 < 1920 ∧ Q (.str (toString i)) H
section
variable {X : Cx}
theorem cl_len : CallR X (.builtin "len") (rLenS X.K) := call_len_seq
theorem cl_abs : CallR X (.builtin "abs") rAbs := call_abs
theorem cl_min (hc : X.calm = true) : CallR X (.builtin "min") rMin := call_min2 hc
theorem cl_int : CallR X (.type "int") rIntI := call_int1
theorem cl_repr : CallR X (.builtin "repr") rTxtI := SkE.call_repr_int
theorem cl_str : CallR X (.type "str") rTxtI := call_str_int
end
section
variable {σ : L2.St} {H : Hp} {ta tb : TE} {i j : Int}
theorem ev_abs (h : Ev ta σ H (.int i)) : Ev (tCB rAbs (tCons ta tNil)) σ H (.int (if i < 0 then -i else i)) := fun H1 a _ q => h H1 a _ fun H2 c => ⟨i, rfl, q H2 c⟩
theorem ev_min (h : Ev ta σ H (.int i)) (g : Ev tb σ H (.int j)) : Ev (tCB rMin (tCons ta (tCons tb tNil))) σ H (.int (if j < i then j else i)) := fun H1 a _ q =>
  h H1 a _ fun H2 c => g H2 (a.trans c) _ fun H3 f => ⟨i, j, rfl, q H3 (c.trans f)⟩
theorem ev_intI (h : Ev ta σ H (.int i)) : Ev (tCB rIntI (tCons ta tNil)) σ H (.int i) := fun H1 a _ q => h H1 a _ fun H2 c => .inl ⟨i, rfl, q H2 c⟩
theorem ev_txt (h : Ev ta σ H (.int i)) (hz : i.natAbs.log2 < 1920) : Ev (tCB rTxtI (tCons ta tNil)) σ H (.str (toString i)) := fun H1 a _ q => h H1 a _ fun H2 c => ⟨i, rfl, hz, q H2 c⟩
theorem ev_chain {r r' : R2} {tc : TE} {x y z : V} {b c : Bool} (ha : Ev ta σ H x) (hb : Ev tb σ H y) (hr : RV r x y H (.bl b)) (hc : b = true → Ev tc σ H z) (hr' : b = true → RV r' y z H (.bl c)) : Ev (tChain r r' ta tb tc) σ H (.bl (b && c)) := fun H1 a Q q =>
  ha H1 a _ fun H2 e2 => hb H2 (a.trans e2) _ fun H3 e3 => hr H3 ((a.trans e2).trans e3) _ fun H4 e4 => ⟨b, rfl, by
    cases b with
    | true =>
      show tc σ H4 fun w' H5 => r' y w' H5 Q
      exact hc rfl H4 (((a.trans e2).trans e3).trans e4) _ fun H5 e5 => hr' rfl H5 ((((a.trans e2).trans e3).trans e4).trans e5) Q fun H6 e6 => q H6 ((((e2.trans e3).trans e4).trans e5).trans e6)
    | false =>
      show Q (.bl false) H4
      exact q H4 ((e2.trans e3).trans e4)⟩
end
/-! ### promises of defs that change nothing -/
/-- what a def makes of data: a value, or the class of an error -/
abbrev Rel : Type := List PyData → Except Addr PyData → Prop
def spD (K : PySem.W.Frag) (R : Rel) : Sp := fun vs H Q E => ∃ ds r, DpAll K H vs ds ∧ R ds r ∧
  (∀ d, r = .ok d → ∀ v H', Ex H H' → Dp K H' v d → Q v H') ∧ (∀ C, r = .error C → ∀ H', Ex H H' → E (.ref C) none H')
/-- what a return must come to, a raise -/
def RetD (K : PySem.W.Frag) (r : Except Addr PyData) (Q : VK) (H : Hp) : Prop := ∀ d, r = .ok d → ∀ v H', Ex H H' → Dp K H' v d → Q v H'
def RaiD (r : Except Addr PyData) (E : XK) (H : Hp) : Prop := ∀ C, r = .error C → ∀ H', Ex H H' → E (.ref C) none H'
section
variable {K : PySem.W.Frag} {r : Except Addr PyData} {Q : VK} {E : XK} {H H' : Hp} {D : Ends} {σ : L2.St} {te : TE} {d : PyData}
theorem RetD.mono (e : Ex H H') (h : RetD K r Q H) : RetD K r Q H' := fun d q v H2 e2 hv => h d q v H2 (e.trans e2) hv
theorem RaiD.mono (e : Ex H H') (h : RaiD r E H) : RaiD r E H' := fun C q H2 e2 => h C q H2 (e.trans e2)
theorem s_retOk (k : RetD K (.ok d) D.rt H) (h : EvD K te σ H d) : tRet te D σ H := s_retD h fun v H1 e hv => k d rfl v H1 e hv
end
section
variable {K : PySem.W.Frag} {σ : L2.St} {H : Hp} {ta : TA} {ds : List PyData} {d : PyData} {R : Rel}
theorem ed_call (h : EvDA K ta σ H ds) (hf : R ds (.ok d)) : EvD K (tCall (spD K R) [] E0 ta) σ H d := fun H1 a Q q =>
  h H1 a _ fun vs H2 b hvs => ⟨ds, _, by rw [List.append_nil]; exact hvs, hf, fun d' e v H' c hv => by cases e; exact q v H' (b.trans c) hv, fun C e => nomatch e⟩
end
/-! ### a, b = e1, e2 -/
section
variable {K : PySem.W.Frag} {σ : L2.St} {H : Hp} {ta : TA} {D : Ends} {tz : TS} {i j : Nat} {x y : V} {d e : PyData}
theorem q_par (h : EvA ta σ H [x, y]) (k : ∀ H1, Ex H H1 → tz D ((σ.set i (some x)).set j (some y)) H1) : tSeq (tPar i j ta) tz D σ H := h H (Ex.refl H) _ fun H1 a => ⟨x, y, rfl, k H1 a⟩
theorem q_parD (h : EvDA K ta σ H [d, e]) (k : ∀ v w H1, Ex H H1 → Dp K H1 v d → Dp K H1 w e → tz D ((σ.set i (some v)).set j (some w)) H1) : tSeq (tPar i j ta) tz D σ H := h H (Ex.refl H) _ fun vs H1 a hv => by
  obtain _ | ⟨h1, _ | ⟨h2, _ | _⟩⟩ := hv
  exact ⟨_, _, rfl, k _ _ H1 a h1 h2⟩
end
/-! ### calls that may raise -/
section
variable {K : PySem.W.Frag} {σ : L2.St} {H : Hp} {ta : TA} {ds : List PyData} {R : Rel} {r : Except Addr PyData} {D : Ends} {tz : TS} {E : L2.St → XK}
theorem s_dropX (h : EvDA K ta σ H ds) (hR : R ds r) (ok : ∀ d, r = .ok d → ∀ H1, Ex H H1 → D.nx σ H1) (err : RaiD r (E σ) H) : tDrop (tCallS (spD K R) E ta) D σ H :=
  h H (Ex.refl H) _ fun vs H2 b hvs => ⟨ds, r, hvs, hR, fun d e v H' c hv => ok d e H' (b.trans c), fun C e H' c => err C e H' (b.trans c)⟩
theorem q_dropX (h : EvDA K ta σ H ds) (hR : R ds r) (ok : ∀ d, r = .ok d → ∀ H1, Ex H H1 → tz D σ H1) (err : RaiD r (E σ) H) : tSeq (tDrop (tCallS (spD K R) E ta)) tz D σ H :=
  s_dropX (D := { D with nx := tz D }) h hR ok err
theorem s_retX (h : EvDA K ta σ H ds) (hR : R ds r) (ok : RetD K r D.rt H) (err : RaiD r (E σ) H) : tRet (tCallS (spD K R) E ta) D σ H :=
  h H (Ex.refl H) _ fun vs H2 b hvs => ⟨ds, r, hvs, hR, fun d e v H' c hv => ok d e v H' (b.trans c) hv, fun C e H' c => err C e H' (b.trans c)⟩
end
end Lk

/-! part LkCall -/
/-! Lk, part 4: a def of the text, called; the walk's small tactics. -/
namespace Lk
open PySem PySem.Spec PyProof.Rows L2 Evl
/-- the module's def x keeps its promise -/
structure Cl (P : Program) (w : World) (K : PySem.W.Frag) (mg : Str → Option Value) (base : Heap) (CX : CXT) (k : Nat) (x : Str) (sp : Sp) : Prop where
  ex : ∃ (f : Addr) (fd : FuncData) (ps : List Str), FnOk P w K mg base CX k f fd ps sp ∧ mg x = some (.ref f) ∧ PySem.W.keepIn K (.ref f) = true ∧ Binds K fd ps []
/-- the same, its parameters given by names, in their order -/
structure Cw (P : Program) (w : World) (K : PySem.W.Frag) (mg : Str → Option Value) (base : Heap) (CX : CXT) (k : Nat) (x : Str) (ks : List Str) (sp : Sp) : Prop where
  ex : ∃ (f : Addr) (fd : FuncData) (ps : List Str), FnOk P w K mg base CX k f fd ps sp ∧ mg x = some (.ref f) ∧ PySem.W.keepIn K (.ref f) = true ∧ KBinds K fd ps ks (fun us ws => us ++ ws) (fun vs zs => vs ++ zs)
section
variable {X : Cx} {k j : Nat} {x : Str} {ks : List Str} {sp : Sp} {p pos : Pos} {e : Expr} {es : List Expr} {t tk : TA} {kws : List Keyword}
theorem pe_k (c : Cl X.prog X.w X.K X.mg X.base CX0 k x sp) (hr : Room j X.A) (hk : k ≤ j) (hg : Gl X x) (ha : PA X (e :: es) t)
    (hdb : (x == ("__debug__" : Str)) = false := by decide) (he : starEach (e :: es) X.env = (false, eval e X.env) :: starEach es X.env := by rfl)
    (hpl : (backTo pos (starEach es X.env)).any (·.1) = false := by rfl) : PE X (.Call (.Name x p) (e :: es) [] pos) (tCall sp [] E0 t) := by
  obtain ⟨f, fd, ps, F, hm, kp, b⟩ := c.ex
  exact pe_call F (hr.mono hk) hg hm kp b .nil pass0 ha hdb he hpl
/-- of a def that may raise, and does not here -/
theorem pe_kX (c : Cl X.prog X.w X.K X.mg X.base (L2.CX X.prog X.w) k x sp) (hr : Room j X.A) (hk : k ≤ j) (hg : Gl X x) (ha : PA X (e :: es) t)
    (hdb : (x == ("__debug__" : Str)) = false := by decide) (he : starEach (e :: es) X.env = (false, eval e X.env) :: starEach es X.env := by rfl)
    (hpl : (backTo pos (starEach es X.env)).any (·.1) = false := by rfl) : PE X (.Call (.Name x p) (e :: es) [] pos) (tCall sp [] E0 t) := by
  obtain ⟨f, fd, ps, F, hm, kp, b⟩ := c.ex
  exact pe_call F (hr.mono hk) hg hm kp b .nil passL ha hdb he hpl
/-- of a def that may raise -/
theorem pe_kR {W : WX} (tk : Takes X W) (c : Cl X.prog X.w X.K X.mg X.base (L2.CX X.prog X.w) k x sp) (hr : Room j X.A) (hk : k ≤ j) (hg : Gl X x) (ha : PA X (e :: es) t)
    (hdb : (x == ("__debug__" : Str)) = false := by decide) (he : starEach (e :: es) X.env = (false, eval e X.env) :: starEach es X.env := by rfl)
    (hpl : (backTo pos (starEach es X.env)).any (·.1) = false := by rfl) : PE X (.Call (.Name x p) (e :: es) [] pos) (tCallS sp (WE W) t) := by
  obtain ⟨f, fd, ps, F, hm, kp, b⟩ := c.ex
  exact pe_callS F (hr.mono hk) hg hm kp b (fun σ => passAt tk σ) ha hdb he hpl
theorem pe_kw (c : Cw X.prog X.w X.K X.mg X.base CX0 k x ks sp) (hr : Room j X.A) (hk : k ≤ j) (hg : Gl X x) (hkw : PK X kws tk)
    (hall : (backToKw pos (keywordEach kws X.env)).all (·.1.isSome) = true := by rfl) (hks : (backToKw pos (keywordEach kws X.env)).filterMap (·.1) = ks := by rfl)
    (hdb : (x == ("__debug__" : Str)) = false := by decide)
    (hpl : ((backTo pos (starEach [] X.env)).any (·.1) || (backToKw pos (keywordEach kws X.env)).any (·.1.isNone)) = false := by rfl) :
    PE X (.Call (.Name x p) [] kws pos) (tCallK sp (fun vs zs => vs ++ zs) E0 tNil tk) := by
  obtain ⟨f, fd, ps, F, hm, kp, b⟩ := c.ex
  exact pe_kwOnly F (hr.mono hk) hg hm kp b pass0 hkw hall hks hdb hpl
theorem pe_kwX (c : Cw X.prog X.w X.K X.mg X.base (L2.CX X.prog X.w) k x ks sp) (hr : Room j X.A) (hk : k ≤ j) (hg : Gl X x) (hkw : PK X kws tk)
    (hall : (backToKw pos (keywordEach kws X.env)).all (·.1.isSome) = true := by rfl) (hks : (backToKw pos (keywordEach kws X.env)).filterMap (·.1) = ks := by rfl)
    (hdb : (x == ("__debug__" : Str)) = false := by decide)
    (hpl : ((backTo pos (starEach [] X.env)).any (·.1) || (backToKw pos (keywordEach kws X.env)).any (·.1.isNone)) = false := by rfl) :
    PE X (.Call (.Name x p) [] kws pos) (tCallK sp (fun vs zs => vs ++ zs) E0 tNil tk) := by
  obtain ⟨f, fd, ps, F, hm, kp, b⟩ := c.ex
  exact pe_kwOnly F (hr.mono hk) hg hm kp b passL hkw hall hks hdb hpl
end
section
variable {K : PySem.W.Frag} {σ : L2.St} {H : Hp} {ta : TA} {ds : List PyData} {d : PyData} {R : Rel}
theorem ed_callK (h : EvDA K ta σ H ds) (hf : R ds (.ok d)) : EvD K (tCallK (spD K R) (fun vs zs => vs ++ zs) E0 tNil ta) σ H d := fun H1 a Q q =>
  h H1 a _ fun vs H2 b hvs => ⟨ds, _, hvs, hf, fun d' e v H' c hv => by cases e; exact q v H' (b.trans c) hv, fun C e => nomatch e⟩
end
/-- what stands of an own error's class -/
structure XcT (K : PySem.W.Frag) (mg : Str → Option Value) (x : Str) (C : Addr) : Prop where
  ex : PySem.W.excIn K C [.type "ValueError", .type "Exception", .type "BaseException", .type "object"] "ValueError.__new__" = true
  gl : mg x = some (.ref C)
  kp : PySem.W.keepIn K (.ref C) = true
  sb : PySem.W.subIn K (.ref C) (.type "BaseException") = some true
  ty : PySem.W.typeIn K (.ref C) = some (.type "type")
section
variable {P : Program} {w : World} {K : PySem.W.Frag} {mg : Str → Option Value} {base : Heap} {x qual : Str} {params : Arguments} {body : List Stmt} {scope : Scope} {f : Addr} {fd : FuncData} {N ps : List Str} {k : Nat}
/-- THE RULE for a def that changes nothing and raises nothing: R its promise by data, h what it hands back for arguments of that form -/
theorem fn_data {R : Rel} (D : FunD K x qual params body scope [] [] f fd) (S : FnScope N ps scope) (hl : ∀ ds r, R ds r → ds.length = ps.length)
    (h : ∀ (cdv : Value) (A : Around) (outer : List Env) (s : Shared) (H : Hp) (E : XK), Room k (A.deeper (envOfC qual scope s.heap.objs.size f cdv)) →
      ∃ t, PSs (cxOf CX0 P w K mg base N qual scope f cdv A outer s H E).nox body t ∧ ∀ (vs : List V) (ds : List PyData) (r : Except Addr PyData) (Q : VK), DpAll K H vs ds → R ds r →
        RetD K r Q H → t { nx := fun _ H' => Q .non H', rt := Q } (start N vs) H) :
    FnOk P w K mg base CX0 (k + 1) f fd ps (spD K R) := by
  refine D.ok S (fun vs H Q E q => ?_) (fun cdv A outer s H vs Q E hr q => ?_)
  · obtain ⟨ds, r, a, b, _⟩ := q
    rw [dps_len a, hl ds r b]
  · obtain ⟨t, h1, h2⟩ := h cdv A outer s H E hr
    obtain ⟨ds, r, a, b, c, _⟩ := q
    exact ⟨t, h1.nox, h2 vs ds r Q a b c⟩
/-- .. that may raise -/
theorem fn_dataX {R : Rel} (D : FunD K x qual params body scope [] [] f fd) (S : FnScope N ps scope) (hl : ∀ ds r, R ds r → ds.length = ps.length)
    (h : ∀ (cdv : Value) (A : Around) (outer : List Env) (s : Shared) (H : Hp) (E : XK), Room k (A.deeper (envOfC qual scope s.heap.objs.size f cdv)) →
      ∃ t, PSs (cxOf (L2.CX P w) P w K mg base N qual scope f cdv A outer s H E) body t ∧ ∀ (vs : List V) (ds : List PyData) (r : Except Addr PyData) (Q : VK), DpAll K H vs ds → R ds r →
        RetD K r Q H → RaiD r E H → t { nx := fun _ H' => Q .non H', rt := Q } (start N vs) H) :
    FnOk P w K mg base (L2.CX P w) (k + 1) f fd ps (spD K R) := by
  refine D.ok S (fun vs H Q E q => ?_) (fun cdv A outer s H vs Q E hr q => ?_)
  · obtain ⟨ds, r, a, b, _⟩ := q
    rw [dps_len a, hl ds r b]
  · obtain ⟨t, h1, h2⟩ := h cdv A outer s H E hr
    obtain ⟨ds, r, a, b, c, c'⟩ := q
    exact ⟨t, h1, h2 vs ds r Q a b c c'⟩
end
/-- one parameter, given by place or by name -/
theorem kbinds1 {K : PySem.W.Frag} {x qual p : Str} {params : Arguments} {body : List Stmt} {scope : Scope} {f : Addr} {fd : FuncData} (F : FunD K x qual params body scope [] [] f fd)
    (h0 : ∀ (kV doc pm : Value) (an : Option Addr) (cdv ct u : Value), bindArgs (PySem.W.fnOf x qual params body scope .none kV doc pm an cdv ct) ⟨[u], []⟩ = pure [(p, u)])
    (h1 : ∀ (kV doc pm : Value) (an : Option Addr) (cdv ct u : Value), bindArgs (PySem.W.fnOf x qual params body scope .none kV doc pm an cdv ct) ⟨[], [(p, u)]⟩ = pure [(p, u)]) :
    KBinds K fd [p] [p] (fun us ws => us ++ ws) (fun vs zs => vs ++ zs) := by
  obtain ⟨oc, od, dV, kV, doc, pm, an, cdv, ct, osl, rfl, lk, hcd, hD, hK⟩ := F.ex
  rcases hD with ⟨_, rfl⟩ | ⟨e, _⟩
  · constructor
    · intro s us ws _ hl
      match us, ws, hl with
      | [], [u], _ => exact .of_eq (h1 kV doc pm an cdv ct u)
      | [u], [], _ => exact .of_eq (h0 kV doc pm an cdv ct u)
      | [], [], hl => cases hl
      | [], _ :: _ :: _, hl => cases hl
      | [_], _ :: _, hl => cases hl
      | _ :: _ :: _, _, hl => cases hl
    · exact fun r q => r.append q
  · exact absurd rfl e
end Lk

/-! part LkComp -/
/-! Lk, part 5: comprehensions told by data; data without lists, which no store touches. -/
namespace Lk
open PySem PySem.Spec PyProof.Rows L2 Evl
/-! ### data of tuples alone -/
mutual
def tupo : PyData → Bool
  | .list _ => false
  | .dict _ => false
  | .tuple ds => tupos ds
  | _ => true
def tupos : List PyData → Bool
  | [] => true
  | d :: ds => tupo d && tupos ds
end
/-- all tuples stand as they stood -/
def Tx (H H' : Hp) : Prop := ∀ a xs, Rd H a (.tup xs) → Rd H' a (.tup xs)
theorem Tx.refl (H : Hp) : Tx H H := fun _ _ h => h
theorem Tx.trans {H H1 H2 : Hp} (a : Tx H H1) (b : Tx H1 H2) : Tx H H2 := fun x xs h => b x xs (a x xs h)
theorem Ex.tx {H H' : Hp} (e : Ex H H') : Tx H H' := fun _ _ h => ex_rd e h
/-- a store into something that is no tuple -/
theorem Tx.put {H : Hp} {l : Addr} {o u : HO} (h : H l = some u) (n1 : ∀ xs, u ≠ .tup xs) (n2 : ∀ q xs, u ≠ .frz q (.tup xs)) : Tx H (upd H l o) := by
  rintro a xs (r | ⟨q, r⟩)
  · refine Or.inl ?_
    rw [upd_ne]
    · exact r
    · rintro rfl
      rw [h] at r
      exact n1 xs (Option.some.inj r)
  · refine Or.inr ⟨q, ?_⟩
    rw [upd_ne]
    · exact r
    · rintro rfl
      rw [h] at r
      exact n2 q xs (Option.some.inj r)
theorem Tx.lst {H : Hp} {l : Addr} {ys : List V} {o : HO} (h : H l = some (.lst ys)) : Tx H (upd H l o) := Tx.put h (fun _ z => nomatch z) fun _ _ z => nomatch z
theorem Tx.dK {H : Hp} {l : Addr} {ys : List (Key × V)} {o : HO} (h : H l = some (.dK ys)) : Tx H (upd H l o) := Tx.put h (fun _ z => nomatch z) fun _ _ z => nomatch z
mutual
theorem dp_tx {K : PySem.W.Frag} {H H' : Hp} (e : Tx H H') : ∀ (d : PyData) (v : V), tupo d = true → Dp K H v d → Dp K H' v d
  | .none, _, _, .non => .non
  | .bool b, _, _, .bl _ => .bl b
  | .int i, _, _, .int _ => .int i
  | .str x, _, _, .str _ => .str x
  | .tuple ds, _, t, .tup s a => .tup (by
      rcases s with s | s
      · exact Or.inl (e _ _ s)
      · exact Or.inr s) (dps_tx e ds _ (by rw [tupo] at t; exact t) a)
theorem dps_tx {K : PySem.W.Frag} {H H' : Hp} (e : Tx H H') : ∀ (ds : List PyData) (vs : List V), tupos ds = true → DpAll K H vs ds → DpAll K H' vs ds
  | [], _, _, .nil => .nil
  | d :: ds, _, t, .cons h r => by
    have t' : (tupo d && tupos ds) = true := by rw [tupos] at t; exact t
    obtain ⟨t1, t2⟩ := Bool.and_eq_true_iff.mp t'
    exact .cons (dp_tx e d _ t1 h) (dps_tx e ds _ t2 r)
end
theorem tupos_app : ∀ {a b : List PyData}, tupos (a ++ b) = (tupos a && tupos b)
  | [], b => by rw [List.nil_append, tupos, Bool.true_and]
  | d :: a, b => by rw [List.cons_append, tupos, tupos, tupos_app, Bool.and_assoc]
theorem dps_ints_of {K : PySem.W.Frag} {H : Hp} : ∀ {ns : List Int} {vs : List V}, DpAll K H vs (ns.map PyData.int) → vs = ns.map V.int
  | [], _, .nil => rfl
  | n :: ns, _, .cons h r => by
    have e := dp_int h
    subst e
    rw [List.map_cons, dps_ints_of (ns := ns) r]
/-! ### comprehensions -/
/-- what the turns below n give -/
def givenD (n : Nat) (f : Nat → Bool) (g : Nat → PyData) : List PyData := ((List.range n).filter f).map g
theorem givenD_yes {n : Nat} {f : Nat → Bool} {g : Nat → PyData} (h : f n = true) : givenD (n + 1) f g = givenD n f g ++ [g n] := by
  unfold givenD
  rw [List.range_succ, List.filter_append, List.map_append]
  have e : [n].filter f = [n] := by rw [List.filter_cons, if_pos h]; rfl
  rw [e]
  rfl
theorem givenD_no {n : Nat} {f : Nat → Bool} {g : Nat → PyData} (h : f n = false) : givenD (n + 1) f g = givenD n f g := by
  unfold givenD
  rw [List.range_succ, List.filter_append, List.map_append]
  have e : [n].filter f = [] := by rw [List.filter_cons, if_neg (by rw [h]; decide)]; rfl
  rw [e]
  exact List.append_nil _
theorem givenD_len (n : Nat) (f : Nat → Bool) (g : Nat → PyData) : (givenD n f g).length ≤ n := by
  unfold givenD
  rw [List.length_map]
  have h := List.length_filter_le f (List.range n)
  rw [List.length_range] at h
  exact h
theorem givenD_all (n : Nat) (g : Nat → PyData) : givenD n (fun _ => true) g = (List.range n).map g := by
  unfold givenD
  rw [List.filter_eq_self.mpr (fun _ _ => rfl)]
/-- behind i turns -/
def CwD (K : PySem.W.Frag) (H : Hp) (f : Nat → Bool) (g : Nat → PyData) (Dl : Addr) (i : Nat) (H' : Hp) : Prop := H Dl = none ∧ Ex H H' ∧ ∃ acc, H' Dl = some (.lst acc) ∧ DpAll K H' acc (givenD i f g)
section
variable {K : PySem.W.Frag} {σ : L2.St} {H H' : Hp} {te : TE} {t : TT} {f : Nat → Bool} {g : Nat → PyData} {Dl : Addr}
theorem cwd_turn {i : Nat} {σ2 : L2.St} (p : CwD K H f g Dl i H') (hi : i < 50000) (tp : ∀ j, tupo (g j) = true) (ht : EvT t σ2 H (f i)) (he : f i = true → EvD K te σ2 H (g i)) :
    t σ2 H' fun b H3 => if b = true then te σ2 H3 fun y H4 => ∃ acc, H4 Dl = some (.lst acc) ∧ acc.length < sizeLine ∧ CwD K H f g Dl (i + 1) (upd H4 Dl (.lst (acc ++ [y]))) else CwD K H f g Dl (i + 1) H3 := by
  obtain ⟨p1, p2, acc, p3, p4⟩ := p
  refine ht H' p2 _ fun H3 e3 => ?_
  cases hf : f i with
  | true =>
    show te σ2 H3 fun y H4 => _
    refine he hf H3 (p2.trans e3) _ fun v H4 e4 hv => ?_
    have hD : H4 Dl = some (.lst acc) := e4 Dl _ (e3 Dl _ p3)
    have hl : acc.length ≤ i := by rw [dps_len p4]; exact givenD_len i f g
    have tps : ∀ n, tupos (givenD n f g) = true := fun n => by
      induction n with
      | zero => rfl
      | succ n ih =>
        cases q : f n with
        | true => rw [givenD_yes q, tupos_app, ih, tupos, tp, tupos]; rfl
        | false => rw [givenD_no q]; exact ih
    refine ⟨acc, hD, sz_lt (by omega), p1, Ex.mut ((p2.trans e3).trans e4) p1, acc ++ [v], upd_same, ?_⟩
    rw [givenD_yes hf]
    exact dps_app (dps_tx (Tx.lst hD) _ _ (tps i) (dps_ex e4 _ _ (dps_ex e3 _ _ p4))) (.cons (dp_tx (Tx.lst hD) _ _ (tp i) hv) .nil)
  | false =>
    show CwD K H f g Dl (i + 1) H3
    refine ⟨p1, p2.trans e3, acc, e3 Dl _ p3, ?_⟩
    rw [givenD_no hf]
    exact dps_ex e3 _ _ p4
theorem cwd_start {Dl : Addr} (hD : H Dl = none) : CwD K H f g Dl 0 (upd H Dl (.lst [])) := ⟨hD, Ex.new hD, [], upd_same, .nil⟩
theorem cwd_end {n : Nat} (p : CwD K H f g Dl n H') : Dp K H' (.ref Dl) (.list (givenD n f g)) := by
  obtain ⟨_, _, acc, h1, h2⟩ := p
  exact .lst (sq_of h1) h2
/-- over range(n) -/
theorem ed_lcR1 {ta : TA} {j : Nat} {vs : List Nat} {n : Int} (f : Nat → Bool) (g : Nat → PyData) (tp : ∀ i, tupo (g i) = true) (h : EvA ta σ H [.int n]) (hn : n ≤ 40000) (hn0 : -40000 ≤ n) (hw : ∀ x, wipe ((wipe σ vs).set j (some x)) vs = wipe σ vs)
    (ht : ∀ (i : Nat) H1, Ex H H1 → (i : Int) < n → EvT t ((wipe σ vs).set j (some (.int (i : Int)))) H1 (f i))
    (he : ∀ (i : Nat) H1, Ex H H1 → (i : Int) < n → f i = true → EvD K te ((wipe σ vs).set j (some (.int (i : Int)))) H1 (g i)) :
    EvD K (tLc (iRng1 ta) (gName j) t te vs) σ H (.list (givenD n.toNat f g)) := fun H0 e Q q => h H0 e _ fun H1 e1 => ⟨n, rfl, by omega, by omega, fun Dl hD =>
  lc_range (lo := 0) (n := n.toNat) (CwD K H1 f g Dl) (cwd_start hD) (fun i H' hi p => by
    have e0 : (0 : Int) + (i : Int) = (i : Int) := Int.zero_add _
    show wipe ((wipe σ vs).set j (some (.int ((0 : Int) + (i : Int))))) vs = wipe σ vs ∧ t ((wipe σ vs).set j (some (.int ((0 : Int) + (i : Int))))) H' fun b H3 => _
    rw [e0]
    exact ⟨hw _, cwd_turn p (by omega) tp (ht i H1 (e.trans e1) (by omega)) (fun hf => he i H1 (e.trans e1) (by omega) hf)⟩) (fun H' p => q _ H' (e1.trans p.2.1) (cwd_end p))⟩
/-- over range(lo, n) -/
theorem ed_lcR2 {ta : TA} {j : Nat} {vs : List Nat} {lo n : Int} (f : Nat → Bool) (g : Nat → PyData) (tp : ∀ i, tupo (g i) = true) (h : EvA ta σ H [.int lo, .int n]) (hb : -40000 ≤ lo ∧ lo ≤ 40000 ∧ -40000 ≤ n ∧ n ≤ 40000 ∧ n - lo ≤ 40000)
    (hw : ∀ x, wipe ((wipe σ vs).set j (some x)) vs = wipe σ vs)
    (ht : ∀ (i : Nat) H1, Ex H H1 → lo + (i : Int) < n → EvT t ((wipe σ vs).set j (some (.int (lo + (i : Int))))) H1 (f i))
    (he : ∀ (i : Nat) H1, Ex H H1 → lo + (i : Int) < n → f i = true → EvD K te ((wipe σ vs).set j (some (.int (lo + (i : Int))))) H1 (g i)) :
    EvD K (tLc (iRng2 ta) (gName j) t te vs) σ H (.list (givenD (n - lo).toNat f g)) := fun H0 e Q q => h H0 e _ fun H1 e1 => ⟨lo, n, rfl, ⟨by omega, by omega, by omega, by omega⟩, fun Dl hD =>
  lc_range (lo := lo) (n := (n - lo).toNat) (CwD K H1 f g Dl) (cwd_start hD) (fun i H' hi p =>
    ⟨hw _, cwd_turn p (by omega) tp (ht i H1 (e.trans e1) (by omega)) (fun hf => he i H1 (e.trans e1) (by omega) hf)⟩) (fun H' p => q _ H' (e1.trans p.2.1) (cwd_end p))⟩
/-- over a list -/
theorem ed_lcL {K' : PySem.W.Frag} {tl : TE} {j : Nat} {vs : List Nat} {ds : List PyData} (f : Nat → Bool) (g : Nat → PyData) (tp : ∀ i, tupo (g i) = true) (h : EvD K tl σ H (.list ds)) (hz : ds.length ≤ 40000) (hw : ∀ x, wipe ((wipe σ vs).set j (some x)) vs = wipe σ vs)
    (ht : ∀ (i : Nat) (x : V) (d : PyData) H1, Ex H H1 → ds[i]? = some d → Dp K H1 x d → EvT t ((wipe σ vs).set j (some x)) H1 (f i))
    (he : ∀ (i : Nat) (x : V) (d : PyData) H1, Ex H H1 → ds[i]? = some d → Dp K H1 x d → f i = true → EvD K te ((wipe σ vs).set j (some x)) H1 (g i)) (hK : K' = K) :
    EvD K (tLc (iList K' tl) (gName j) t te vs) σ H (.list (givenD ds.length f g)) := by
  subst hK
  exact fun H0 e Q q => h H0 e _ fun v H1 e1 hv => by
    obtain ⟨a, xs, rfl, hx, hd⟩ := dp_lst hv
    refine ⟨a, rfl, ⟨xs, hx⟩, fun Dl hD => lc_list (xs := xs) (CwD K' H1 f g Dl) (cwd_start hD) (fun i H' _ p => ex_l p.2.1 hx) (fun i x H' hi p => ?_) (fun H' p => ?_)⟩
    · have hil := (List.getElem?_eq_some_iff.mp hi).1
      rw [dps_len hd] at hil
      obtain ⟨x', hx', dx⟩ := dps_at (i := i) hd (List.getElem?_eq_getElem hil)
      rw [hi] at hx'
      cases hx'
      exact ⟨hw x, cwd_turn p (by omega) tp (ht i x _ H1 (e.trans e1) (List.getElem?_eq_getElem hil) dx) (fun hf => he i x _ H1 (e.trans e1) (List.getElem?_eq_getElem hil) dx hf)⟩
    · rw [dps_len hd] at p
      exact q _ H' (e1.trans p.2.1) (cwd_end p)
/-- sum(xs) -/
theorem ev_sum {ns : List Int} (h : EvD K te σ H (.list (ns.map PyData.int))) : Ev (tCB (rSum K) (tCons te tNil)) σ H (.int ns.sum) := fun H1 a _ q =>
  h H1 a _ fun v H2 c hv => by
    obtain ⟨p, xs, rfl, hs, hx⟩ := dp_lst hv
    have e := dps_ints_of hx
    subst e
    exact ⟨p, ns, rfl, hs, q H2 c⟩
/-- tuple(xs), xs a list -/
theorem ed_tupleL {K' : PySem.W.Frag} {ds : List PyData} (h : EvD K te σ H (.list ds)) (hK : K' = K) : EvD K (tThen te (kTup K')) σ H (.tuple ds) := by
  subst hK
  exact fun H1 a _ q =>
    h H1 a _ fun v H2 c hv => by
      obtain ⟨p, xs, rfl, hs, hx⟩ := dp_lst hv
      exact .inl ⟨p, xs, rfl, hs, fun r hr => q _ _ (c.trans (Ex.new hr)) (.tup (st_of upd_same) (dps_ex (Ex.new hr) _ _ hx))⟩
theorem et_yes : EvT tYes σ H true := fun H1 _ _ q => q H1 (Ex.refl H1)
end
end Lk

/-! part LkDraw -/
/-! Lk, part 6: the state of the draws: a dict that holds two lists and two whole numbers. -/
namespace Lk
open PySem PySem.Spec PyProof.Rows L2 Evl
/-! ### a dict by texts -/
section
variable {σ : L2.St} {H : Hp} {td tv : TE} {a : Addr} {v : V} {s : Str} {kvs : List (Key × V)} {D : Ends} {tz : TS}
theorem ev_dget (h : Ev td σ H (.ref a)) (hd : H a = some (.dK kvs)) (hv : valV kvs (.inr s) = some v) : Ev (tDGet td (tC (.str s))) σ H v := fun H1 e Q q =>
  h H1 e _ fun H2 e2 => ⟨a, v, rfl, hv ▸ DGet.k (k := .inr s) (e2 _ _ (e _ _ hd)), q H2 e2⟩
/-- d[k] = v, the value by a run that ends in dput_end -/
theorem r_dput (h : tv σ H fun v H1 => td σ H1 fun x H2 => ∃ a H4, x = .ref a ∧ DPut H2 a (.str s) v H4 ∧ D.nx σ H4) : sDPut td (tC (.str s)) tv D σ H := h
theorem q_dput (h : tv σ H fun v H1 => td σ H1 fun x H2 => ∃ a H4, x = .ref a ∧ DPut H2 a (.str s) v H4 ∧ tz D σ H4) : tSeq (sDPut td (tC (.str s)) tv) tz D σ H := h
theorem dput_end {T : L2.St → Hp → Prop} (ht : Ev td σ H (.ref a)) (hd : H a = some (.dK kvs)) (hl : kvs.length < 1000) (k : ∀ H2, Ex H H2 → T σ (upd H2 a (.dK (putK kvs (.inr s) v)))) :
    td σ H fun x H2 => ∃ a H4, x = .ref a ∧ DPut H2 a (.str s) v H4 ∧ T σ H4 :=
  ht H (Ex.refl H) _ fun H2 e => ⟨a, _, rfl, DPut.k (k := .inr s) (e _ _ hd) (sz_lt (by omega)), k H2 e⟩
end
/-! ### the state -/
def stD (g c : Addr) (r t : Int) : List (Key × V) := [(.inr "great", .ref g), (.inr "cells", .ref c), (.inr "rest", .int r), (.inr "turn", .int t)]
theorem stD_great {g c : Addr} {r t : Int} : valV (stD g c r t) (.inr "great") = some (.ref g) := rfl
theorem stD_cells {g c : Addr} {r t : Int} : valV (stD g c r t) (.inr "cells") = some (.ref c) := rfl
theorem stD_rest {g c : Addr} {r t : Int} : valV (stD g c r t) (.inr "rest") = some (.int r) := rfl
theorem stD_turn {g c : Addr} {r t : Int} : valV (stD g c r t) (.inr "turn") = some (.int t) := rfl
theorem put_rest {g c : Addr} {r t x : Int} : putK (stD g c r t) (.inr "rest") (.int x) = stD g c x t := rfl
theorem put_turn {g c : Addr} {r t x : Int} : putK (stD g c r t) (.inr "turn") (.int x) = stD g c r x := rfl
theorem stD_len {g c : Addr} {r t : Int} : (stD g c r t).length < 1000 := show 4 < 1000 by decide
/-- the moduli of the mixing -/
def primes : List Int := [2147483629, 2147483647, 2147483563, 2147483587]
theorem primes_at (i : Nat) (x : V) (h : (primes.map V.int)[i]? = some x) : ∃ q : Int, x = .int q ∧ 2147483563 ≤ q ∧ q ≤ 2147483647 := by
  rcases i with _ | _ | _ | _ | i
  · cases h; exact ⟨_, rfl, by decide, by decide⟩
  · cases h; exact ⟨_, rfl, by decide, by decide⟩
  · cases h; exact ⟨_, rfl, by decide, by decide⟩
  · cases h; exact ⟨_, rfl, by decide, by decide⟩
  · cases h
structure StD (H : Hp) (a g c : Addr) (gs cs : List Int) (r t : Int) : Prop where
  hd : H a = some (.dK (stD g c r t))
  hg : H g = some (.lst (gs.map V.int))
  hc : H c = some (.lst (cs.map V.int))
  hn : g ≠ c
theorem StD.ag {H : Hp} {a g c : Addr} {gs cs : List Int} {r t : Int} (s : StD H a g c gs cs r t) : a ≠ g := by
  rintro rfl
  have h := s.hd.symm.trans s.hg
  cases h
theorem StD.ac {H : Hp} {a g c : Addr} {gs cs : List Int} {r t : Int} (s : StD H a g c gs cs r t) : a ≠ c := by
  rintro rfl
  have h := s.hd.symm.trans s.hc
  cases h
theorem StD.ex {H H' : Hp} {a g c : Addr} {gs cs : List Int} {r t : Int} (s : StD H a g c gs cs r t) (e : Ex H H') : StD H' a g c gs cs r t := ⟨e _ _ s.hd, e _ _ s.hg, e _ _ s.hc, s.hn⟩
theorem StD.put {H : Hp} {a g c : Addr} {gs cs : List Int} {r t r' t' : Int} (s : StD H a g c gs cs r t) : StD (upd H a (.dK (stD g c r' t'))) a g c gs cs r' t' :=
  ⟨upd_same, by rw [upd_ne s.ag.symm]; exact s.hg, by rw [upd_ne s.ac.symm]; exact s.hc, s.hn⟩
theorem StD.pop {H : Hp} {a g c : Addr} {gs cs gs' : List Int} {r t : Int} (s : StD H a g c gs cs r t) : StD (upd H g (.lst (gs'.map V.int))) a g c gs' cs r t :=
  ⟨by rw [upd_ne s.ag]; exact s.hd, upd_same, by rw [upd_ne s.hn.symm]; exact s.hc, s.hn⟩
/-- the state at a, its list of great ones at g; at most n turns so far -/
def StAt (H : Hp) (a g : Addr) (n : Nat) : Prop := ∃ c gs cs r t, StD H a g c gs cs r t ∧ 0 ≤ t ∧ t ≤ (n : Int)
theorem StAt.ex {H H' : Hp} {a g : Addr} {n : Nat} (s : StAt H a g n) (e : Ex H H') : StAt H' a g n := by
  obtain ⟨c, gs, cs, r, t, s, h⟩ := s
  exact ⟨c, gs, cs, r, t, s.ex e, h⟩
theorem StAt.mono {H : Hp} {a g : Addr} {n m : Nat} (s : StAt H a g n) (e : n ≤ m) : StAt H a g m := by
  obtain ⟨c, gs, cs, r, t, s, h, h'⟩ := s
  exact ⟨c, gs, cs, r, t, s, h, by omega⟩
/-- all but the state stands as it stood -/
def Kp (a g : Addr) (H H' : Hp) : Prop := ∀ b o, H b = some o → b ≠ a → b ≠ g → H' b = some o
theorem Kp.refl {a g : Addr} (H : Hp) : Kp a g H H := fun _ _ h _ _ => h
theorem Kp.trans {a g : Addr} {H H1 H2 : Hp} (x : Kp a g H H1) (y : Kp a g H1 H2) : Kp a g H H2 := fun b o h n m => y b o (x b o h n m) n m
theorem Kp.of {a g : Addr} {H H' : Hp} (e : Ex H H') : Kp a g H H' := fun b o h _ _ => e b o h
theorem Kp.a {a g : Addr} {H : Hp} {o : HO} : Kp a g H (upd H a o) := fun b u h n _ => by rw [upd_ne n]; exact h
theorem Kp.g {a g : Addr} {H : Hp} {o : HO} : Kp a g H (upd H g o) := fun b u h _ n => by rw [upd_ne n]; exact h
/-- the heap without the state -/
def hide (a g : Addr) (H : Hp) : Hp := fun b => if b = a ∨ b = g then none else H b
theorem hide_ex {a g : Addr} {H : Hp} : Ex (hide a g H) H := fun b o h => by
  unfold hide at h
  by_cases q : b = a ∨ b = g
  · rw [if_pos q] at h; cases h
  · rw [if_neg q] at h; exact h
theorem Kp.hide {a g : Addr} {H H' : Hp} (k : Kp a g H H') : Ex (hide a g H) (hide a g H') := fun b o h => by
  unfold Lk.hide at h ⊢
  by_cases q : b = a ∨ b = g
  · rw [if_pos q] at h; cases h
  · rw [if_neg q] at h ⊢
    exact k b o h (fun z => q (.inl z)) fun z => q (.inr z)
theorem hide_tx {a g : Addr} {n : Nat} {H : Hp} (s : StAt H a g n) : Tx H (hide a g H) := by
  obtain ⟨c, gs, cs, r, t, s, _⟩ := s
  rintro b xs h
  have hb : ¬ (b = a ∨ b = g) := by
    rintro (rfl | rfl)
    · rcases h with h | ⟨q, h⟩
      · have := s.hd.symm.trans h; cases this
      · have := s.hd.symm.trans h; cases this
    · rcases h with h | ⟨q, h⟩
      · have := s.hg.symm.trans h; cases this
      · have := s.hg.symm.trans h; cases this
  unfold Rd hide
  rw [if_neg hb]
  exact h
theorem Kp.tx {a g : Addr} {n : Nat} {H H' : Hp} (k : Kp a g H H') (s : StAt H a g n) : Tx H H' := (hide_tx s).trans ((Ex.tx k.hide).trans (Ex.tx hide_ex))
theorem hide_new {a g p : Addr} {n : Nat} {H : Hp} {o : HO} (s : StAt H a g n) (hp : H p = none) : hide a g (upd H p o) = upd (hide a g H) p o := by
  obtain ⟨c, gs, cs, r, t, s, _⟩ := s
  have h1 : p ≠ a := by
    rintro rfl
    have := s.hd.symm.trans hp; cases this
  have h2 : p ≠ g := by
    rintro rfl
    have := s.hg.symm.trans hp; cases this
  funext b
  unfold hide
  by_cases q : b = p
  · subst q
    rw [if_neg (by rintro (z | z) <;> contradiction), upd_same, upd_same]
  · rw [upd_ne q, upd_ne q]
theorem dp_hide {K : PySem.W.Frag} {a g : Addr} {n : Nat} {H : Hp} {v : V} {d : PyData} (s : StAt H a g n) (t : tupo d = true) (h : Dp K H v d) : Dp K (hide a g H) v d := dp_tx (hide_tx s) d v t h
theorem dp_kp {K : PySem.W.Frag} {a g : Addr} {n : Nat} {H H' : Hp} {v : V} {d : PyData} (k : Kp a g H H') (s : StAt H a g n) (t : tupo d = true) (h : Dp K H v d) : Dp K H' v d := dp_tx (k.tx s) d v t h
/-! ### what runs along with the state -/
/-- from any later heap with the state within n turns: ends with data that keep Φ, the state within m -/
def EvS (K : PySem.W.Frag) (a g : Addr) (te : TE) (σ : L2.St) (H : Hp) (n m : Nat) (Φ : PyData → Prop) : Prop :=
  ∀ H1, Kp a g H H1 → StAt H1 a g n → ∀ Q : VK, (∀ v d H2, Φ d → Kp a g H1 H2 → StAt H2 a g m → Dp K (hide a g H2) v d → Q v H2) → te σ H1 Q
def EvSA (K : PySem.W.Frag) (a g : Addr) (ta : TA) (σ : L2.St) (H : Hp) (n m : Nat) (l : Nat) (Φ : PyData → Prop) : Prop :=
  ∀ H1, Kp a g H H1 → StAt H1 a g n → ∀ Q : List V → Hp → Prop, (∀ vs ds H2, ds.length = l → (∀ d ∈ ds, Φ d) → Kp a g H1 H2 → StAt H2 a g m → DpAll K (hide a g H2) vs ds → Q vs H2) → ta σ H1 Q
section
variable {K : PySem.W.Frag} {a g : Addr} {σ : L2.St} {H H' : Hp} {ta tb te : TE} {tr : TA} {n m k l : Nat} {Φ Ψ : PyData → Prop} {d : PyData}
theorem es_of (t : tupo d = true) (p : Φ d) (h : ∀ H1, Kp a g H H1 → StAt H1 a g n → EvD K te σ H1 d) : EvS K a g te σ H n n Φ := fun H1 k s Q q =>
  h H1 k s H1 (Ex.refl H1) Q fun v H2 e hv => q v d H2 p (Kp.of e) (s.ex e) (dp_hide (s.ex e) t hv)
theorem es_imp (h : EvS K a g te σ H n m Φ) (i : ∀ d, Φ d → Ψ d) : EvS K a g te σ H n m Ψ := fun H1 k s Q q => h H1 k s Q fun v d H2 p => q v d H2 (i d p)
theorem es_le (h : EvS K a g te σ H n m Φ) (i : m ≤ k) : EvS K a g te σ H n k Φ := fun H1 k s Q q => h H1 k s Q fun v d H2 p k2 s2 => q v d H2 p k2 (s2.mono i)
theorem es_kp (h : EvS K a g te σ H n m Φ) (x : Kp a g H H') : EvS K a g te σ H' n m Φ := fun H1 k s Q q => h H1 (x.trans k) s Q q
/-- i op (a draw) -/
theorem es_I0 {f : Int → Int → Int} {i : Int} {p : Int → Prop} (ha : ∀ H1, Kp a g H H1 → StAt H1 a g n → Ev ta σ H1 (.int i)) (hb : EvS K a g tb σ H n m (fun d => ∃ j, d = .int j ∧ p j)) (hp : ∀ j, p j → Φ (.int (f i j))) :
    EvS K a g (tOp (rI0 fun i j => .int (f i j)) ta tb) σ H n m Φ := fun H1 k s Q q => ha H1 k s H1 (Ex.refl H1) _ fun H2 e => hb H2 (k.trans (Kp.of e)) (s.ex e) _ fun v d H3 hd k3 s3 hv => by
  obtain ⟨j, rfl, pj⟩ := hd
  obtain rfl := dp_int hv
  exact ⟨i, j, rfl, rfl, q _ _ H3 (hp j pj) ((Kp.of e).trans k3) s3 (.int _)⟩
theorem esa_nil : EvSA K a g tNil σ H n n 0 Φ := fun H1 _ s Q q => q [] [] H1 rfl (fun _ h => nomatch h) (Kp.refl H1) s .nil
theorem esa_cons (h : EvS K a g te σ H n m Φ) (hr : EvSA K a g tr σ H m k l Φ) : EvSA K a g (tCons te tr) σ H n k (l + 1) Φ := fun H1 k1 s1 Q q =>
  h H1 k1 s1 _ fun v d H2 p k2 s2 hv => hr H2 (k1.trans k2) s2 _ fun vs ds H3 hl ps k3 s3 hvs => q (v :: vs) (d :: ds) H3 (by rw [List.length_cons, hl]) (fun e he => by
    rcases List.mem_cons.mp he with rfl | he
    · exact p
    · exact ps e he) (k2.trans k3) s3 (.cons (dp_ex k3.hide _ _ hv) hvs)
/-- a new list of such -/
theorem es_lst (h : EvSA K a g tr σ H n m l Φ) (hl : l ≤ 1000) : EvS K a g (tLst tr) σ H n m (fun d => ∃ ds, d = .list ds ∧ ds.length = l ∧ ∀ d ∈ ds, Φ d) := fun H1 k s Q q =>
  h H1 k s _ fun vs ds H2 e ps k2 s2 hv => ⟨sz_of (by rw [dps_len hv]; omega), fun p hp => q _ (.list ds) _ ⟨ds, rfl, e, ps⟩ (k2.trans (Kp.of (Ex.new hp))) (s2.ex (Ex.new hp)) (by
    rw [hide_new s2 hp]
    have hp' : hide a g H2 p = none := by
      unfold hide
      rw [hp, ite_self]
    exact .lst (sq_of upd_same) (dps_ex (Ex.new hp') _ _ hv))⟩
theorem es_if {b : Bool} {t : TT} (h : ∀ H1, Kp a g H H1 → StAt H1 a g n → EvT t σ H1 b) (h1 : b = true → EvS K a g ta σ H n m Φ) (h2 : b = false → EvS K a g tb σ H n m Φ) : EvS K a g (tIf t ta tb) σ H n m Φ := fun H1 k s Q q =>
  h H1 k s H1 (Ex.refl H1) _ fun H2 e => by
    cases b with
    | true =>
      show ta σ H2 Q
      exact h1 rfl H2 (k.trans (Kp.of e)) (s.ex e) Q fun v d H3 p k3 => q v d H3 p ((Kp.of e).trans k3)
    | false =>
      show tb σ H2 Q
      exact h2 rfl H2 (k.trans (Kp.of e)) (s.ex e) Q fun v d H3 p k3 => q v d H3 p ((Kp.of e).trans k3)
end
/-! ### the four helpers' promises -/
/-- draws beyond this number are not told -/
def far : Nat := 1000000000000
def spMixed : Sp := fun vs H Q _ => ∃ a g n, vs = [.ref a] ∧ StAt H a g n ∧ n < far ∧ ∀ x H', Kp a g H H' → StAt H' a g (n + 1) → Q (.int x) H'
def spDraw : Sp := fun vs H Q _ => ∃ a g n room, vs = [.ref a, .int room] ∧ StAt H a g n ∧ n < far ∧ 0 < room ∧ room.natAbs.log2 < 9000 ∧ ∀ x H', 0 ≤ x → x < room → Kp a g H H' → StAt H' a g (n + 1) → Q (.int x) H'
def spPick (K : PySem.W.Frag) : Sp := fun vs H Q _ => ∃ a g n v ds, vs = [.ref a, v] ∧ StAt H a g n ∧ n < far ∧ Dp K (hide a g H) v (.list ds) ∧ 0 < ds.length ∧ ds.length ≤ 1000 ∧
  ∀ w d H', d ∈ ds → Kp a g H H' → StAt H' a g (n + 1) → Dp K (hide a g H') w d → Q w H'
def spBegun (K : PySem.W.Frag) : Sp := fun vs H Q _ => ∃ (l : Addr) (cs : List Int), vs = [.ref l] ∧ SqL K H l (cs.map V.int) ∧ cs.length ≤ 40000 ∧ ∀ a g H', Ex H H' → StAt H' a g 0 → H a = none → H g = none → Q (.ref a) H'
section
variable {K : PySem.W.Frag} {a g : Addr} {σ : L2.St} {H H' : Hp} {td te tl : TE} {tr : TA} {n m k l : Nat} {Φ Ψ : PyData → Prop} {room : Int}
theorem es_draw (hs : ∀ H1, Ev td σ H1 (.ref a)) (hr : ∀ H1, Ev te σ H1 (.int room)) (hn : n < far) (h0 : 0 < room) (hz : room.natAbs.log2 < 9000) :
    EvS K a g (tCall spDraw [] E0 (tCons td (tCons te tNil))) σ H n (n + 1) (fun d => ∃ x, d = .int x ∧ 0 ≤ x ∧ x < room) := fun H1 k s Q q =>
  hs H1 H1 (Ex.refl H1) _ fun H2 e2 => hr H2 H2 (Ex.refl H2) _ fun H3 e3 => ⟨a, g, n, room, rfl, s.ex (e2.trans e3), hn, h0, hz, fun x H' x0 x1 k' s' => q (.int x) (.int x) H' ⟨x, rfl, x0, x1⟩ ((Kp.of (e2.trans e3)).trans k') s' (.int x)⟩
theorem es_pick (hs : ∀ H1, Ev td σ H1 (.ref a)) (hr : EvS K a g tl σ H n m (fun d => ∃ ds, d = .list ds ∧ ds.length = l ∧ ∀ d ∈ ds, Φ d)) (hn : m < far) (h0 : 0 < l) (hl : l ≤ 1000) :
    EvS K a g (tCall (spPick K) [] E0 (tCons td (tCons tl tNil))) σ H n (m + 1) Φ := fun H1 k s Q q =>
  hs H1 H1 (Ex.refl H1) _ fun H2 e2 => hr H2 (k.trans (Kp.of e2)) (s.ex e2) _ fun v d H3 hd k3 s3 hv => by
    obtain ⟨ds, rfl, e, ps⟩ := hd
    exact ⟨a, g, m, v, ds, rfl, s3, hn, hv, by omega, by omega, fun w d H' hd k' s' hw => q w d H' (ps d hd) (((Kp.of e2).trans k3).trans k') s' hw⟩
/-- the pick from a new list -/
theorem es_pickL (hs : ∀ H1, Ev td σ H1 (.ref a)) (hr : EvSA K a g tr σ H n m l Φ) (hn : m < far) (h0 : 0 < l) (hl : l ≤ 1000) :
    EvS K a g (tCall (spPick K) [] E0 (tCons td (tCons (tLst tr) tNil))) σ H n (m + 1) Φ := es_pick hs (es_lst hr hl) hn h0 hl
/-- a run of such a reading -/
theorem es_run {Q : VK} (h : EvS K a g te σ H n m Φ) (s : StAt H a g n) (q : ∀ v d H2, Φ d → Kp a g H H2 → StAt H2 a g m → Dp K (hide a g H2) v d → Q v H2) : te σ H Q := h H (Kp.refl H) s Q q
theorem s_asgS {i : Nat} {D : Ends} (h : EvS K a g te σ H n m Φ) (s : StAt H a g n) (q : ∀ v d H2, Φ d → Kp a g H H2 → StAt H2 a g m → Dp K (hide a g H2) v d → D.nx (σ.set i (some v)) H2) : tAsg te (gName i) D σ H := h H (Kp.refl H) s _ q
theorem q_asgS {i : Nat} {D : Ends} {tz : TS} (h : EvS K a g te σ H n m Φ) (s : StAt H a g n) (q : ∀ v d H2, Φ d → Kp a g H H2 → StAt H2 a g m → Dp K (hide a g H2) v d → tz D (σ.set i (some v)) H2) : tSeq (tAsg te (gName i)) tz D σ H := h H (Kp.refl H) s _ q
theorem s_retS {D : Ends} (h : EvS K a g te σ H n m Φ) (s : StAt H a g n) (q : ∀ v d H2, Φ d → Kp a g H H2 → StAt H2 a g m → Dp K (hide a g H2) v d → D.rt v H2) : tRet te D σ H := h H (Kp.refl H) s _ q
end
/-- THE RULE for a def told by a run -/
theorem fn_run {P : Program} {w : World} {K : PySem.W.Frag} {mg : Str → Option Value} {base : Heap} {x qual : Str} {params : Arguments} {body : List Stmt} {scope : Scope} {f : Addr} {fd : FuncData} {N ps : List Str} {k : Nat} {sp : Sp}
    (D : FunD K x qual params body scope [] [] f fd) (S : FnScope N ps scope) (hl : ∀ vs H Q E, sp vs H Q E → vs.length = ps.length)
    (h : ∀ (cdv : Value) (A : Around) (outer : List Env) (s : Shared) (H : Hp) (E : XK), Room k (A.deeper (envOfC qual scope s.heap.objs.size f cdv)) →
      ∃ t, PSs (cxOf CX0 P w K mg base N qual scope f cdv A outer s H E).nox body t ∧ ∀ (vs : List V) (Q : VK), sp vs H Q E → t { nx := fun _ H' => Q .non H', rt := Q } (start N vs) H) :
    FnOk P w K mg base CX0 (k + 1) f fd ps sp := by
  refine D.ok S hl (fun cdv A outer s H vs Q E hr q => ?_)
  obtain ⟨t, h1, h2⟩ := h cdv A outer s H E hr
  exact ⟨t, h1.nox, h2 vs Q q⟩
/-! ### small readings -/
section
variable {K : PySem.W.Frag} {σ : L2.St} {H : Hp} {ta tb : TE} {b : Bool} {t : TT} {Q : VK} {r : R2}
theorem r_if (h : EvT t σ H b) (h1 : b = true → ∀ H1, Ex H H1 → ta σ H1 Q) (h2 : b = false → ∀ H1, Ex H H1 → tb σ H1 Q) : tIf t ta tb σ H Q := h H (Ex.refl H) _ fun H1 e => by
  cases b with
  | true =>
    show ta σ H1 Q
    exact h1 rfl H1 e
  | false =>
    show tb σ H1 Q
    exact h2 rfl H1 e
/-- the pairs of a display whose keys are texts -/
theorem r_pairEv {s : Str} {v : V} {rest : List (TE × TE)} {R : List (V × V) → Hp → Prop} (h : Ev ta σ H v) (k : ∀ H1, Ex H H1 → tPairs rest σ H1 fun ps H3 => R ((.str s, v) :: ps) H3) : tPairs ((tC (.str s), ta) :: rest) σ H R := h H (Ex.refl H) _ k
theorem r_pairEvL {s : Str} {xs : List V} {rest : List (TE × TE)} {R : List (V × V) → Hp → Prop} (h : EvL ta σ H xs) (k : ∀ p H1, H p = none → Ex H H1 → H1 p = some (.lst xs) → tPairs rest σ H1 fun ps H3 => R ((.str s, .ref p) :: ps) H3) : tPairs ((tC (.str s), ta) :: rest) σ H R := h H (Ex.refl H) _ k
/-- xs.pop(0) -/
theorem r_pop0 {g : Addr} {x : V} {xs : List V} (h : Ev ta σ H (.ref g)) (hg : H g = some (.lst (x :: xs))) (k : ∀ H1, Ex H H1 → Q x (upd H1 g (.lst xs))) : tBM K "list" rPopAt ta (tCons (tC (.int 0)) tNil) σ H Q :=
  h H (Ex.refl H) _ fun H1 e => ⟨Or.inl ⟨rfl, x :: xs, sq_of (e _ _ hg)⟩, g, x :: xs, 0, 0, x, rfl, rfl, e _ _ hg, by decide, by decide, (by
    unfold seqIndex?
    simp), rfl, k H1 e⟩
end
theorem dec_vi' (i j : Int) : decide (V.int i = V.int j) = decide (i = j) := by
  by_cases h : i = j
  · subst h; simp
  · rw [decide_eq_false h, decide_eq_false]
    intro q
    exact h (V.int.inj q)
theorem ints_lay : ∀ ns : List Int, PyData.canLayAll0 (ns.map PyData.int) = true
  | [] => by simp [PyData.canLayAll0]
  | n :: ns => by simp [PyData.canLayAll0, PyData.canLay0, ints_lay ns]
theorem ints_depth : ∀ ns : List Int, PyData.depthAll (ns.map PyData.int) ≤ 2
  | [] => by simp [PyData.depthAll]
  | n :: ns => by
    have h1 := ints_depth ns
    simp only [List.map_cons, PyData.depthAll, PyData.depth]
    omega
theorem sh_ints (ns : List Int) : SeqAt.shaped (.list (ns.map PyData.int)) = true := by
  have h1 := ints_depth ns
  have h2 : PyData.depth (.list (ns.map PyData.int)) ≤ 64 := by
    simp only [PyData.depth]
    omega
  unfold SeqAt.shaped
  rw [decide_eq_true h2, PyData.canLay0, ints_lay]
  rfl
theorem log2_small {n : Nat} (h : n ≤ 1000) : ((n : Int)).natAbs.log2 < 9000 := by
  have e : ((n : Int)).natAbs = n := Int.natAbs_natCast n
  rw [e]
  by_cases q : n = 0
  · subst q; decide
  · exact (Nat.log2_lt q).mpr (Nat.lt_of_le_of_lt h (Nat.lt_of_lt_of_le (show 1000 < 2 ^ 10 by decide) (Nat.pow_le_pow_right (by decide) (by decide))))
end Lk

/-! part LkLam -/
/-! Lk, part 7: defs that hand a lambda to «caught»; what stands through it. -/
namespace Lk
open PySem PySem.Spec PyProof.Rows L2 Evl LamX
/-! ### heaps -/
/-- all but the state and the tables stands -/
def Kn (a g : Addr) (H H' : Hp) : Prop := ∀ b o, H b = some o → b ≠ a → b ≠ g → (∀ ps, o ≠ .tbl ps) → H' b = some o
theorem Kn.refl {a g : Addr} (H : Hp) : Kn a g H H := fun _ _ h _ _ _ => h
theorem Kn.trans {a g : Addr} {H H1 H2 : Hp} (x : Kn a g H H1) (y : Kn a g H1 H2) : Kn a g H H2 := fun b o h n m t => y b o (x b o h n m t) n m t
theorem Kn.kp {a g : Addr} {H H' : Hp} (k : Kp a g H H') : Kn a g H H' := fun b o h n m _ => k b o h n m
theorem Kn.of {a g : Addr} {H H' : Hp} (e : Ex H H') : Kn a g H H' := fun b o h _ _ _ => e b o h
theorem Kn.ext {a g : Addr} {H H' : Hp} (e : ExtN H H') : Kn a g H H' := fun b o h _ _ t => e b o h t
theorem Kn.tx {a g : Addr} {n : Nat} {H H' : Hp} (k : Kn a g H H') (s : StAt H a g n) : Tx H H' := fun b xs h => by
  obtain ⟨c, gs, cs, r, t, s, _⟩ := s
  have hb : b ≠ a := by
    rintro rfl
    rcases h with h | ⟨q, h⟩ <;> exact nomatch s.hd.symm.trans h
  have hg : b ≠ g := by
    rintro rfl
    rcases h with h | ⟨q, h⟩ <;> exact nomatch s.hg.symm.trans h
  rcases h with h | ⟨q, h⟩
  · exact .inl (k b _ h hb hg fun ps z => nomatch z)
  · exact .inr ⟨q, k b _ h hb hg fun ps z => nomatch z⟩
theorem extN_tx {H H' : Hp} (e : ExtN H H') : Tx H H' := fun b xs h => by
  rcases h with h | ⟨q, h⟩
  · exact .inl (e b _ h fun ps z => nomatch z)
  · exact .inr ⟨q, e b _ h fun ps z => nomatch z⟩
theorem StAt.ext {H H' : Hp} {a g : Addr} {n : Nat} (s : StAt H a g n) (e : ExtN H H') : StAt H' a g n := by
  obtain ⟨c, gs, cs, r, t, s, h⟩ := s
  exact ⟨c, gs, cs, r, t, ⟨e _ _ s.hd (fun ps z => nomatch z), e _ _ s.hg (fun ps z => nomatch z), e _ _ s.hc (fun ps z => nomatch z), s.hn⟩, h⟩
mutual
theorem dp_ext {K : PySem.W.Frag} {H H' : Hp} (e : ExtN H H') : ∀ (d : PyData) (v : V), Dp K H v d → Dp K H' v d
  | .none, _, .non => .non
  | .bool b, _, .bl _ => .bl b
  | .int i, _, .int _ => .int i
  | .str x, _, .str _ => .str x
  | .list ds, _, .lst s a => .lst (by
      rcases s with (s | ⟨q, s⟩) | s
      · exact .inl (.inl (e _ _ s fun ps z => nomatch z))
      · exact .inl (.inr ⟨q, e _ _ s fun ps z => nomatch z⟩)
      · exact .inr s) (dps_ext e ds _ a)
  | .tuple ds, _, .tup s a => .tup (by
      rcases s with s | s
      · exact .inl (extN_tx e _ _ s)
      · exact .inr s) (dps_ext e ds _ a)
theorem dps_ext {K : PySem.W.Frag} {H H' : Hp} (e : ExtN H H') : ∀ (ds : List PyData) (vs : List V), DpAll K H vs ds → DpAll K H' vs ds
  | [], _, .nil => .nil
  | d :: ds, _, .cons h r => .cons (dp_ext e d _ h) (dps_ext e ds _ r)
end
theorem codeO_nd {c : Addr} {q : Str} : (∀ kvs, CodeO c q ≠ .dK kvs) ∧ ∀ xs, CodeO c q ≠ .lst xs := ⟨(fun _ z => nomatch z), (fun _ z => nomatch z)⟩
/-- the tables stand through the draws -/
theorem Tabs.kp {T : List (Addr × Str)} {a g : Addr} {n : Nat} {H H' : Hp} (t : Tabs T H) (s : StAt H a g n) (k : Kp a g H H') : Tabs T H' := fun p hp => by
  obtain ⟨c, gs, cs, r, t', s, _⟩ := s
  obtain ⟨ps, h1, h2, h3⟩ := t p hp
  have ne : ∀ b o, H b = some o → (∀ kvs, o ≠ .dK kvs) → (∀ xs, o ≠ .lst xs) → H' b = some o := fun b o h n1 n2 => k b o h (by
    rintro rfl
    exact n1 _ (Option.some.inj (h.symm.trans s.hd))) (by
    rintro rfl
    exact n2 _ (Option.some.inj (h.symm.trans s.hg)))
  refine ⟨ps, ne _ _ h1 (fun _ z => nomatch z) (fun _ z => nomatch z), h2, fun pos cv hc => ?_⟩
  obtain ⟨c, e1, e2⟩ := h3 pos cv hc
  exact ⟨c, e1, ne _ _ e2 codeO_nd.1 codeO_nd.2⟩
/-! ### a def that makes lambdas -/
/-- what stands of the code object of the def x, of its table -/
structure LamD (K : PySem.W.Frag) (mg : Str → Option Value) (base : Heap) (T : List (Addr × Str)) (x q : Str) : Prop where
  tb : TabB base mg (He.codeOf K (x, none)) (He.tabOf K (He.codeOf K (x, none)))
  mem : (He.tabOf K (He.codeOf K (x, none)), q) ∈ T
  one : ∀ p ∈ T, p.1 = He.tabOf K (He.codeOf K (x, none)) → p.2 = q
/-- THE RULE for such a def, told by a run -/
theorem fn_lam {P : Program} {w : World} {K : PySem.W.Frag} {mg : Str → Option Value} {base : Heap} {x qual : Str} {params : Arguments} {body : List Stmt} {scope : Scope} {fd : FuncData} {N ps : List Str} {k : Nat} {sp : Sp} {f : Addr} {y : Str}
    (D : FunD K x qual params body scope [] [] f fd) (hf : f = He.fAd K (y, none)) (S : FnScope N ps scope) (hl : ∀ vs H Q E, sp vs H Q E → vs.length = ps.length)
    (h : ∀ (A : Around) (outer : List Env) (s : Shared) (H : Hp) (E : XK), Room k (A.deeper (envOfC qual scope s.heap.objs.size f (.ref (He.codeOf K (y, none))))) →
      ∃ t, PSs (cxOf CX0 P w K mg base N qual scope f (.ref (He.codeOf K (y, none))) A outer s H E).nox body t ∧ ∀ (vs : List V) (Q : VK), sp vs H Q E → t { nx := fun _ H' => Q .non H', rt := Q } (start N vs) H) :
    FnOk P w K mg base CX0 (k + 1) f fd ps sp := by
  obtain ⟨oc, od, dV, kV, doc, pm, an, cdv, ct, osl, rfl, lk, hcd, _, _⟩ := D.ex
  obtain ⟨c, rfl⟩ := He.codeIn_ref hcd
  have e : He.codeOf K (y, none) = c := He.codeOf_eq (by rw [← hf]; exact lk) rfl
  rw [e] at h
  refine fn_of lk hcd S hl fun A outer s H vs Q E hr hsp => ?_
  obtain ⟨t, h1, h2⟩ := h A outer s H E hr
  exact ⟨t, h1.nox, h2 vs Q hsp⟩
/-- the reading of caught(lambda: f(..)), f a def that may raise -/
def tCg (T : List (Addr × Str)) (K : PySem.W.Frag) (CS : Addr) (sp : Sp) (ta : TA) : TE := tLam T (TCaught K CS) fun E => tCallS sp (WE fun cls d _ H => E cls d H) ta
section
variable {X : Cx}
theorem pe_caught {T : List (Addr × Str)} {CS g : Addr} {k : Nat} {pg : Arguments} {bg : List Stmt} {sg : Scope} {fd : FuncData} {x a n y e q xd : Str} {sp : Sp} {ta : TA}
    {params : Arguments} {body : Expr} {scope : Scope} {p lpos pos : Pos} {j : Nat} {p1 p2 p3 p4 p5 p6 p7 p8 p9 q1 q2 q3 q4 q5 : Pos}
    (D : FunD X.K x x pg bg sg [] [] g fd) (hg : Gl X x) (hm : X.mg x = some (.ref g))
    (hbg : bg = [.Assign [.Name y q1] (.Constant .none j q2) q3,
      .Try [.Expr (.Call (.Name a p1) [] [] p2) p3] [.ExceptHandler (some (.Name e p4)) (some n) [.Assign [.Name y p5] (.Name n p6) p7] p8] [] [] p9,
      .Return (some (.Name y q4)) q5])
    (hbp : ∀ (kV doc pm : Value) (an : Option Addr) (cdv ct : Value) (us : List Value), us.length = [a].length → bindArgs (PySem.W.fnOf x x pg bg sg .none kV doc pm an cdv ct) ⟨us, []⟩ = pure ([a].zip us))
    (Sg : FnScope [a, y, n] [a] sg) (hnd : [a, y, n].Nodup) (hva : Vis sg a)
    (hge : sg.names.lookup e = some .globalImplicit) (hme : X.mg e = some (.ref CS)) (hde : (e == ("__debug__" : Str)) = false)
    (hy : sg.names.lookup y = some .local) (hn : sg.names.lookup n = some .local)
    (hdb : (n == ("__debug__" : Str)) = false) (hcd : (n == ("__classdict__" : Str)) = false)
    (hdb2 : (y == ("__debug__" : Str)) = false) (hcd2 : (y == ("__classdict__" : Str)) = false)
    (hdx : (x == ("__debug__" : Str)) = false) (hda : (a == ("__debug__" : Str)) = false) (hca : (a == ("__classdict__" : Str)) = false)
    (LD : LamD X.K X.mg X.base T xd q) (hcode : X.env.code = .ref (He.codeOf X.K (xd, none))) (hq : X.env.qual ++ "<lambda>" = q) (hr : Room (k + 2) X.A) (L : LamS X.env.scope scope) (hdef : defaultsOf params X.env = ([], []))
    (hbind : ∀ (q : Str) (cl : List (Str × Addr)) (pm cv ctv : Value), bindArgs (PySem.W.kla_fn "<lambda>" q params body scope cl pm cv ctv) ⟨[], []⟩ = pure [])
    (hbody : ∀ (A : Around) (outer : List Env) (s : Shared) (H : Hp) (E : XK) (f c' : Addr), Room k (A.deeper (lamEnv X scope s.heap.objs.size f c')) → PE (lamCx X A outer s H E scope f c') body (tCallS sp (WE fun cls d _ H => E cls d H) ta)) :
    PE X (.Call (.Name x p) [.Lambda params body scope lpos] [] pos) (tCg T X.K CS sp ta) := by
  have kp := D.kp
  have hb := D.bindsN hbp
  obtain ⟨oc, od, dV, kV, doc, pm, an, cdv, ct, osl, rfl, lk, hcdx, _, _⟩ := D.ex
  subst hbg hq
  exact pe_lamcall (k := k) (a := a) (Ng := [a, y, n]) hg hm kp lk hcdx hb Sg rfl hva (caught_gives rfl hnd hge hme hde hy hn hdb hcd hdb2 hcd2) LD.tb hcode LD.mem LD.one hr L hdef hbind hbody hdx hda hca
end
section
variable {K : PySem.W.Frag} {T : List (Addr × Str)} {CS C : Addr} {σ : L2.St} {H : Hp} {R : Rel} {ta : TA} {Q : VK} {ds : List PyData}
/-- it raises: the exception is handed back -/
theorem r_caught (t : Tabs T H) (h : ∀ H1, ExtN H H1 → EvDA K ta σ H1 ds) (hR : R ds (.error C)) (hx : PySem.W.exmOne K (.ref C) (.ref CS) = some true)
    (k : ∀ a H', ExtN H H' → Tabs T H' → H' a = some (ExV (.ref C) none a) → Q (.ref a) H') : tCg T K CS (spD K R) ta σ H Q :=
  ⟨t, fun H1 e1 t1 => h H1 e1 H1 (Ex.refl H1) _ fun vs H2 e2 hv => ⟨ds, _, hv, hR, (fun d z => nomatch z), fun C' e H3 e3 => by
    cases e
    refine ⟨true, hx, fun _ a ha => ?_, fun z => nomatch z⟩
    have e4 : Ex H1 (upd H3 a (ExV (.ref C) none a)) := (e2.trans e3).trans (Ex.new ha)
    exact k a _ (e1.trans (ExtN.of e4)) (t1.ext e4) upd_same⟩⟩
/-- isinstance of what was caught -/
theorem r_isEV {te tc : TE} {a : Addr} {c : V} {cv : Value} {b : Bool} (he : Ev te σ H (.ref a)) (hc : ∀ H1, Ex H H1 → Ev tc σ H1 c) (ha : H a = some (ExV (.ref C) none a)) (hC : ExcC K C) (hv : ClsV c cv) (hk : PySem.W.kitOne K (.ref C) cv = some b)
    (k : ∀ H1, Ex H H1 → Q (.bl b) H1) : tCB (rIsEV K) (tCons te (tCons tc tNil)) σ H Q :=
  he H (Ex.refl H) _ fun H1 e1 => hc H1 e1 H1 (Ex.refl H1) _ fun H2 e2 => ⟨a, C, c, cv, b, rfl, e2 _ _ (e1 _ _ ha), hC, hv, hk, k H2 (e1.trans e2)⟩
theorem ev_isEV {te tc : TE} {a : Addr} {c : V} {cv : Value} {b : Bool} (he : Ev te σ H (.ref a)) (hc : ∀ H1, Ex H H1 → Ev tc σ H1 c) (ha : H a = some (ExV (.ref C) none a)) (hC : ExcC K C) (hv : ClsV c cv) (hk : PySem.W.kitOne K (.ref C) cv = some b) :
    Ev (tCB (rIsEV K) (tCons te (tCons tc tNil))) σ H (.bl b) := fun H1 e Q q => r_isEV (he.mono e) (fun H2 e2 => hc H2 (e.trans e2)) (e _ _ ha) hC hv hk q
end
/-! ### a, b, c = a tuple; x in a new list -/
section
variable {K K' : PySem.W.Frag} {σ : L2.St} {H : Hp} {te : TE} {D : Ends} {tz : TS} {i j l : Nat} {d1 d2 d3 : PyData}
theorem q_unpD3 (h : EvD K te σ H (.tuple [d1, d2, d3])) (hK : K' = K) (k : ∀ v1 v2 v3 H1, Ex H H1 → Dp K H1 v1 d1 → Dp K H1 v2 d2 → Dp K H1 v3 d3 → tz D (((σ.set i (some v1)).set j (some v2)).set l (some v3)) H1) :
    tSeq (tAsg te (gTup K' 3 (gCons (gName i) (gCons (gName j) (gCons (gName l) gNil))))) tz D σ H := by
  subst hK
  refine h H (Ex.refl H) _ fun v H1 e hv => ?_
  obtain ⟨p, xs, rfl, hs, hx⟩ := dp_tup hv
  obtain _ | ⟨h1, _ | ⟨h2, _ | ⟨h3, _ | _⟩⟩⟩ := hx
  exact ⟨p, _, rfl, hs, rfl, _, _, rfl, _, _, rfl, _, _, rfl, rfl, k _ _ _ H1 e h1 h2 h3⟩
theorem q_unpD2 (h : EvD K te σ H (.tuple [d1, d2])) (hK : K' = K) (k : ∀ v1 v2 H1, Ex H H1 → Dp K H1 v1 d1 → Dp K H1 v2 d2 → tz D ((σ.set i (some v1)).set j (some v2)) H1) :
    tSeq (tAsg te (gTup K' 2 (gCons (gName i) (gCons (gName j) gNil)))) tz D σ H := by
  subst hK
  refine h H (Ex.refl H) _ fun v H1 e hv => ?_
  obtain ⟨p, xs, rfl, hs, hx⟩ := dp_tup hv
  obtain _ | ⟨h1, _ | ⟨h2, _ | _⟩⟩ := hx
  exact ⟨p, _, rfl, hs, rfl, _, _, rfl, _, _, rfl, rfl, k _ _ H1 e h1 h2⟩
theorem ev_inNew {neg : Bool} {ta : TE} {tl : TA} {x : V} {xs : List V} (ha : Ev ta σ H x) (hb : EvA tl σ H xs) (hl : xs.length ≤ 100000) (hx : flatV x = true) (hs : xs.all flatV = true) : Ev (tOp (rIn K neg) ta (tLst tl)) σ H (.bl (if neg then !inV x xs else inV x xs)) :=
  ev_opL ha (el_lst hb hl) fun p H1 hp _ => rv_inL (sq_of hp) hx hs
end
end Lk

/-! part LkRun -/
/-! Lk, part 8: defs that draw: promises, displays, loops; data in a tuple of data. -/
namespace Lk
open PySem PySem.Spec PyProof.Rows L2 Evl LamX
/-! ### promises -/
/-- a def that draws at most c times, its other arguments the data ds with A ds, its answer Φ ds -/
def spSt (K : PySem.W.Frag) (c : Nat) (A : List PyData → Prop) (Φ : List PyData → PyData → Prop) : Sp := fun vs H Q _ => ∃ a g n ws ds, vs = .ref a :: ws ∧ StAt H a g n ∧ n + c < far ∧ DpAll K (hide a g H) ws ds ∧ A ds ∧
  ∀ v d H', Φ ds d → Kp a g H H' → StAt H' a g (n + c) → Dp K (hide a g H') v d → Q v H'
/-- .. and makes lambdas -/
def spStL (K : PySem.W.Frag) (T : List (Addr × Str)) (c : Nat) (A : List PyData → Prop) (Φ : List PyData → PyData → Prop) : Sp := fun vs H Q _ => ∃ a g n ws ds, vs = .ref a :: ws ∧ StAt H a g n ∧ n + c < far ∧ Tabs T H ∧ DpAll K (hide a g H) ws ds ∧ A ds ∧
  ∀ v d H', Φ ds d → Kn a g H H' → StAt H' a g (n + c) → Tabs T H' → Dp K (hide a g H') v d → Q v H'
section
variable {K : PySem.W.Frag} {a g : Addr} {σ : L2.St} {H H' : Hp} {td te tl : TE} {ta tr : TA} {n m k l c : Nat} {Φ : PyData → Prop} {Ψ : List PyData → Prop} {d : PyData} {ds : List PyData} {A : List PyData → Prop} {Θ : List PyData → PyData → Prop}
theorem es_var {i : Nat} {v : V} (e : σ[i]? = some (some v)) (hv : Dp K (hide a g H) v d) (p : Φ d) : EvS K a g (tVar i) σ H n n Φ := fun H1 k s Q q => ⟨v, e, q v d H1 p (Kp.refl H1) s (dp_ex k.hide _ _ hv)⟩
/-- arguments, from the left, each knowing the ones before -/
def EvSP (K : PySem.W.Frag) (a g : Addr) (ta : TA) (σ : L2.St) (H : Hp) (n m : Nat) (Ψ : List PyData → Prop) : Prop :=
  ∀ H1, Kp a g H H1 → StAt H1 a g n → ∀ Q : List V → Hp → Prop, (∀ vs ds H2, Ψ ds → Kp a g H1 H2 → StAt H2 a g m → DpAll K (hide a g H2) vs ds → Q vs H2) → ta σ H1 Q
theorem esp_nil (p : Ψ []) : EvSP K a g tNil σ H n n Ψ := fun H1 _ s Q q => q [] [] H1 p (Kp.refl H1) s .nil
theorem esp_cons (h : EvS K a g te σ H n m Φ) (hr : ∀ d, Φ d → EvSP K a g tr σ H m k fun ds => Ψ (d :: ds)) : EvSP K a g (tCons te tr) σ H n k Ψ := fun H1 k1 s1 Q q =>
  h H1 k1 s1 _ fun v d H2 p k2 s2 hv => hr d p H2 (k1.trans k2) s2 _ fun vs ds H3 ps k3 s3 hvs => q (v :: vs) (d :: ds) H3 ps (k2.trans k3) s3 (.cons (dp_ex k3.hide _ _ hv) hvs)
theorem es_tup (h : EvSP K a g ta σ H n m Ψ) (hl : ∀ ds, Ψ ds → ds.length ≤ 1000) : EvS K a g (tTup ta) σ H n m (fun d => ∃ ds, d = .tuple ds ∧ Ψ ds) := fun H1 k s Q q =>
  h H1 k s _ fun vs ds H2 ps k2 s2 hv => ⟨sz_of (by rw [dps_len hv]; have := hl ds ps; omega), fun p hp => q _ (.tuple ds) _ ⟨ds, rfl, ps⟩ (k2.trans (Kp.of (Ex.new hp))) (s2.ex (Ex.new hp)) (by
    rw [hide_new s2 hp]
    have hp' : hide a g H2 p = none := by
      unfold hide
      rw [hp, ite_self]
    exact .tup (st_of upd_same) (dps_ex (Ex.new hp') _ _ hv))⟩
/-- a call of such a def -/
theorem es_callS (hs : ∀ H1, Ev td σ H1 (.ref a)) (hr : EvSP K a g tr σ H n m A) (hn : m + c < far) (hp : ∀ ds d, A ds → Θ ds d → Φ d) : EvS K a g (tCall (spSt K c A Θ) [] E0 (tCons td tr)) σ H n (m + c) Φ := fun H1 k s Q q =>
  hs H1 H1 (Ex.refl H1) _ fun H2 e2 => hr H2 (k.trans (Kp.of e2)) (s.ex e2) _ fun ws ds H3 pa k3 s3 hv => ⟨a, g, m, ws, ds, by rw [List.append_nil], s3, hn, hv, pa, fun v d H' pd k' s' hd => q v d H' (hp ds d pa pd) (((Kp.of e2).trans k3).trans k') s' hd⟩
/-- a loop over range(a draw) -/
theorem q_forS {i : Nat} {D : Ends} {tu tz : TS} (h : EvS K a g te σ H n m (fun d => ∃ j : Int, d = .int j ∧ 0 ≤ j ∧ j ≤ 100000)) (s : StAt H a g n)
    (k : ∀ (j : Int) H1, 0 ≤ j → j ≤ 100000 → Kp a g H H1 → StAt H1 a g m → ∃ Pv : Nat → L2.St → Hp → Prop, Pv 0 σ H1 ∧
      (∀ (x : Nat) σ' H', (x : Int) < j → Pv x σ' H' → tu { D with nx := Pv (x + 1), ct := Pv (x + 1), bk := tz D } (σ'.set i (some (.int (x : Int)))) H') ∧ ∀ σ' H', Pv j.toNat σ' H' → tz D σ' H') :
    tSeq (tFor (iRng1 (tCons te tNil)) (gName i) tu) tz D σ H := h H (Kp.refl H) s _ fun v d H1 hd k1 s1 hv => by
  obtain ⟨j, rfl, j0, j1⟩ := hd
  obtain rfl := dp_int hv
  obtain ⟨Pv, h0, hs, he⟩ := k j H1 j0 j1 k1 s1
  exact ⟨j, rfl, by omega, by omega, for_range (lo := 0) (n := j.toNat) Pv h0 (fun x σ' H' hx p => by
    have e0 : (0 : Int) + (x : Int) = (x : Int) := Int.zero_add _
    show tu { D with nx := Pv (x + 1), ct := Pv (x + 1), bk := tz D } (σ'.set i (some (.int ((0 : Int) + (x : Int))))) H'
    rw [e0]
    exact hs x σ' H' (by omega) p) he⟩
end
/-- isinstance(caught(lambda: f(..)), C) -/
theorem r_isCg {K : PySem.W.Frag} {T : List (Addr × Str)} {CS C : Addr} {σ : L2.St} {H : Hp} {R : Rel} {ta : TA} {tc : TE} {Q : VK} {ds : List PyData} {c : V} {cv : Value} {b : Bool}
    (t : Tabs T H) (h : ∀ H1, ExtN H H1 → EvDA K ta σ H1 ds) (hR : R ds (.error C)) (hx : PySem.W.exmOne K (.ref C) (.ref CS) = some true)
    (hc : ∀ H1, Ev tc σ H1 c) (hC : ExcC K C) (hv : ClsV c cv) (hk : PySem.W.kitOne K (.ref C) cv = some b)
    (k : ∀ H', ExtN H H' → Tabs T H' → Q (.bl b) H') : tCB (rIsEV K) (tCons (tCg T K CS (spD K R) ta) (tCons tc tNil)) σ H Q :=
  r_caught t h hR hx fun a H1 e1 t1 h1 => hc H1 H1 (Ex.refl H1) _ fun H2 e2 => ⟨a, C, c, cv, b, rfl, e2 _ _ h1, hC, hv, hk, k H2 (e1.trans (ExtN.of e2)) (t1.ext e2)⟩
/-! ### data in a tuple -/
def rInDT (K : PySem.W.Frag) (neg : Bool) : R2 := fun x y H Q => ∃ d ds, Dp K H x d ∧ Dp K H y (.tuple ds) ∧ SeqAt.shaped d = true ∧ SeqAt.shaped (.tuple ds) = true ∧ Q (.bl (if neg then !(ds.any fun z => PyData.eqv z d) else ds.any fun z => PyData.eqv z d)) H
section
variable {X : Cx}
theorem op_inDT (hu : X.A.units + 65 < cLine) : OpR X (compareOp .In) (rInDT X.K false) := by
  rintro pins s σ H x y v u Q I rx ry ⟨d, ds, hd, he, sd, se, q⟩
  obtain ⟨as, r1⟩ := Dp.reads I d x v hd rx
  obtain ⟨bs, r2⟩ := Dp.reads I (.tuple ds) y u he ry
  refine SeqAt.in_tuple_reads r2 r1 (SeqAt.canLay_of_shaped se) (SeqAt.canLay_of_shaped sd) (room_in_shaped sd hu) ?_
  exact ⟨.bl _, H, I, rfl, q⟩
theorem op_notInDT (hu : X.A.units + 65 < cLine) : OpR X (compareOp .NotIn) (rInDT X.K true) := by
  rintro pins s σ H x y v u Q I rx ry ⟨d, ds, hd, he, sd, se, q⟩
  obtain ⟨as, r1⟩ := Dp.reads I d x v hd rx
  obtain ⟨bs, r2⟩ := Dp.reads I (.tuple ds) y u he ry
  refine SeqAt.notIn_tuple_reads r2 r1 (SeqAt.canLay_of_shaped se) (SeqAt.canLay_of_shaped sd) (room_in_shaped sd hu) ?_
  exact ⟨.bl _, H, I, rfl, q⟩
end
section
variable {K K' : PySem.W.Frag} {σ : L2.St} {H : Hp} {ta tb : TE} {d : PyData} {ds : List PyData}
theorem ev_inDT {neg : Bool} (ha : EvD K ta σ H d) (hb : EvD K tb σ H (.tuple ds)) (hK : K' = K) (sd : SeqAt.shaped d = true := by rfl) (se : SeqAt.shaped (.tuple ds) = true := by rfl) : Ev (tOp (rInDT K' neg) ta tb) σ H (.bl (if neg then !(ds.any fun z => PyData.eqv z d) else ds.any fun z => PyData.eqv z d)) := by
  subst hK
  exact fun H1 e Q q => ha H1 e _ fun v H2 e2 hv => hb H2 (e.trans e2) _ fun w H3 e3 hw => ⟨d, ds, dp_ex e3 _ _ hv, hw, sd, se, q H3 (e2.trans e3)⟩
theorem ev_inDL (ha : EvD K ta σ H d) (hb : EvD K tb σ H (.list ds)) (hK : K' = K) (sd : SeqAt.shaped d = true := by rfl) (se : SeqAt.shaped (.list ds) = true := by rfl) : Ev (tOp (rInD K') ta tb) σ H (.bl (ds.any fun z => PyData.eqv z d)) := by
  subst hK
  exact fun H1 e Q q => ha H1 e _ fun v H2 e2 hv => hb H2 (e.trans e2) _ fun w H3 e3 hw => ⟨d, ds, dp_ex e3 _ _ hv, hw, sd, se, q H3 (e2.trans e3)⟩
end
/-! ### tests that draw -/
section
variable {K : PySem.W.Frag} {a g : Addr} {σ : L2.St} {H H' : Hp} {td te tl ta tb : TE} {tr : TA} {t u : TT} {n m k l c : Nat} {Φ : PyData → Prop} {T : List (Addr × Str)} {b b2 : Bool} {A : List PyData → Prop} {Θ : List PyData → PyData → Prop}
/-- some answer or other, by draws -/
def EvTS (a g : Addr) (t : TT) (σ : L2.St) (H : Hp) (n m : Nat) : Prop := ∀ H1, Kp a g H H1 → StAt H1 a g n → ∀ Q : Bool → Hp → Prop, (∀ b H2, Kp a g H1 H2 → StAt H2 a g m → Q b H2) → t σ H1 Q
theorem ets_I {f : Int → Int → Bool} {i : Int} {p : Int → Prop} (h : EvS K a g te σ H n m (fun d => ∃ j, d = .int j ∧ p j)) : EvTS a g (tTest (tOp (rI0 fun i j => .bl (f i j)) te (tC (.int i)))) σ H n m := fun H1 k s Q q =>
  h H1 k s _ fun v d H2 hd k2 s2 hv => by
    obtain ⟨j, rfl, _⟩ := hd
    obtain rfl := dp_int hv
    exact ⟨j, i, rfl, rfl, _, rfl, q _ H2 k2 s2⟩
theorem es_ifS (h : EvTS a g t σ H n m) (h1 : EvS K a g ta σ H m k Φ) (h2 : EvS K a g tb σ H m k Φ) : EvS K a g (tIf t ta tb) σ H n k Φ := fun H1 k1 s1 Q q => h H1 k1 s1 _ fun b H2 k2 s2 => by
  cases b with
  | true =>
    show ta σ H2 Q
    exact h1 H2 (k1.trans k2) s2 Q fun v d H3 p k3 => q v d H3 p (k2.trans k3)
  | false =>
    show tb σ H2 Q
    exact h2 H2 (k1.trans k2) s2 Q fun v d H3 p k3 => q v d H3 p (k2.trans k3)
/-- a known answer, by draws and lambdas -/
def EvTN (a g : Addr) (T : List (Addr × Str)) (t : TT) (σ : L2.St) (H : Hp) (n m : Nat) (b : Bool) : Prop := ∀ H1, Kn a g H H1 → StAt H1 a g n → Tabs T H1 → ∀ Q : Bool → Hp → Prop, (∀ H2, Kn a g H1 H2 → StAt H2 a g m → Tabs T H2 → Q b H2) → t σ H1 Q
theorem etn_of (h : ∀ H1, Kn a g H H1 → StAt H1 a g n → EvT t σ H1 b) : EvTN a g T t σ H n n b := fun H1 k s tt Q q => h H1 k s H1 (Ex.refl H1) Q fun H2 e => q H2 (Kn.of e) (s.ex e) (tt.ext e)
theorem etn_not (h : EvTN a g T t σ H n m b) : EvTN a g T (tNot t) σ H n m (!b) := fun H1 k s tt Q q => h H1 k s tt _ q
theorem etn_or (h : EvTN a g T t σ H n m false) (h2 : EvTN a g T u σ H m k b) : EvTN a g T (tOr t u) σ H n k b := fun H1 k1 s1 tt Q q => h H1 k1 s1 tt _ fun H2 k2 s2 t2 => by
  show u σ H2 Q
  exact h2 H2 (k1.trans k2) s2 t2 Q fun H3 k3 => q H3 (k2.trans k3)
theorem etn_callL (hs : ∀ H1, Ev td σ H1 (.ref a)) (hr : ∀ H1, Kn a g H H1 → StAt H1 a g n → EvSP K a g tr σ H1 n m A) (hn : m + c < far) (hp : ∀ ds d, A ds → Θ ds d → d = .bool b) : EvTN a g T (tB (tCall (spStL K T c A Θ) [] E0 (tCons td tr))) σ H n (m + c) b := fun H1 k s tt Q q =>
  hs H1 H1 (Ex.refl H1) _ fun H2 e2 => hr H2 (k.trans (Kn.of e2)) (s.ex e2) H2 (Kp.refl H2) (s.ex e2) _ fun ws ds H3 pa k3 s3 hv => ⟨a, g, m, ws, ds, by rw [List.append_nil], s3, hn, Tabs.kp (LamX.Tabs.ext tt e2) (s.ex e2) k3, hv, pa, fun v d H' pd k' s' t' hd => by
    obtain rfl := hp ds d pa pd
    obtain rfl := dp_bool hd
    exact ⟨b, rfl, q H' (((Kn.of e2).trans (Kn.kp k3)).trans k') s' t'⟩⟩
theorem q_whenN {D : Ends} {tu tz : TS} (h : EvTN a g T t σ H n m b) (s : StAt H a g n) (tt : Tabs T H) (h1 : b = true → ∀ H1, Kn a g H H1 → StAt H1 a g m → Tabs T H1 → tu { D with nx := tz D } σ H1) (h2 : b = false → ∀ H1, Kn a g H H1 → StAt H1 a g m → Tabs T H1 → tz D σ H1) :
    tSeq (tIfS t tu tNext) tz D σ H := h H (Kn.refl H) s tt _ fun H1 k1 s1 t1 => by
  cases b with
  | true =>
    show tu { D with nx := tz D } σ H1
    exact h1 rfl H1 k1 s1 t1
  | false =>
    show tz D σ H1
    exact h2 rfl H1 k1 s1 t1
theorem s_whenN {D : Ends} {tu : TS} (h : EvTN a g T t σ H n m b) (s : StAt H a g n) (tt : Tabs T H) (h1 : b = true → ∀ H1, Kn a g H H1 → StAt H1 a g m → Tabs T H1 → tu D σ H1) (h2 : b = false → ∀ H1, Kn a g H H1 → StAt H1 a g m → Tabs T H1 → D.nx σ H1) :
    tIfS t tu tNext D σ H := h H (Kn.refl H) s tt _ fun H1 k1 s1 t1 => by
  cases b with
  | true =>
    show tu D σ H1
    exact h1 rfl H1 k1 s1 t1
  | false =>
    show D.nx σ H1
    exact h2 rfl H1 k1 s1 t1
end
/-! ### tuples joined -/
theorem ed_catT {K K' : PySem.W.Frag} {σ : L2.St} {H : Hp} {ta tb : TE} {d : PyData} {ds es : List PyData} (ha : EvD K ta σ H (.tuple (d :: ds))) (hb : EvD K tb σ H (.tuple es)) (hK : K' = K) (he : es ≠ []) (hl : (d :: ds).length + es.length ≤ 100000) : EvD K (tOp (rCatT K') ta tb) σ H (.tuple (d :: ds ++ es)) := by
  subst hK
  exact fun H1 e Q q => ha H1 e _ fun v H2 e2 hv => hb H2 (e.trans e2) _ fun w H3 e3 hw => by
    obtain ⟨p, xs, rfl, hs, hx⟩ := dp_tup hv
    obtain ⟨r, ys, rfl, hs2, hy⟩ := dp_tup hw
    have l1 := dps_len hx
    have l2 := dps_len hy
    refine ⟨p, r, xs, ys, rfl, rfl, ex_t e3 hs, hs2, fun z => ?_, sz_of (by rw [l1, l2]; exact hl), fun z => ?_, fun _ p2 hp2 => ?_⟩
    · rw [z] at l1
      cases l1
    · rw [z] at l2
      exact (he (List.eq_nil_of_length_eq_zero l2.symm)).elim
    · exact q _ _ ((e2.trans e3).trans (Ex.new hp2)) (.tup (st_of upd_same) (dps_ex (Ex.new hp2) _ _ (dps_app (dps_ex e3 _ _ hx) hy)))
theorem log2_of {n k c : Nat} (h : n < 2 ^ k) (hk : k ≤ c) (hc : 0 < c) : n.log2 < c := by
  by_cases h0 : n = 0
  · subst h0
    exact Nat.lt_of_le_of_lt (Nat.log2_le_self 0) hc
  · exact Nat.lt_of_lt_of_le ((Nat.log2_lt h0).mpr h) hk
theorem XcT.v {K : PySem.W.Frag} {mg : Str → Option Value} {x : Str} {C : Addr} (h : XcT K mg x C) : ∃ u, mg x = some u ∧ RelV (.ref C) u := ⟨_, h.gl, rfl⟩
/-- what stands of an own class of errors, to be asked of and to be caught by CS -/
structure XiT (K : PySem.W.Frag) (mg : Str → Option Value) (CS : Addr) (x : Str) (C : Addr) : Prop where
  e : ExcC K C
  k : PySem.W.kitOne K (.ref C) (.ref C) = some true
  ex : PySem.W.exmOne K (.ref C) (.ref CS) = some true
  g : mg x = some (.ref C)
theorem XiT.v {K : PySem.W.Frag} {mg : Str → Option Value} {x : Str} {C CS : Addr} (h : XiT K mg CS x C) : ∃ u, mg x = some u ∧ RelV (.ref C) u := ⟨_, h.g, rfl⟩
theorem units1 {k : Nat} {A : Around} (r : Room k A) : A.units + 65 < cLine := by
  have := r.un
  omega
/-! ### shapes of lists -/
theorem lay_map {α : Type} (f : α → PyData) (h : ∀ x, SeqAt.shaped (f x) = true) : ∀ xs : List α, PyData.canLayAll0 (xs.map f) = true
  | [] => by simp [PyData.canLayAll0]
  | x :: xs => by simp [PyData.canLayAll0, SeqAt.canLay_of_shaped (h x), lay_map f h xs]
theorem depth_map {α : Type} (f : α → PyData) {c : Nat} (h : ∀ x, (f x).depth ≤ c) : ∀ xs : List α, PyData.depthAll (xs.map f) ≤ c + 1
  | [] => by simp [PyData.depthAll]
  | x :: xs => by
    have h1 := depth_map f h xs
    have h2 := h x
    simp only [List.map_cons, PyData.depthAll]
    omega
theorem sh_map {α : Type} (f : α → PyData) {c : Nat} (h : ∀ x, SeqAt.shaped (f x) = true) (hd : ∀ x, (f x).depth ≤ c) (hc : c ≤ 50) (xs : List α) : SeqAt.shaped (.list (xs.map f)) = true ∧ SeqAt.shaped (.tuple (xs.map f)) = true := by
  have h1 := depth_map f hd xs
  have h2 : PyData.depth (.list (xs.map f)) ≤ 64 := by
    simp only [PyData.depth]
    omega
  have h3 : PyData.depth (.tuple (xs.map f)) ≤ 64 := by
    simp only [PyData.depth]
    omega
  unfold SeqAt.shaped
  rw [decide_eq_true h2, decide_eq_true h3, PyData.canLay0, PyData.canLay0, lay_map f h xs]
  exact ⟨rfl, rfl⟩
/-- a store into an object that was new -/
theorem ExtN.mut {H H' : Hp} {p : Addr} {o : HO} (e : ExtN H H') (hp : H p = none) : ExtN H (upd H' p o) := fun b u h t => by
  rw [upd_ne (ne_of_none h hp)]
  exact e b u h t
theorem Tabs.lst {T : List (Addr × Str)} {H : Hp} {p : Addr} {xs : List V} {o : HO} (t : Tabs T H) (hp : H p = some (.lst xs)) : Tabs T (upd H p o) := fun r hr => by
  obtain ⟨ps, h1, h2, h3⟩ := t r hr
  have ne : ∀ b u, H b = some u → (∀ xs, u ≠ .lst xs) → upd H p o b = some u := fun b u h n => by
    rw [upd_ne]
    · exact h
    · rintro rfl
      exact n _ (Option.some.inj (h.symm.trans hp))
  refine ⟨ps, ne _ _ h1 (fun _ z => nomatch z), h2, fun pos cv hc => ?_⟩
  obtain ⟨c, e1, e2⟩ := h3 pos cv hc
  exact ⟨c, e1, ne _ _ e2 codeO_nd.2⟩
end Lk

/-! part LkSet -/
/-! Lk, part 9: len(set(t)), t a tuple of unlike tuples of whole numbers and texts. -/
namespace Lk
open PySem PySem.Spec PyProof.Rows L2
section
variable {P : Program} {w : World} {A : Around} {E : Value → Shared → Prop} {s : Shared}
/-- the tuple at a holds the keys k -/
abbrev KeyT (P : Program) (w : World) (h : Heap) (k : List Key) (a : Addr) : Prop := IsTupleKey (mixKind P w) h k a
abbrev kh (P : Program) (w : World) (k : List Key) : Int := tupleKeyHash (mixKind P w) k
abbrev Ent : Type := Addr × List Key
def rowK (P : Program) (w : World) (p : Ent) : Int × Value := (kh P w p.2, Value.ref p.1)
/-- a whole number or a text -/
def Small (v : Value) : Prop := (∀ n, ofAClassStatement n v = pure false) ∧ ∀ n, ∃ c, hashByValue n v = pure c
theorem small_of {ks : List Key} {vs : List Value} (h : ItemsAre (mixKind P w) ks vs) : ∀ v ∈ vs, Small v := by
  induction h with
  | nil => exact fun v hv => nomatch hv
  | cons h1 _ ih =>
    intro v hv
    rcases List.mem_cons.mp hv with rfl | hv
    · rcases keyIs_shape h1 with ⟨i, t, _, rfl⟩ | ⟨x, t, _, rfl⟩
      · exact ⟨fun n => by cases n <;> rfl, fun n => ⟨true, by cases n <;> rfl⟩⟩
      · exact ⟨fun n => by cases n <;> rfl, fun n => ⟨false, by cases n <;> rfl⟩⟩
    · exact ih v hv
theorem no_class {k : List Key} {b : Addr} {Q : Bool → Shared → Prop} (hk : KeyT P w s.heap k b) (q : Q false s) : wpAny (model P w) A (ofAClassStatement 8 (.ref b)) Q E s := by
  have ty := hk.typeIs
  obtain ⟨ob, its, len, at_, _, dt, are⟩ := hk
  unfold ofAClassStatement
  apply wpAny_bind
  apply wpAny_typeOf ty
  dsimp only
  rw [if_pos (by decide)]
  try apply wpAny_bind
  try apply wpAny_pure
  simp only [Bool.not_true, Bool.false_eq_true, if_false]
  apply wpAny_bind
  apply wpAny_seqItems at_ dt
  dsimp only
  apply wpAny_bind
  show wpAny _ _ (forIn its _ _) _ _ s
  rw [← Array.forIn_toList]
  apply wpAny_forIn_list _ (fun left b st => b.1 = none ∧ st = s ∧ ∀ v ∈ left, Small v)
  · rintro v left b st ⟨hb, rfl, all⟩
    rw [(all v List.mem_cons_self).1]
    apply wpAny_bind
    apply wpAny_pure
    simp only [Bool.false_eq_true, if_false]
    apply wpAny_pure
    exact ⟨rfl, rfl, fun u hu => all u (List.mem_cons_of_mem _ hu)⟩
  · rintro ⟨b1, b2⟩ st ⟨hb, rfl, _⟩
    dsimp only at hb
    subst hb
    exact wpAny_pure q
  · exact ⟨rfl, rfl, small_of are⟩
theorem some_hash {k : List Key} {b : Addr} {Q : Bool → Shared → Prop} (hk : KeyT P w s.heap k b) (q : ∀ c, Q c s) : wpAny (model P w) A (hashByValue 8 (.ref b)) Q E s := by
  have ty := hk.typeIs
  obtain ⟨ob, its, len, at_, _, dt, are⟩ := hk
  unfold hashByValue
  apply wpAny_bind
  apply wpAny_specialOf ty F.slot_tuple_hash.lookup
  dsimp only
  apply wpAny_bind
  apply wpAny_seqItems at_ dt
  apply wpAny_bind
  show wpAny _ _ (forIn its _ _) _ _ s
  rw [← Array.forIn_toList]
  apply wpAny_forIn_list _ (fun left b st => b.1 = none ∧ st = s ∧ ∀ v ∈ left, Small v)
  · rintro v left b st ⟨hb, rfl, all⟩
    obtain ⟨c, hc⟩ := (all v List.mem_cons_self).2 7
    rw [hc]
    apply wpAny_bind
    apply wpAny_pure
    cases c with
    | true =>
      simp only [Bool.not_true, Bool.false_eq_true, if_false]
      apply wpAny_pure
      exact ⟨rfl, rfl, fun u hu => all u (List.mem_cons_of_mem _ hu)⟩
    | false =>
      simp only [Bool.not_false, if_true]
      apply wpAny_pure
      exact wpAny_pure (q false)
  · rintro ⟨b1, b2⟩ st ⟨hb, rfl, _⟩
    dsimp only at hb
    subst hb
    exact wpAny_pure (q true)
  · exact ⟨rfl, rfl, small_of are⟩
/-- a search among such tuples shows nothing -/
theorem unseen {k : List Key} {b : Addr} {Q : Bool → Shared → Prop} (hk : KeyT P w s.heap k b) {ys : List Value} (hy : ∀ y ∈ ys, ∃ k' c, y = Value.ref c ∧ KeyT P w s.heap k' c) (q : Q false s) : wpAny (model P w) A (searchCouldBeSeen (.ref b) ys) Q E s := by
  unfold searchCouldBeSeen
  apply wpAny_bind
  apply wpAny_forIn_list _ (fun left r st => r.1 = none ∧ st = s ∧ ∀ y ∈ left, ∃ k' c, y = Value.ref c ∧ KeyT P w s.heap k' c)
  · rintro v left r st ⟨hr, rfl, all⟩
    obtain ⟨k', c, rfl, hc⟩ := all v List.mem_cons_self
    have all' : ∀ y ∈ left, ∃ k' c, y = Value.ref c ∧ KeyT P w st.heap k' c := fun u hu => all u (List.mem_cons_of_mem _ hu)
    dsimp only
    by_cases same : (b == c || (carriedByValue (.ref b) && carriedByValue (.ref c))) = true
    · exact wp_if_pos same (wpAny_pure ⟨rfl, rfl, all'⟩)
    · apply wp_if_neg same
      apply wpAny_bind
      apply wpAny_eqIsQuiet_tuple hk
      simp only [Bool.not_true, Bool.false_eq_true, if_false]
      apply wpAny_bind
      apply wpAny_eqIsQuiet_tuple hc
      simp only [Bool.not_true, Bool.false_eq_true, if_false]
      apply wpAny_bind
      apply no_class hk
      simp only [Bool.false_eq_true, if_false]
      apply wpAny_bind
      apply no_class hc
      simp only [Bool.false_eq_true, if_false]
      exact wpAny_pure ⟨rfl, rfl, all'⟩
  · rintro ⟨r1, r2⟩ st ⟨hr, rfl, _⟩
    dsimp only at hr
    subst hr
    exact wpAny_pure q
  · exact ⟨rfl, rfl, hy⟩
/-- the set at a holds the entries L, all unlike -/
structure SetD (P : Program) (w : World) (h : Heap) (a : Addr) (L : List Ent) (o : Obj) (es : Array (Int × Value)) (ep : Nat) (t : SetTable) : Prop where
  at_ : h.get? a = some o
  exact_ : o.ExactSet
  data : o.data = .set es ep t
  rows : es.toList = L.map (rowK P w)
  tab : TabOk t (L.map fun p => kh P w p.2)
  room : L.length * 5 < t.mask * 3
  keys : ∀ p ∈ L, KeyT P w h p.2 p.1
variable {a : Addr} {L : List Ent} {o : Obj} {es : Array (Int × Value)} {ep : Nat} {t : SetTable}
theorem SetD.size {h : Heap} (R : SetD P w h a L o es ep t) : es.size = L.length := by
  rw [← Array.length_toList, R.rows, List.length_map]
theorem SetD.places {h : Heap} (R : SetD P w h a L o es ep t) : t.place.size = L.length := by
  have q := R.tab.sz
  rw [List.length_map] at q
  exact q
theorem fits_of {n : Nat} (hd : t.dummies = #[]) (hs : t.place.size = n) (hm : n ≤ t.mask) : t.fits n = true := by
  unfold SetTable.fits SetTable.fill
  rw [hd, hs, beq_self_eq_true, Bool.true_and, decide_eq_true_eq]
  show n + 0 ≤ t.mask
  omega
theorem SetD.fits {h : Heap} (R : SetD P w h a L o es ep t) : t.fits es.size = true := by
  have q := R.room
  exact fits_of R.tab.dm (R.places.trans R.size.symm) (by rw [R.size]; omega)
theorem SetD.entry {h : Heap} (R : SetD P w h a L o es ep t) {i : Nat} {p : Ent} (hi : L[i]? = some p) : es[i]? = some (rowK P w p) := by
  rw [← Array.getElem?_toList, R.rows, List.getElem?_map, hi, Option.map_some]
theorem dummy_none (m : Nat) : ∀ (n : Nat) (p : SetTable.Probe), p.dummy = none → (nth m p n).dummy = none
  | 0, _, h => h
  | n + 1, p, h => dummy_none m n (adv m p) (by
    unfold adv
    split <;> exact h)
/-- the search for a key that isn't there, from the c-th step on -/
theorem search_new (R : SetD P w s.heap a L o es ep t) {x : Addr} {k : List Key} (hx : KeyT P w s.heap k x) (hu : A.units < cLine) (hn : ∀ p ∈ L, p.2 ≠ k) {K : Nat} (hK : K < 10 * SetTable.turns t.mask)
    (free : way t.mask (kh P w k) K ∉ t.place.toList) (taken : ∀ c, c < K → way t.mask (kh P w k) c ∈ t.place.toList) {Q : SetFound → Shared → Prop} (q : Q (.free (way t.mask (kh P w k) K) false) s) :
    ∀ (f c : Nat) (stand : Option SetTable.Probe), stand.getD (t.probeStart (kh P w k)) = nth t.mask (t.probeStart (kh P w k)) c → c ≤ K → K - c < f → wpAny (model P w) A (setSearchFrom a (.ref x) (kh P w k) true f stand) Q E s := by
  intro f
  induction f with
  | zero => exact fun c stand _ _ hf => absurd hf (Nat.not_lt_zero _)
  | succ f ih =>
    intro c stand hst hc hf
    have wy : ∀ n, (nth t.mask (nth t.mask (t.probeStart (kh P w k)) c) n).j = way t.mask (kh P w k) (c + n) := fun n => by
      rw [← nth_add] <;> rfl
    rw [setSearchFrom_succ]
    apply wpAny_bind
    apply wpAny_setState_of R.at_ R.data R.fits
    dsimp only
    have odd : ¬ t.gaveWay = true := by
      unfold SetTable.gaveWay
      rw [mask_odd R.tab.mok]
      decide
    apply wp_if_neg odd
    try (apply wpAny_bind; apply wpAny_pure)
    have spec := go_spec t R.tab.ris R.tab.dm (fun i => (es[i]?.map (·.1)).getD 0) (kh P w k) (10 * SetTable.turns t.mask) (K - c) (nth t.mask (t.probeStart (kh P w k)) c) (dummy_none _ _ _ rfl) (by omega)
      (fun n hlt => by
        rw [wy]
        exact taken (c + n) (by omega)) (by
        rw [wy, Nat.add_sub_of_le hc]
        exact free)
    have look : ∀ m, SetTable.probe.go t (fun i => (es[i]?.map (·.1)).getD 0) (kh P w k) (10 * SetTable.turns t.mask) (nth t.mask (t.probeStart (kh P w k)) c) = m →
        t.probe (fun i => (es[i]?.map (·.1)).getD 0) (kh P w k) (stand.getD (t.probeStart (kh P w k))) = m := fun m e => by
      rw [hst]
      exact e
    rcases spec with ⟨n, i, hlt, hi, _, _, hp⟩ | ⟨_, hp⟩
    · rw [look _ hp]
      dsimp only
      have il : i < L.length := by
        have h1 := (List.getElem?_eq_some_iff.mp hi).1
        rw [Array.length_toList, R.places] at h1
        exact h1
      obtain ⟨p, hpe⟩ : ∃ p, L[i]? = some p := ⟨_, List.getElem?_eq_getElem il⟩
      have mem := List.mem_of_getElem? hpe
      have ne := hn p mem
      have live := slot_live R.tab.ris hi
      have tail : wpAny (model P w) A (searchRest a (.ref x) (kh P w k) true f es t (nth t.mask (nth t.mask (t.probeStart (kh P w k)) c) n).j i (nth t.mask (nth t.mask (t.probeStart (kh P w k)) c) (n + 1))) Q E s := by
        unfold searchRest
        rw [R.entry hpe]
        dsimp only [rowK]
        apply wpAny_bind
        apply wpAny_holding
        apply wpAny_eqBool_tuple hu (R.keys p mem) hx
        apply wpAny_bind
        apply wpAny_setState_of R.at_ R.data R.fits
        dsimp only
        rw [decide_eq_false ne]
        apply wp_if_neg (by decide)
        try (apply wpAny_bind; apply wpAny_pure)
        rw [sameMem]
        dsimp only
        simp only [if_true, live, R.entry hpe, rowK]
        apply wpAny_bind
        apply wpAny_isSame_ref_self
        apply wpAny_bind
        apply wpAny_pure
        simp only [if_true]
        apply wp_if_neg (by decide)
        exact ih (c + (n + 1)) _ (nth_add t.mask c _ (n + 1)).symm (by omega) (by omega)
      by_cases led : t.led = true
      · apply wp_if_neg (by rw [led]; decide)
        try (apply wpAny_bind; apply wpAny_pure)
        exact tail
      · have led' : t.led = false := by
          cases e : t.led with
          | true => exact absurd e led
          | false => rfl
        apply wp_if_pos (by rw [led']; rfl)
        apply wpAny_bind
        apply unseen hx
        · intro y hy
          obtain ⟨e, he, rfl⟩ := List.mem_map.mp hy
          have he' : e ∈ es.toList := by
            have := he
            simp only [Array.mem_toList_iff, Array.mem_filter] at this
            exact Array.mem_toList_iff.mpr this.1
          rw [R.rows] at he'
          obtain ⟨p2, hp2, rfl⟩ := List.mem_map.mp he'
          exact ⟨p2.2, p2.1, rfl, R.keys p2 hp2⟩
        · apply wp_if_neg (by decide)
          try (apply wpAny_bind; apply wpAny_pure)
          exact tail
    · rw [look _ hp]
      dsimp only
      rw [wy, Nat.add_sub_of_le hc]
      exact wpAny_pure q
theorem search_new0 (R : SetD P w s.heap a L o es ep t) {x : Addr} {k : List Key} (hx : KeyT P w s.heap k x) (hu : A.units < cLine) (hn : ∀ p ∈ L, p.2 ≠ k) {Q : SetFound → Shared → Prop}
    (q : ∀ K, way t.mask (kh P w k) K ∉ t.place.toList → (∀ c, c < K → way t.mask (kh P w k) c ∈ t.place.toList) → Q (.free (way t.mask (kh P w k) K) false) s) : wpAny (model P w) A (setSearch a (.ref x) (kh P w k) true) Q E s := by
  have room := R.room
  obtain ⟨K, hK, free, taken⟩ := R.tab.first (by rw [List.length_map]; omega) (kh P w k)
  have few : 10 * SetTable.turns t.mask ≤ 1420 := by
    unfold SetTable.turns
    rcases R.tab.mok with e | e | e <;> omega
  unfold setSearch
  exact search_new R hx hu hn hK free taken (q K free taken) 100000 0 none rfl (Nat.zero_le _) (by omega)
/-! ### laying anew -/
theorem filterMap_as {α β : Type} {f : α → Option β} {g : α → β} : ∀ {l : List α}, (∀ x ∈ l, f x = some (g x)) → l.filterMap f = l.map g
  | [], _ => rfl
  | x :: l, h => by
    rw [List.filterMap_cons_some (h x List.mem_cons_self), List.map_cons, filterMap_as fun y hy => h y (List.mem_cons_of_mem _ hy)]
theorem filterMap_all {α : Type} (L : List α) : (List.range L.length).filterMap (fun i => L[i]?) = L := by
  induction L with
  | nil => rfl
  | cons x L ih =>
    rw [List.length_cons, List.range_succ_eq_map]
    simp only [List.filterMap_cons, List.getElem?_cons_zero, List.filterMap_map]
    exact congrArg (x :: ·) ih
theorem TabOk.unplain {hs : List Int} {b : Bool} (T : TabOk t hs) : TabOk { t with plain := b } hs := ⟨T.ris, T.dm, T.sz, T.mok, T.bd, T.reach⟩
theorem keyT_same {h h' : Heap} {k : List Key} {b : Addr} (hb : KeyT P w h k b) (ho : h.get? a = some o) (hd : o.data = .set es ep t) (same : Heap.SameBut a h h') : KeyT P w h' k b := by
  obtain ⟨ob, its, n, at_, c, d, are⟩ := hb
  refine ⟨ob, its, n, ?_, c, d, are⟩
  rw [same.2 b]
  · exact at_
  · rintro rfl
    rw [ho] at at_
    cases at_
    rw [hd] at d
    cases d
/-- what a set that was laid anew holds -/
def Grown (P : Program) (w : World) (s : Shared) (a : Addr) (L : List Ent) (Q : Shared → Prop) : Prop :=
  ∀ h' L' o' es' ep' t', Heap.SameBut a s.heap h' → SetD P w h' a L' o' es' ep' t' → L'.Perm L → Q { s with heap := h' }
theorem relay_new (at_ : s.heap.get? a = some o) (ex : o.ExactSet) (data : o.data = .set es ep t) (rows : es.toList = L.map (rowK P w)) (tab : TabOk t (L.map fun p => kh P w p.2)) (keys : ∀ p ∈ L, KeyT P w s.heap p.2 p.1) (fill : L.length ≤ t.mask) (few : L.length < 64)
    {wanted M : Nat} (hw : SetTable.sizeAbove wanted - 1 = M) (hM : MaskOk M) (hw2 : SetTable.sizeAbove wanted ≤ 128) (room : L.length * 5 < M * 3) {Q : Unit → Shared → Prop} (q : Grown P w s a L (Q ())) : wpAny (model P w) A (setRelay a wanted) Q E s := by
  have sz : es.size = L.length := by rw [← Array.length_toList, rows, List.length_map]
  have pl : t.place.size = L.length := by
    have z := tab.sz
    rw [List.length_map] at z
    exact z
  have fits : t.fits es.size = true := fits_of tab.dm (pl.trans sz.symm) (by omega)
  obtain ⟨t', order, re, pm, T, em, _, _, _⟩ := relaid_ok t (hs := es.map (·.1)) (wanted := wanted) hw hM (by rw [Array.size_map, sz]; omega)
  rw [Array.size_map, sz] at pm
  have within : ∀ i ∈ order.toList, i < L.length := fun i hi => List.mem_range.mp (pm.mem_iff.mp hi)
  -- the entries in their new order
  have esi : ∀ i, es[i]? = (L[i]?).map (rowK P w) := fun i => by rw [← Array.getElem?_toList, rows, List.getElem?_map]
  obtain ⟨L2, hL2⟩ : ∃ L2, L2 = order.toList.filterMap fun i => L[i]? := ⟨_, rfl⟩
  have r1 : (order.filterMap (es[·]?)).toList = L2.map (rowK P w) := by
    rw [Array.toList_filterMap, hL2, List.map_filterMap]
    congr 1
    funext i
    exact esi i
  have r2 : L2.Perm L := by
    have z := pm.filterMap fun i => L[i]?
    rw [filterMap_all, ← hL2] at z
    exact z
  have r3 : (order.toList.map fun i => (es.map (·.1)).getD i 0) = L2.map fun p => kh P w p.2 := by
    rw [hL2, List.map_filterMap]
    refine (filterMap_as fun i hi => ?_).symm
    have e1 : (es.map (·.1))[i]? = some (kh P w (L[i]'(within i hi)).2) := by
      rw [Array.getElem?_map, esi, List.getElem?_eq_getElem (within i hi)]
      rfl
    rw [List.getElem?_eq_getElem (within i hi), Array.getD_eq_getD_getElem?, e1]
    rfl
  rw [r3] at T
  have sz2 : (order.filterMap (es[·]?)).size = L.length := by rw [← Array.length_toList, r1, List.length_map, r2.length_eq]
  rw [setRelay_eq]
  apply wpAny_bind
  apply wpAny_setState_of at_ data fits
  dsimp only
  apply wp_if_neg (by rw [sizeLine_eq]; omega)
  try (apply wpAny_bind; apply wpAny_pure)
  rw [re]
  dsimp only
  apply wpAny_bind
  apply wp_if_neg (by rw [sz2, sz]; simp)
  try (apply wpAny_bind; apply wpAny_pure)
  apply wpAny_pure
  dsimp only
  refine wpAny_storeSet_of at_ data ?_ ?_
  · have same : Heap.SameBut a s.heap (s.heap.update a (Obj.putSet (order.filterMap (es[·]?)) t')) := Heap.SameBut.update ..
    refine q _ L2 _ _ (ep + 1) t' same ⟨store_at at_ data, ⟨ex.1, ex.2.1, ex.2.2⟩, rfl, r1, T, ?_, fun p hp => keyT_same (keys p (r2.mem_iff.mp hp)) at_ data same⟩ r2
    rw [r2.length_eq, em]
    exact room
  · rw [sz2, sizeLine_eq]
    omega
/-! ### adding -/
theorem add_new (R : SetD P w s.heap a L o es ep t) {x : Addr} {k : List Key} (hx : KeyT P w s.heap k x) (hu : A.units < cLine) (hn : ∀ p ∈ L, p.2 ≠ k) (few : L.length + 1 < 64) {Q : Bool → Shared → Prop} (q : Grown P w s a ((x, k) :: L) (Q true)) :
    wpAny (model P w) A (setAddHashed a (.ref x) (kh P w k)) Q E s := by
  have room := R.room
  unfold setAddHashed
  apply wpAny_holding
  rw [show (100000 : Nat) = 99999 + 1 from rfl, setAddHashedIn_succ]
  apply wpAny_bind
  apply wpAny_setState_of R.at_ R.data R.fits
  dsimp only
  apply wp_if_neg (by simp [byScan, Value.scannable])
  try (apply wpAny_bind; apply wpAny_pure)
  apply wpAny_bind
  apply search_new0 R hx hu hn
  intro K free taken
  dsimp only
  apply wpAny_bind
  apply wpAny_setState_of R.at_ R.data R.fits
  dsimp only
  obtain ⟨q1, q2, q3, q4, _, _, _, _, q9⟩ := R.tab.put free taken
  generalize t.put (way t.mask (kh P w k) K) = pt at q1 q3 q4 q9 ⊢
  obtain ⟨t1, at1⟩ := pt
  dsimp only at q1 q3 q4 q9 ⊢
  subst q1
  generalize SetTable.below t.place (way t.mask (kh P w k) K) = n at q2 q3 ⊢
  obtain ⟨L1, hL1⟩ : ∃ L1, L1 = L.take n ++ (x, k) :: L.drop n := ⟨_, rfl⟩
  have pm : L1.Perm ((x, k) :: L) := by
    have z : (L.take n ++ (x, k) :: L.drop n).Perm ((x, k) :: (L.take n ++ L.drop n)) := List.perm_middle
    rw [List.take_append_drop, ← hL1] at z
    exact z
  have len : L1.length = L.length + 1 := pm.length_eq
  have hrows : (SetTable.insertAt es n (kh P w k, Value.ref x)).toList = L1.map (rowK P w) := by
    rw [SetTable.toList_insertAt, R.rows, hL1, List.map_append, List.map_cons, List.map_take, List.map_drop]
    rfl
  have hkeys : (L.map fun p => kh P w p.2).take n ++ kh P w k :: (L.map fun p => kh P w p.2).drop n = L1.map fun p => kh P w p.2 := by
    rw [hL1, List.map_append, List.map_cons, List.map_take, List.map_drop]
  rw [hkeys] at q3
  rw [List.length_map] at q9
  have sz : (SetTable.insertAt es n (kh P w k, Value.ref x)).size = L.length + 1 := by rw [← Array.length_toList, hrows, List.length_map, len]
  generalize SetTable.insertAt es n (kh P w k, Value.ref x) = es1 at hrows sz ⊢
  have fin : ∀ t2 : SetTable, TabOk t2 (L1.map fun p => kh P w p.2) → t2.mask = t.mask → t2.fill = L.length + 1 →
      wpAny (model P w) A (do
        storeSet a es1 t2
        if !false && t2.tooFull then setRelay a (SetTable.grown (es.size + 1))
        return true) Q E s := by
    intro t2 T2 m2 f2
    apply wpAny_bind
    refine wpAny_storeSet_of R.at_ R.data ?_ ?_
    · have same : Heap.SameBut a s.heap (s.heap.update a (Obj.putSet es1 t2)) := Heap.SameBut.update ..
      have at1 := store_at (es' := es1) (t' := t2) R.at_ R.data
      generalize s.heap.update a (Obj.putSet es1 t2) = h1 at same at1 ⊢
      have keys1 : ∀ p ∈ L1, KeyT P w h1 p.2 p.1 := fun p hp => by
        rcases List.mem_cons.mp (pm.mem_iff.mp hp) with rfl | hp
        · exact keyT_same hx R.at_ R.data same
        · exact keyT_same (R.keys p hp) R.at_ R.data same
      have full : t2.tooFull = true ↔ (L.length + 1) * 5 ≥ t.mask * 3 := by
        unfold SetTable.tooFull
        rw [decide_eq_true_eq, f2, m2]
      by_cases tf : t2.tooFull = true
      · have hfull := full.mp tf
        have cases2 : (t.mask = 7 ∧ L.length = 4) ∨ (t.mask = 31 ∧ L.length = 18) := by
          rcases R.tab.mok with e | e | e <;> rw [e] at hfull room
          · exact .inl ⟨e, by omega⟩
          · exact .inr ⟨e, by omega⟩
          · omega
        have go : ∀ M, SetTable.sizeAbove (SetTable.grown (L.length + 1)) - 1 = M → MaskOk M → SetTable.sizeAbove (SetTable.grown (L.length + 1)) ≤ 128 → L1.length * 5 < M * 3 →
            wpAny (model P w) A (setRelay a (SetTable.grown (L.length + 1))) (fun _ s' => wpAny (model P w) A (pure true) Q E s') E { s with heap := h1 } := fun M g1 g2 g3 g4 => by
          apply relay_new (s := { s with heap := h1 }) at1 ⟨R.exact_.1, R.exact_.2.1, R.exact_.2.2⟩ rfl hrows T2 keys1 (by rw [m2]; rcases cases2 with ⟨e, e2⟩ | ⟨e, e2⟩ <;> omega) (by omega) g1 g2 g3 g4
          intro h2 L2 o2 es2 ep2 t2' same2 R2 pm2
          exact wpAny_pure (q h2 L2 o2 es2 ep2 t2' (same.trans same2) R2 (pm2.trans pm))
        rw [R.size]
        first
          | (apply wp_if_pos (by rw [tf]; rfl); apply wpAny_bind)
          | (apply wpAny_bind; apply wp_if_pos (by rw [tf]; rfl))
        rcases cases2 with ⟨_, e2⟩ | ⟨_, e2⟩
        · exact go 31 (by rw [e2, size_20]) (.inr (.inl rfl)) (by rw [e2, size_20]; decide) (by omega)
        · exact go 127 (by rw [e2, size_76]) (.inr (.inr rfl)) (by rw [e2, size_76]; decide) (by omega)
      · have small : L1.length * 5 < t2.mask * 3 := by
          have z : ¬ (L.length + 1) * 5 ≥ t.mask * 3 := fun z => tf (full.mpr z)
          rw [m2]
          omega
        first
          | (apply wp_if_neg (by simp [tf]))
          | (apply wpAny_bind; apply wp_if_neg (by simp [tf]); apply wpAny_pure)
        exact wpAny_pure (q h1 L1 _ es1 (ep + 1) t2 same ⟨at1, ⟨R.exact_.1, R.exact_.2.1, R.exact_.2.2⟩, rfl, hrows, T2, small, keys1⟩ pm)
    · rw [sz, sizeLine_eq]
      omega
  have fin2 : ∀ c : Bool, wpAny (model P w) A (do
      let t := if c then t1 else { t1 with plain := false }
      storeSet a es1 t
      if !false && t.tooFull then setRelay a (SetTable.grown (es.size + 1))
      return true) Q E s := fun c => by
    cases c with
    | true => exact fin t1 q3 q4 q9
    | false => exact fin _ (TabOk.unplain q3) q4 q9
  by_cases pl : t1.plain = true
  · first
      | (apply wpAny_bind; apply wp_if_pos pl; apply some_hash hx; exact fin2)
      | (apply wp_if_pos pl; apply wpAny_bind; apply some_hash hx; exact fin2)
  · first
      | (apply wpAny_bind; apply wp_if_neg pl; apply wpAny_pure; exact fin2 true)
      | (apply wp_if_neg pl; apply wpAny_bind; apply wpAny_pure; exact fin2 true)
      | (apply wp_if_neg pl; exact fin2 true)
/-! ### set(t) -/
def Keeps (h h' : Heap) : Prop := ∀ b o, h.get? b = some o → h'.get? b = some o
theorem SetD.stay {h h' : Heap} (R : SetD P w h a L o es ep t) (ha : h'.get? a = some o) (hk : ∀ p ∈ L, KeyT P w h' p.2 p.1) : SetD P w h' a L o es ep t := ⟨ha, R.exact_, R.data, R.rows, R.tab, R.room, hk⟩
theorem keyT_keep {h h' : Heap} {k : List Key} {b : Addr} (x : KeyT P w h k b) (kp : Keeps h h') : KeyT P w h' k b := by
  obtain ⟨ob, its, n, at_, more⟩ := x
  exact ⟨ob, its, n, kp _ _ at_, more⟩
theorem new_key {ks : List Ent} (nd : (ks.map (·.2)).Nodup) {i : Nat} {p : Ent} (hp : ks[i]? = some p) : ∀ q ∈ ks.take i, q.2 ≠ p.2 := by
  have z : ((ks.take (i + 1)).map (·.2)).Nodup := nd.sublist ((List.take_sublist _ _).map _)
  rw [L2.take_next hp, List.map_append] at z
  intro q hq
  exact (List.pairwise_append.mp z).2.2 q.2 (List.mem_map.mpr ⟨q, hq, rfl⟩) p.2 (by rw [List.map_cons]; exact List.mem_cons_self)
theorem loop_new {I : Addr} {fp wr : List Addr} {G : Array GenState → Array GenState → Prop} {n : Nat} {Pv : Nat → Value → Prop} {St : Nat → Shared → Prop} {R : Result → Shared → Prop} (W : WalksS P w A.in1 I fp wr G n Pv St) (S : Addr) (hS : S ∉ fp)
    (ks : List Ent) (hn : n = ks.length) (few : ks.length < 64) (nd : (ks.map (·.2)).Nodup) (hv : ∀ i v, Pv i v → ∃ p, ks[i]? = some p ∧ v = .ref p.1) (h0 : Heap) (hk : ∀ p ∈ ks, KeyT P w h0 p.2 p.1) (hS0 : h0.get? S = none) (hw0 : ∀ b ∈ wr, h0.get? b = none) (hu : A.in1.units < cLine) :
    ∀ (k i : Nat) (s : Shared), n - i = k → i ≤ n → St i s → Keeps h0 s.heap → (∃ L o es ep t, SetD P w s.heap S L o es ep t ∧ L.Perm (ks.take i)) →
      (∀ s' L o es ep t, Moved (S :: wr) G s s' → SetD P w s'.heap S L o es ep t → L.Perm ks → R (.ok (.ret .none)) s') → codeAny (model P w) A (.builtin "set.update.loop" ⟨[.ref S, .ref I], []⟩) R s := by
  have out : S ∉ wr := fun h => hS (W.sub _ h)
  have up : ∀ b ∈ wr, b ∈ S :: wr := fun b hb => List.mem_cons_of_mem _ hb
  have after : ∀ {s s' : Shared}, Moved wr G s s' → Keeps h0 s.heap → Keeps h0 s'.heap := fun mv kp b o e => mv.heap b o (fun hb => by
    rw [hw0 b hb] at e
    cases e) (kp b o e)
  intro k
  induction k with
  | zero =>
    rintro i s hk' hi st kp ⟨L, o, es, ep, t, D, pm⟩ done
    obtain rfl : i = n := by omega
    apply codeAny_builtin F.entry_set_update_loop
    rw [Around.under_plainId F.plain_set_update_loop _]
    show wpAny _ A.in1 (pyNext (.ref I) >>= _) _ _ s
    apply wpAny_bind
    apply W.done s _ _ st
    intro s' mv
    show wpAny _ A.in1 (ret Value.none) _ _ s'
    have kp' := after mv kp
    apply wpAny_pure
    rw [hn, List.take_length] at pm
    exact done s' L o es ep t (mv.mono up) (D.stay (mv.heap S o out D.at_) fun p hp => keyT_keep (hk p (pm.mem_iff.mp hp)) kp') pm
  | succ k ih =>
    rintro i s hk' hi st kp ⟨L, o, es, ep, t, D, pm⟩ done
    have lt : i < n := by omega
    apply codeAny_builtin F.entry_set_update_loop
    rw [Around.under_plainId F.plain_set_update_loop _]
    show wpAny _ A.in1 (pyNext (.ref I) >>= _) _ _ s
    apply wpAny_bind
    apply W.item i s _ _ lt st
    intro v s' hP st' mv
    obtain ⟨p, hp, rfl⟩ := hv i v hP
    have kp' := after mv kp
    have inn : ∀ q ∈ L, q ∈ ks.take i := fun q hq => pm.mem_iff.mp hq
    have D' : SetD P w s'.heap S L o es ep t := D.stay (mv.heap S o out D.at_) fun q hq => keyT_keep (hk q (List.mem_of_mem_take (inn q hq))) kp'
    have hx : KeyT P w s'.heap p.2 p.1 := keyT_keep (hk p (List.mem_of_getElem? hp)) kp'
    have len : L.length ≤ i := by
      rw [pm.length_eq, List.length_take]
      omega
    show wpAny _ A.in1 (holding [Value.ref p.1] (setAdd S (.ref p.1)) >>= _) _ _ s'
    apply wpAny_bind
    apply wpAny_holding
    unfold setAdd
    apply wpAny_holding
    apply wpAny_bind
    apply wpAny_pyHash_tuple hu hx
    apply add_new (s := { s' with toks := s'.toks + (p.2.length + 1) }) D' hx hu (fun q hq => new_key nd hp q (inn q hq)) (by omega)
    intro h' L' o' es' ep' t' same D2 pm2
    have kp2 : Keeps h0 h' := fun b u e => (same.2 b (fun z => by
      rw [z, hS0] at e
      cases e)).trans (kp' b u e)
    have pm3 : L'.Perm (ks.take (i + 1)) := by
      rw [L2.take_next hp]
      exact pm2.trans ((pm.cons p).trans (List.perm_append_singleton p _).symm)
    apply wpAny_pure
    refine ⟨plainId_quiet F.plain_set_update_loop _, ih (i + 1) _ (by omega) lt (W.frame _ s' _ _ st' (Nat.le_add_right _ _) fun b hb u e => ?_) kp2 ⟨L', o', es', ep', t', D2, pm3⟩ fun s'' L2 o2 es2 ep2 t2 mv2 D3 pm4 => ?_⟩
    · rw [same.2 b]
      · exact e
      · rintro rfl
        exact hS hb
    · refine done s'' L2 o2 es2 ep2 t2 (Moved.trans W.gtrans ((mv.mono up).then_heap (Nat.le_add_right _ _) fun b u hb e => ?_) mv2) D3 pm4
      rw [same.2 b]
      · exact e
      · rintro rfl
        exact hb List.mem_cons_self
theorem fresh_set {h : Heap} {o : Obj} {b : Bool} (at_ : h.get? a = some o) (ex : o.ExactSet) (data : o.data = .set #[] 0 (.fresh 0 0 b)) : SetD P w h a [] o #[] 0 (.fresh 0 0 b) := by
  refine ⟨at_, ex, data, rfl, ⟨List.Pairwise.nil, rfl, rfl, .inl rfl, (fun x hx => nomatch hx), fun i u j hi => ?_⟩, ?_, (fun p hp => nomatch hp)⟩
  · simp at hi
  · show 0 * 5 < 7 * 3
    decide
/-- a set, empty and new -/
abbrev newSet (w : World) : Obj := { cls := .type "set", dict := none, data := .set #[] 0 (.fresh 0 0 (!w.params.followText "set-order")) }
set_option maxHeartbeats 6400000 in
theorem call_set_new {l : Addr} {items : Array Value} (ks : List Ent) {Q : Value → Shared → Prop} (hh : A.handled = none) (hl : s.heap.IsTuple l items) (hit : items.toList = ks.map fun p => Value.ref p.1) (hk : ∀ p ∈ ks, KeyT P w s.heap p.2 p.1)
    (few : ks.length < 64) (nd : (ks.map (·.2)).Nodup) (hu : A.units + 3 < cLine)
    (q : ∀ (h' : Heap) (tk : Nat) L o es ep t, SetD P w h' s.heap.objs.size L o es ep t → L.Perm ks → Keeps s.heap h' → Q (.ref s.heap.objs.size) { s with heap := h', toks := tk }) : wpAny (model P w) A (call (.type "set") [.ref l]) Q E s := by
  have isz : items.size = ks.length := by rw [← Array.length_toList, hit, List.length_map]
  obtain ⟨c, tl, hmro⟩ := F.called_set.mro
  have hmade := F.called_set.made
  have hsub := F.called_set.sub
  apply wpAny_call
  apply codeAny_of_tree
  show wpAny _ _ (callAny (.type "set") _) _ _ _
  apply wpAny_pure
  refine ⟨Code.quiet_builtin _ (by decide +kernel), codeAny_builtin F.entry_type_call ?_⟩
  rw [Around.under_plain (weight_type_call_type "set" [.ref l] []) rfl]
  have h1 := F.called_set.notType
  have h2 := F.called_set.canCreate
  have hct := F.typeCall_set_1 (.ref l)
  repeat (any_goals (first | assumption | wp_step))
  obtain ⟨S, eS⟩ : ∃ S, S = s.heap.objs.size := ⟨_, rfl⟩
  refine codeAny_mono (code_set_led1 (.ref l) (E := E) (Q₁ := fun obj s₁ => obj = .ref S ∧ s₁ = { s with heap := s.heap.push (newSet w) }) ⟨by rw [eS], rfl⟩) fun r s₁ hr => ?_
  cases r with
  | error e => exact hr
  | ok fl =>
    cases fl with
    | ret obj =>
      obtain ⟨rfl, rfl⟩ := hr
      have atS : (s.heap.push (newSet w)).get? S = some (newSet w) := by
        rw [eS]
        exact Heap.get?_push_size _ rfl
      have hT : Shared.TypeIs { s with heap := s.heap.push (newSet w) } (.ref S) "set" := ⟨_, atS, rfl⟩
      have hli := F.called_set.init.lookup
      have hbi := F.called_set.init.bind (.ref S)
      repeat (any_goals (first | assumption | wp_step))
      refine codeAny_mono (codeAny_call_builtin (R := wants (fun r s₂ => r = .none ∧ ∃ h' tk L o es ep t, s₂ = { s with heap := h', toks := tk } ∧ SetD P w h' S L o es ep t ∧ L.Perm ks ∧ Keeps s.heap h') E)
        F.called_set.init.plain F.entry_set_init (check_set_init_1 hT ?_)) fun r₂ s₂ hr₂ => ?_
      · obtain ⟨ol, hol, hcl, nl, hdl⟩ := hl
        obtain ⟨ocls, odict, odata, oslots⟩ := ol
        dsimp only at hcl hdl
        subst hcl hdl
        have hol' : (s.heap.push (newSet w)).get? l = some { cls := .type "tuple", dict := odict, data := .seq items nl, slots := oslots } := Heap.get?_push_of_some _ hol
        have hsls := F.sub_tuple_set
        have hslf := F.sub_tuple_frozenset
        have hne : (Value.type "tuple" == Value.type "dict") = false := by decide
        have hl1 : (s.heap.push (newSet w)).IsTuple l items := ⟨_, hol', rfl, nl, rfl⟩
        unfold Builtin.«set.__init__» noKeywords Builtin.Frozenset.updateFrom
        generalize hPI : pyIter = PI
        wp_walk
        subst hPI
        apply wpAny_pyIter_tuple hl1
        apply wpAny_bind
        apply wpAny_runValue
        have lS : l < S := by
          rw [eS]
          exact Heap.lt_size hol
        obtain ⟨J, eJ⟩ : ∃ J, J = (s.heap.push (newSet w)).objs.size := ⟨_, rfl⟩
        have eJ2 : J = S + 1 := by
          rw [eJ, eS]
          exact Heap.size_push ..
        have SJ : S ∉ [J, l] := by
          rw [eJ2]
          simp only [List.mem_cons, List.not_mem_nil, or_false, not_or]
          exact ⟨Nat.ne_of_lt (Nat.lt_succ_self _), Nat.ne_of_gt lS⟩
        have none_of : ∀ b, S ≤ b → s.heap.get? b = none := fun b hb => by
          cases z : s.heap.get? b with
          | none => rfl
          | some u => exact absurd (Heap.lt_size z) (Nat.not_lt.mpr (by rw [← eS]; exact hb))
        have hv : ∀ (i : Nat) (v : Value), items[i]? = some v → ∃ p, ks[i]? = some p ∧ v = .ref p.1 := fun i v z => by
          have z' : items.toList[i]? = some v := by rw [Array.getElem?_toList]; exact z
          rw [hit, List.getElem?_map] at z'
          obtain ⟨p, hp, rfl⟩ := Option.map_eq_some_iff.mp z'
          exact ⟨p, hp, rfl⟩
        have hneI : l ≠ (s.heap.push (newSet w)).objs.size := by
          rw [← eJ, eJ2]
          exact Nat.ne_of_lt (Nat.lt_succ_of_lt lS)
        have hh3 : A.in1.in1.in1.handled = none := by simp [hh]
        rw [eJ] at SJ
        apply loop_new ((Walks.tuple hh3 _ l hneI items).toS) S SJ ks isz few nd hv s.heap hk (none_of _ (Nat.le_refl _)) (fun b hb => none_of b (by
          rw [List.mem_singleton.mp hb, ← eJ, eJ2]
          exact Nat.le_succ _)) hu (items.size - 0) 0 _ (by omega) (Nat.zero_le _)
          ⟨⟨_, Heap.get?_push_size _ rfl, rfl, rfl⟩, (hl1.push _)⟩ (fun b u e => Heap.get?_push_of_some _ (Heap.get?_push_of_some _ e)) ⟨[], _, _, _, _, fresh_set (Heap.get?_push_of_some _ atS) ⟨rfl, rfl, rfl⟩ rfl, .refl _⟩
        intro s' L o es ep t mv D pm
        obtain ⟨h', g2, d', tk', os'⟩ := s'
        have eg : g2 = s.gens := mv.gens
        have ed : d' = s.drawn := mv.drawn
        have eo : os' = s.os := mv.os
        subst eg ed eo
        show wpAny _ _ _ _ _ _
        apply wpAny_pure
        show wpAny _ _ (ret Value.none) _ _ _
        apply wpAny_pure
        refine ⟨rfl, h', tk', L, o, es, ep, t, rfl, D, pm, fun b u e => ?_⟩
        have b0 : b < S := by
          rw [eS]
          exact Heap.lt_size e
        refine mv.heap b u ?_ (Heap.get?_push_of_some _ (Heap.get?_push_of_some _ e))
        rw [← eJ, eJ2]
        simp only [List.mem_cons, List.not_mem_nil, or_false, not_or]
        exact ⟨Nat.ne_of_lt b0, Nat.ne_of_lt (Nat.lt_succ_of_lt b0)⟩
      · cases r₂ with
        | error e => exact hr₂
        | ok fl₂ =>
          cases fl₂ with
          | ret r =>
            obtain ⟨rfl, h', tk, L, o, es, ep, t, rfl, D, pm, kp⟩ := hr₂
            subst eS
            repeat (any_goals (first | assumption | wp_step))
            exact q _ _ _ _ _ _ _ D pm kp
          | _ => exact hr₂.elim
    | _ => exact hr.elim
end
end Lk

/-! part LkSetB -/
/-! Lk, part 10: the same as a reading. -/
namespace Lk
open PySem PySem.Spec PyProof.Rows L2 Evl
def keyD : Key → PyData
  | .inl i => .int i
  | .inr x => .str x
theorem dp_key {K : PySem.W.Frag} {H : Hp} {v : V} {k : Key} (h : Dp K H v (keyD k)) : v = kV k := by
  cases k with
  | inl i => exact dp_int h
  | inr x => exact dp_str h
theorem dps_key {K : PySem.W.Frag} {H : Hp} : ∀ {vs : List V} {ks : List Key}, DpAll K H vs (ks.map keyD) → vs = ks.map kV
  | _, [], .nil => rfl
  | _, k :: ks, .cons h r => by rw [List.map_cons, dp_key h, dps_key r]
theorem dps_ents {K : PySem.W.Frag} {H : Hp} : ∀ {vs : List V} {kss : List (List Key)}, DpAll K H vs (kss.map fun k => .tuple (k.map keyD)) → ∃ es : List Ent, vs = es.map (fun e => V.ref e.1) ∧ es.map (·.2) = kss ∧ ∀ e ∈ es, SqT K H e.1 (e.2.map kV)
  | _, [], .nil => ⟨[], rfl, rfl, (fun e he => nomatch he)⟩
  | _, k :: kss, .cons h r => by
    obtain ⟨es, e1, e2, e3⟩ := dps_ents (kss := kss) r
    obtain ⟨a, xs, rfl, hs, hx⟩ := dp_tup h
    have ek := dps_key hx
    subst ek
    exact ⟨(a, k) :: es, by rw [List.map_cons, e1], by rw [List.map_cons, e2], fun e he => by
      rcases List.mem_cons.mp he with rfl | he
      · exact hs
      · exact e3 e he⟩
/-- len(set(t)) -/
def tLenSetK (K : PySem.W.Frag) (ta : TE) : TE := fun σ H Q => ta σ H fun x H1 => ∃ (p : Addr) (ks : List Ent), x = .ref p ∧ SqT K H1 p (ks.map fun e => V.ref e.1) ∧ (∀ e ∈ ks, SqT K H1 e.1 (e.2.map kV)) ∧ ks.length < 64 ∧ (ks.map (·.2)).Nodup ∧ Q (.int (ks.length : Nat)) H1
theorem ev_lenSet {K K' : PySem.W.Frag} {σ : L2.St} {H : Hp} {te : TE} {kss : List (List Key)} (h : EvD K te σ H (.tuple (kss.map fun k => .tuple (k.map keyD)))) (hK : K' = K) (hl : kss.length < 64) (nd : kss.Nodup) : Ev (tLenSetK K' te) σ H (.int (kss.length : Nat)) := by
  subst hK
  exact fun H1 e Q q => h H1 e _ fun v H2 e2 hv => by
    obtain ⟨p, xs, rfl, hs, hx⟩ := dp_tup hv
    obtain ⟨es, e1, e2', e3⟩ := dps_ents hx
    subst e1 e2'
    rw [List.length_map] at hl q
    exact ⟨p, es, rfl, hs, e3, hl, nd, q H2 e2⟩
section
variable {X : Cx}
theorem vals_refs : ∀ {ks : List Ent} {us : List Value}, Vals (ks.map fun e => V.ref e.1) us → us = ks.map fun e => Value.ref e.1
  | [], _, .nil => rfl
  | e :: ks, _, .cons h r => by
    cases h
    rw [List.map_cons, vals_refs r]
theorem pe_lenSetK {a : Expr} {ta : TE} {p p2 q pos : Pos} (hc : X.calm = true) (hu : X.A.units + 64 < cLine) (hg : Gl X "len") (hm : X.mg "len" = none) (hg2 : Gl X "set") (hm2 : X.mg "set" = none) (ha : PE X a ta)
    (na : starEach [a] X.env = (false, eval a X.env) :: starEach [] X.env := by rfl) : PE X (.Call (.Name "len" p) [.Call (.Name "set" p2) [a] [] q] [] pos) (tLenSetK X.K ta) := by
  constructor
  intro pins s σ H Q I h
  refine Call_ ?_
  apply ld_blt I hg hm PySem.boot_len
  refine PyProof.Rows.callWith_builtin1 (PyProof.Rows.args_cons ?_ rfl) rfl rfl
  refine Call_ ?_
  apply ld_blt I hg2 hm2 PyProof.Rows.boot_set
  refine PyProof.Rows.callWith_type1 (PyProof.Rows.args_cons (thn (ha.run pins s σ H _ I h) ?_) na) na rfl
  rintro v s1 ⟨x, H1, I1, r1, l, ks, rfl, hq, he, few, nd, q1⟩
  apply PyProof.Rows.args_nil
  cases r1
  obtain ⟨its, rv, ht, hz⟩ := I1.tuple hq
  have hit := vals_refs rv
  have keyAt : ∀ e ∈ ks, KeyT X.prog X.w s1.heap e.2 e.1 := fun e hm => by
    obtain ⟨its2, rv2, ⟨ob, at_, cl, n, dt⟩, _⟩ := I1.tuple (he e hm)
    exact ⟨ob, its2.toArray, n, at_, cl, dt, by rw [List.toList_toArray]; exact items_are rv2⟩
  apply call_set_new ks (I1.ok.hd hc) ht (by rw [List.toList_toArray]; exact hit) keyAt few nd (by omega)
  intro h' tk L o es ep t D pm kp
  apply PyProof.Rows.args_nil
  have I2 : Inv X pins σ H1 { s1 with heap := h', toks := tk } := I1.kept fun b o e => kp b o e
  have sz : es.size = ks.length := D.size.trans pm.length_eq
  apply call_len_set D.at_ D.exact_ D.data D.fits (by rw [sz]; omega)
  exact ⟨.int (ks.length : Nat), H1, I2.tok _, ⟨_, by rw [sz]⟩, q1⟩
end
theorem RV.is {r : R2} {x y z z' : V} {H : Hp} (h : RV r x y H z) (e : z = z') : RV r x y H z' := by
  rw [← e]
  exact h
/-- the state begun -/
theorem q_begun {K : PySem.W.Frag} {σ : L2.St} {H : Hp} {te : TE} {D : Ends} {tz : TS} {i : Nat} {l : Addr} {cs : List Int} (h : Ev te σ H (.ref l)) (hl : SqL K H l (cs.map V.int)) (hz : cs.length ≤ 40000)
    (k : ∀ a g H1, Ex H H1 → StAt H1 a g 0 → tz D (σ.set i (some (.ref a))) H1) : tSeq (tAsg (tCall (spBegun K) [] E0 (tCons te tNil)) (gName i)) tz D σ H :=
  h H (Ex.refl H) _ fun H1 e1 => ⟨l, cs, rfl, ex_l e1 hl, hz, fun a g H' e st _ _ => k a g H' (e1.trans e) st⟩
end Lk

/-! the walk's small tactics: Ev, EvT, EvD, EvDA by the reading's head -/
local macro_rules | `(tactic| wtm_at "dp") => `(tactic| first
  | assumption
  | exact L2.Dp.int _
  | exact L2.Dp.bl _
  | exact L2.Dp.str _
  | exact L2.Dp.non
  | fail "dp stops")
local macro_rules | `(tactic| wtm_at "rvc") => `(tactic| first
  | trivial
  | (show (0 : Int) < _; first | decide | omega)
  | exact ⟨by decide, by decide⟩
  | exact ⟨by decide, by decide, by decide⟩
  | exact Or.inl ⟨by decide, by decide⟩
  | exact Or.inr ⟨by decide, by decide⟩
  | exact Or.inl ⟨by omega, by omega⟩
  | exact Or.inr ⟨by omega, by omega⟩
  | assumption
  | fail "rvc stops")
local macro_rules | `(tactic| wtm_at "rv") => `(tactic| first
  | with_reducible exact Evl.rv_I0
  | ((with_reducible refine' Evl.rv_I ?c); (case c => wtm_at "rvc"))
  | ((with_reducible refine' Evl.rv_eq ?c); (case c => rfl))
  | ((with_reducible refine' Evl.rv_ne ?c); (case c => rfl))
  | fail "rv stops")
local macro_rules | `(tactic| wtm_at "rel") => `(tactic| first
  | exact ⟨_, rfl, rfl⟩
  | exact ⟨_, _, rfl, rfl⟩
  | exact ⟨_, _, _, rfl, rfl⟩
  | exact ⟨_, _, _, _, rfl, rfl⟩
  | exact ⟨_, rfl, by omega, rfl⟩
  | exact ⟨_, _, rfl, by omega, by omega, rfl⟩
  | exact ⟨_, _, _, rfl, by omega, by omega, rfl⟩
  | assumption
  | fail "rel stops")
local macro_rules | `(tactic| wtm_at "eda") => `(tactic| first
  | with_reducible exact Lk.eda_nil
  | ((with_reducible refine' Lk.eda_cons ?a ?b); (case a => wtm_at "ed"); (case b => wtm_at "eda"))
  | ((with_reducible refine' Lk.eda_star ?a ?b ?k); (case a => wtm_at "ed"); (case b => wtm_at "eda"); (case k => rfl))
  | fail "eda stops")
local macro_rules | `(tactic| wtm_at "ed") => `(tactic| first
  | ((with_reducible refine' Lk.ed_var ?a ?b); (case a => exact rfl); (case b => wtm_at "dp"))
  | with_reducible exact Lk.ed_cI
  | with_reducible exact Lk.ed_cS
  | with_reducible exact Lk.ed_cN
  | with_reducible exact Lk.ed_cB
  | ((with_reducible refine' Lk.ed_tup ?a ?b); (case a => wtm_at "eda"); (case b => first | decide | exact Nat.le_of_ble_eq_true rfl))
  | ((with_reducible refine' Lk.ed_lst ?a ?b); (case a => wtm_at "eda"); (case b => first | decide | exact Nat.le_of_ble_eq_true rfl))
  | ((with_reducible refine' Lk.ed_call ?a ?b); (case a => wtm_at "eda"); (case b => wtm_at "rel"))
  | ((with_reducible refine' Lk.ed_callK ?a ?b); (case a => wtm_at "eda"); (case b => wtm_at "rel"))
  | ((with_reducible refine' Lk.ed_ixT ?a ?b ?c ?k); (case a => wtm_at "ed"); (case b => wtm_at "ev"); (case c => rfl); (case k => rfl))
  | ((with_reducible refine' Lk.ed_ixL ?a ?b ?c ?k); (case a => wtm_at "ed"); (case b => wtm_at "ev"); (case c => rfl); (case k => rfl))
  | (refine' Lk.ed_ev (v := L2.V.int _) ?a ?b; (case a => wtm_at "ev"); (case b => exact L2.Dp.int _))
  | (refine' Lk.ed_ev (v := L2.V.bl _) ?a ?b; (case a => wtm_at "ev"); (case b => exact L2.Dp.bl _))
  | (refine' Lk.ed_ev (v := L2.V.str _) ?a ?b; (case a => wtm_at "ev"); (case b => exact L2.Dp.str _))
  | fail "ed stops")
local macro_rules | `(tactic| wtm_at "ev") => `(tactic| first
  | with_reducible exact Evl.ev_c
  | ((with_reducible refine' Evl.ev_var ?a); (case a => exact rfl))
  | ((with_reducible refine' Lk.ev_eqD ?a ?b ?c ?d); (case a => wtm_at "ed"); (case b => wtm_at "ed"); (case c => wtm_at "sh"); (case d => wtm_at "sh"))
  | ((with_reducible refine' Lk.ev_neD ?a ?b ?c ?d); (case a => wtm_at "ed"); (case b => wtm_at "ed"); (case c => wtm_at "sh"); (case d => wtm_at "sh"))
  | ((with_reducible refine' Evl.ev_op ?a ?b ?c); (case a => wtm_at "ev"); (case b => wtm_at "ev"); (case c => wtm_at "rv"))
  | ((with_reducible refine' Evl.ev_un ?a ?c); (case a => wtm_at "ev"); (case c => with_reducible exact Evl.ru_neg))
  | ((with_reducible refine' Evl.ev_andV ?a ?b); (case a => wtm_at "ev"); (case b => (intro hb; first | exact (Bool.false_ne_true hb).elim | exact (Bool.false_ne_true hb.symm).elim | wtm_at "ev")); (all_goals try exact false))
  | ((with_reducible refine' Evl.ev_orV ?a ?b); (case a => wtm_at "ev"); (case b => (intro hb; first | exact (Bool.false_ne_true hb).elim | exact (Bool.false_ne_true hb.symm).elim | wtm_at "ev")); (all_goals try exact false))
  | ((with_reducible refine' Lk.ev_chain ?a ?b ?c ?d ?e); (case a => wtm_at "ev"); (case b => wtm_at "ev"); (case c => wtm_at "rv"); (case d => (intro hb; wtm_at "ev")); (case e => (intro hb; wtm_at "rv")))
  | ((with_reducible refine' Evl.ev_notV ?a); (case a => wtm_at "ev"))
  | ((with_reducible refine' Lk.ev_edI (Lk.ed_call ?a ?b)); (case a => wtm_at "eda"); (case b => wtm_at "rel"))
  | ((with_reducible refine' Lk.ev_edB (Lk.ed_call ?a ?b)); (case a => wtm_at "eda"); (case b => wtm_at "rel"))
  | ((with_reducible refine' Lk.ev_edS (Lk.ed_call ?a ?b)); (case a => wtm_at "eda"); (case b => wtm_at "rel"))
  | ((with_reducible refine' Lk.ev_edI (Lk.ed_callK ?a ?b)); (case a => wtm_at "eda"); (case b => wtm_at "rel"))
  | ((with_reducible refine' Lk.ev_edI (Lk.ed_ixT ?a ?b ?c ?k)); (case a => wtm_at "ed"); (case b => wtm_at "ev"); (case c => rfl); (case k => rfl))
  | ((with_reducible refine' Lk.ev_edI (Lk.ed_ixL ?a ?b ?c ?k)); (case a => wtm_at "ed"); (case b => wtm_at "ev"); (case c => rfl); (case k => rfl))
  | ((with_reducible refine' Lk.ev_intI ?a); (case a => wtm_at "ev"))
  | ((with_reducible refine' Lk.ev_abs ?a); (case a => wtm_at "ev"))
  | ((with_reducible refine' Lk.ev_min ?a ?b); (case a => wtm_at "ev"); (case b => wtm_at "ev"))
  | ((with_reducible refine' Lk.ev_lenT ?a); (case a => wtm_at "ed"))
  | ((with_reducible refine' Lk.ev_lenL ?a); (case a => wtm_at "ed"))
  | ((with_reducible refine' Lk.ev_isiD ?a ?b); (case a => wtm_at "ed"); (case b => first
      | with_reducible exact Lk.kit_int _
      | with_reducible exact Lk.kit_bool _
      | with_reducible exact Lk.kit_tup _
      | with_reducible exact Lk.kit_lst _
      | with_reducible exact Lk.kit_str _
      | with_reducible exact Lk.kit_dct _))
  | fail "ev stops")
local macro_rules | `(tactic| wtm_at "ea") => `(tactic| first
  | with_reducible exact Evl.ea_nil
  | ((with_reducible refine' Evl.ea_cons ?a ?b); (case a => wtm_at "ev"); (case b => wtm_at "ea"))
  | fail "ea stops")
local macro_rules | `(tactic| wtm_at "sh") => `(tactic| first
  | rfl
  | assumption
  | decide
  | fail "sh stops")
local macro_rules | `(tactic| wtm_at "et") => `(tactic| first
  | ((with_reducible refine' Evl.et_test ?a); (case a => wtm_at "ev"))
  | ((with_reducible refine' Evl.et_B ?a); (case a => wtm_at "ev"))
  | ((with_reducible refine' Evl.et_and ?a ?b); (case a => wtm_at "et"); (case b => (intro hb; first | exact (Bool.false_ne_true hb).elim | exact (Bool.false_ne_true hb.symm).elim | wtm_at "et")); (all_goals try exact false))
  | ((with_reducible refine' Evl.et_or ?a ?b); (case a => wtm_at "et"); (case b => (intro hb; first | exact (Bool.false_ne_true hb).elim | exact (Bool.false_ne_true hb.symm).elim | wtm_at "et")); (all_goals try exact false))
  | ((with_reducible refine' Evl.et_not ?a); (case a => wtm_at "et"))
  | fail "et stops")
/-! part A -/
namespace K80
open PySem PySem.Spec PyProof.Rows L2 Evl Lk
def top (i : Nat) : Stmt := PySem.Challenge.pw_housekept_k80_days_of_all_years.main.body.getD i (.Pass ⟨0, 0, 0, 0⟩)
abbrev Fn (K : PySem.W.Frag) (x : Str) (st : Stmt) (f : Addr) (fd : FuncData) : Prop := FunD K x x (defArgs st) (defBody st) (defScope st) [] [] f fd
/-! ### the mathematics' words -/
def last : Int := 10 ^ 30
def isLeap (y : Int) : Bool := (decide (y % 4 = 0) && !decide (y % 100 = 0)) || decide (y % 400 = 0)
def lens : List Int := [31, 28, 31, 30, 31, 30, 31, 31, 30, 31, 30, 31]
def monthDays (y m : Int) : Int := if (decide (m = 2) && isLeap y) = true then 29 else lens.getD (m - 1).toNat 0
def yearBegin (y : Int) : Int := 365 * (y - 1) + (y - 1) / 4 - (y - 1) / 100 + (y - 1) / 400
def dayInYear (y m d : Int) : Int := ((List.range (m - 1).toNat).map fun (i : Nat) => monthDays y (1 + (i : Int))).sum + d - 1
def numberAt (y m d : Int) : Int := yearBegin y + dayInYear y m d
def isWhole : PyData → Int → Int → Bool
  | .int i, lo, hi => decide (lo ≤ i) && decide (i ≤ hi)
  | _, _, _ => false
theorem dec_vi (i j : Int) : decide (V.int i = V.int j) = decide (i = j) := by
  by_cases h : i = j
  · subst h; simp
  · rw [decide_eq_false h, decide_eq_false]
    intro q
    exact h (V.int.inj q)
/-! ### what the top has written -/
structure Txt (K : PySem.W.Frag) (mg : Str → Option Value) : Prop where
  n_isinstance : mg "isinstance" = none
  n_int : mg "int" = none
  n_bool : mg "bool" = none
  n_tuple : mg "tuple" = none
  n_len : mg "len" = none
  n_sum : mg "sum" = none
  n_range : mg "range" = none
  n_abs : mg "abs" = none
  n_min : mg "min" = none
  n_repr : mg "repr" = none
  n_str : mg "str" = none
  n_set : mg "set" = none
  v_LAST_YEAR : ∃ u, mg "LAST_YEAR" = some u ∧ RelV (.int last) u
  v_ROUND_DAYS : ∃ u, mg "ROUND_DAYS" = some u ∧ RelV (.int 146097) u
  v_LENGTHS : ∃ u, mg "LENGTHS" = some u ∧ RelV (.ref (He.ga K "LENGTHS")) u
  d_LENGTHS : ∀ H, Dp K H (.ref (He.ga K "LENGTHS")) (.tuple (lens.map .int))
  x_BadDate : XcT K mg "BadDate" (He.ga K "BadDate")
  x_BadNumber : XcT K mg "BadNumber" (He.ga K "BadNumber")
  x_BadYear : XcT K mg "BadYear" (He.ga K "BadYear")
section
variable {P : Program} {w : World} {K : PySem.W.Frag} {mg : Str → Option Value} {base : Heap} {f : Addr} {fd : FuncData}
/-! ### is_whole, is_leap, month_days -/
abbrev s_is_whole : Stmt := top 6
abbrev N_is_whole : List Str := ["value", "low", "high"]
theorem sc_is_whole : FnScope N_is_whole ["value", "low", "high"] (defScope s_is_whole) := ⟨rfl, rfl, rfl, by decide +kernel, rfl, by decide +kernel, by decide +kernel⟩
def R_is_whole : Rel := fun ds r => ∃ d lo hi, ds = [d, .int lo, .int hi] ∧ r = .ok (.bool (isWhole d lo hi))
theorem ok_is_whole (T : Txt K mg) (F : Fn K "is_whole" s_is_whole f fd) : FnOk P w K mg base CX0 1 f fd ["value", "low", "high"] (spD K R_is_whole) := by
  refine fn_data F sc_is_whole ?l fun cdv A outer s H E hr => ⟨_, (pss_one (ps_ret (pe_and (pe_callB call_isi (by rfl) T.n_isinstance (by decide +kernel) (pa_cons (pv 0) (pa_cons (pe_bltn (v := .ty "int") (by rfl) T.n_int (by decide +kernel) rfl) pa_nil))) (pe_and (pe_not (pe_callB call_isi (by rfl) T.n_isinstance (by decide +kernel) (pa_cons (pv 0) (pa_cons (pe_bltn (v := .ty "bool") (by rfl) T.n_bool (by decide +kernel) rfl) pa_nil)))) (pe_one (pe_chain op_le op_le (pv 1) (pv 0) (pv 2))))))), ?p⟩
  case l =>
    rintro ds r ⟨d, lo, hi, rfl, _⟩
    rfl
  case p =>
    rintro vs ds r Q hv ⟨d, lo, hi, rfl, rfl⟩ k
    obtain _ | ⟨h1, _ | ⟨h2, _ | ⟨h3, _ | _⟩⟩⟩ := hv
    obtain rfl := dp_int h2
    obtain rfl := dp_int h3
    cases d
    case int i =>
      obtain rfl := dp_int h1
      refine s_retOk k (ed_is (by wtm_at "ed") ?_)
      rfl
    all_goals
      refine s_retOk k (ed_is (by wtm_at "ed") ?_)
      rfl
abbrev s_is_leap : Stmt := top 11
abbrev N_is_leap : List Str := ["year"]
theorem sc_is_leap : FnScope N_is_leap ["year"] (defScope s_is_leap) := ⟨rfl, rfl, rfl, by decide +kernel, rfl, by decide +kernel, by decide +kernel⟩
def R_is_leap : Rel := fun ds r => ∃ y, ds = [.int y] ∧ r = .ok (.bool (isLeap y))
theorem ok_is_leap (F : Fn K "is_leap" s_is_leap f fd) : FnOk P w K mg base CX0 1 f fd ["year"] (spD K R_is_leap) := by
  refine fn_data F sc_is_leap ?l fun cdv A outer s H E hr => ⟨_, (pss_one (ps_ret (pe_or (pe_and (pe_cmpR op_eq (pe_op op_mod (pv 0) pe_int) pe_int (nomark _)) (pe_one (pe_cmpR op_ne (pe_op op_mod (pv 0) pe_int) pe_int (nomark _)))) (pe_one (pe_cmpR op_eq (pe_op op_mod (pv 0) pe_int) pe_int (nomark _)))))), ?p⟩
  case l =>
    rintro ds r ⟨y, rfl, _⟩
    rfl
  case p =>
    rintro vs ds r Q hv ⟨y, rfl, rfl⟩ k
    obtain _ | ⟨h1, _ | _⟩ := hv
    obtain rfl := dp_int h1
    refine s_retOk k (ed_is (by wtm_at "ed") ?_)
    simp only [isLeap, dec_vi]
/-! callees -/
abbrev C_is_whole (P : Program) (w : World) (K : PySem.W.Frag) (mg : Str → Option Value) (base : Heap) : Prop := Cl P w K mg base CX0 1 "is_whole" (spD K R_is_whole)
abbrev C_is_leap (P : Program) (w : World) (K : PySem.W.Frag) (mg : Str → Option Value) (base : Heap) : Prop := Cl P w K mg base CX0 1 "is_leap" (spD K R_is_leap)
abbrev s_month_days : Stmt := top 12
abbrev N_month_days : List Str := ["year", "month"]
theorem sc_month_days : FnScope N_month_days ["year", "month"] (defScope s_month_days) := ⟨rfl, rfl, rfl, by decide +kernel, rfl, by decide +kernel, by decide +kernel⟩
def R_month_days : Rel := fun ds r => ∃ y m, ds = [.int y, .int m] ∧ 1 ≤ m ∧ m ≤ 12 ∧ r = .ok (.int (monthDays y m))
theorem lens_at {m : Int} (h1 : 1 ≤ m) (h2 : m ≤ 12) : atI (lens.map PyData.int) (m - 1) = some (.int (lens.getD (m - 1).toNat 0)) := by
  have h : m = 1 ∨ m = 2 ∨ m = 3 ∨ m = 4 ∨ m = 5 ∨ m = 6 ∨ m = 7 ∨ m = 8 ∨ m = 9 ∨ m = 10 ∨ m = 11 ∨ m = 12 := by omega
  rcases h with h | h | h | h | h | h | h | h | h | h | h | h <;> (subst h; rfl)
theorem ok_month_days (T : Txt K mg) (c_is_leap : C_is_leap P w K mg base) (F : Fn K "month_days" s_month_days f fd) : FnOk P w K mg base CX0 2 f fd ["year", "month"] (spD K R_month_days) := by
  refine fn_data F sc_month_days ?l fun cdv A outer s H E hr => ⟨_, (pss_one (ps_ret (pe_ifExp (PW.pt (pw_and (pt_cmpR op_eq (pv 1) pe_int (nomark _)) (pw_and1 (pt_val (pe_k c_is_leap hr (by decide) rfl (by exact (pa_cons (pv 0) pa_nil))))))) pe_int (pe_ix ix_tup (C8.pe_gc rfl T.v_LENGTHS) (pe_op op_sub (pv 1) pe_int) (fun _ _ => rfl))))), ?p⟩
  case l =>
    rintro ds r ⟨y, m, rfl, _⟩
    rfl
  case p =>
    rintro vs ds r Q hv ⟨y, m, rfl, b1, b2, rfl⟩ k
    obtain _ | ⟨h1, _ | ⟨h2, _ | _⟩⟩ := hv
    obtain rfl := dp_int h1
    obtain rfl := dp_int h2
    refine s_retOk k (ed_if (b := decide (m = 2) && isLeap y) ?t (fun hb => ?x) (fun hb => ?z))
    case t =>
      refine et_is (et_and (by wtm_at "et") fun _ => by wtm_at "et") ?_
      rw [dec_vi]
    case x =>
      refine ed_is ed_cI ?_
      unfold monthDays
      rw [if_pos hb]
    case z =>
      refine ed_is (ed_ixT (ed_ev ev_c (T.d_LENGTHS H)) (by wtm_at "ev") (lens_at b1 b2) rfl) ?_
      unfold monthDays
      rw [if_neg (by rw [hb]; decide)]
abbrev C_month_days (P : Program) (w : World) (K : PySem.W.Frag) (mg : Str → Option Value) (base : Heap) : Prop := Cl P w K mg base CX0 2 "month_days" (spD K R_month_days)
abbrev s_year_begin : Stmt := top 16
abbrev N_year_begin : List Str := ["year", "ahead"]
theorem sc_year_begin : FnScope N_year_begin ["year"] (defScope s_year_begin) := ⟨rfl, rfl, rfl, by decide +kernel, rfl, by decide +kernel, by decide +kernel⟩
def R_year_begin : Rel := fun ds r => ∃ y, ds = [.int y] ∧ r = .ok (.int (yearBegin y))
theorem ok_year_begin (F : Fn K "year_begin" s_year_begin f fd) : FnOk P w K mg base CX0 1 f fd ["year"] (spD K R_year_begin) := by
  refine fn_data F sc_year_begin ?l fun cdv A outer s H E hr => ⟨_, (pss_cons (ps_set (i := 1) sc_year_begin.nd rfl (Or.inl rfl) (pe_op op_sub (pv 0) pe_int))
  (pss_one (ps_ret (pe_op op_add (pe_op op_sub (pe_op op_add (pe_op op_mul pe_int (pv 1)) (pe_op op_fdiv (pv 1) pe_int)) (pe_op op_fdiv (pv 1) pe_int)) (pe_op op_fdiv (pv 1) pe_int))))), ?p⟩
  case l =>
    rintro ds r ⟨y, rfl, _⟩
    rfl
  case p =>
    rintro vs ds r Q hv ⟨y, rfl, rfl⟩ k
    obtain _ | ⟨h1, _ | _⟩ := hv
    obtain rfl := dp_int h1
    refine q_asg (v := .int (y - 1)) (by wtm_at "ev") fun H1 e1 => ?_
    exact s_retOk (k.mono e1) (ed_is (by wtm_at "ed") (by rfl))
abbrev C_year_begin (P : Program) (w : World) (K : PySem.W.Frag) (mg : Str → Option Value) (base : Heap) : Prop := Cl P w K mg base CX0 1 "year_begin" (spD K R_year_begin)
abbrev s_day_in_year : Stmt := top 17
abbrev N_day_in_year : List Str := ["year", "month", "day", "one"]
theorem sc_day_in_year : FnScope N_day_in_year ["year", "month", "day"] (defScope s_day_in_year) := ⟨rfl, rfl, rfl, by decide +kernel, rfl, by decide +kernel, by decide +kernel⟩
def R_day_in_year : Rel := fun ds r => ∃ y m d, ds = [.int y, .int m, .int d] ∧ 1 ≤ m ∧ m ≤ 12 ∧ r = .ok (.int (dayInYear y m d))
theorem ok_day_in_year (T : Txt K mg) (c_month_days : C_month_days P w K mg base) (F : Fn K "day_in_year" s_day_in_year f fd) : FnOk P w K mg base CX0 3 f fd ["year", "month", "day"] (spD K R_day_in_year) := by
  refine fn_data F sc_day_in_year ?l fun cdv A outer s H E hr => ⟨_, (pss_one (ps_ret (pe_op op_sub (pe_op op_add (pe_callB (cr_sum rfl) (by rfl) T.n_sum (by decide +kernel) (pa_cons (pe_lc (own := [("one", 3)]) (by rfl) sc_day_in_year.nd (pi_range2 (by rfl) T.n_range (pa_cons pe_int (pa_cons (pv 1) pa_nil))) (blkOk_by (own := [("one", 3)]) (N := N_day_in_year) (sc := defScope s_day_in_year) (by decide +kernel)) (fun _ _ _ _ _ => (pg_name (i := 3) sc_day_in_year.nd rfl (Or.inl rfl))) (fun _ _ _ _ _ => pts_nil) (fun _ _ _ _ _ => (pe_k c_month_days hr (by decide) rfl (by exact (pa_cons (pv 0) (pa_cons (pv 3) pa_nil)))))) pa_nil)) (pv 2)) pe_int))), ?p⟩
  case l =>
    rintro ds r ⟨y, m, d, rfl, _⟩
    rfl
  case p =>
    rintro vs ds r Q hv ⟨y, m, d, rfl, b1, b2, rfl⟩ k
    obtain _ | ⟨h1, _ | ⟨h2, _ | ⟨h3, _ | _⟩⟩⟩ := hv
    obtain rfl := dp_int h1
    obtain rfl := dp_int h2
    obtain rfl := dp_int h3
    have key : EvD K (tLc (iRng2 (tCons (tC (.int 1)) (tCons (tVar 1) tNil))) (gName 3) tYes (tCall (spD K R_month_days) [] E0 (tCons (tVar 0) (tCons (tVar 3) tNil))) [3]) (start N_day_in_year [.int y, .int m, .int d]) H
        (.list (((List.range (m - 1).toNat).map fun (i : Nat) => monthDays y (1 + (i : Int))).map PyData.int)) := by
      refine ed_is (ed_lcR2 (lo := 1) (n := m) (fun _ => true) (fun i => .int (monthDays y (1 + (i : Int)))) (fun _ => rfl) (ea_cons ev_c (ea_cons (ev_var rfl) ea_nil)) ⟨by decide, by decide, by omega, by omega, by omega⟩ (fun _ => rfl)
        (fun _ _ _ _ => et_yes) (fun i H1 e hi _ => ?_)) ?_
      · refine ed_call (eda_cons (ed_var rfl (.int _)) (eda_cons (ed_var rfl (.int _)) eda_nil)) ⟨y, 1 + (i : Int), rfl, by omega, by omega, rfl⟩
      · rw [givenD_all, List.map_map]
        rfl
    refine s_retOk k (ed_is (ed_ev (ev_op (ev_op (ev_sum key) (by wtm_at "ev") rv_I0) (by wtm_at "ev") rv_I0) (.int _)) rfl)
abbrev C_day_in_year (P : Program) (w : World) (K : PySem.W.Frag) (mg : Str → Option Value) (base : Heap) : Prop := Cl P w K mg base CX0 3 "day_in_year" (spD K R_day_in_year)
abbrev s_number_at : Stmt := top 18
abbrev N_number_at : List Str := ["date"]
theorem sc_number_at : FnScope N_number_at ["date"] (defScope s_number_at) := ⟨rfl, rfl, rfl, by decide +kernel, rfl, by decide +kernel, by decide +kernel⟩
def R_number_at : Rel := fun ds r => ∃ y m d, ds = [.tuple [.int y, .int m, .int d]] ∧ 1 ≤ m ∧ m ≤ 12 ∧ r = .ok (.int (numberAt y m d))
theorem ok_number_at (c_year_begin : C_year_begin P w K mg base) (c_day_in_year : C_day_in_year P w K mg base) (F : Fn K "number_at" s_number_at f fd) : FnOk P w K mg base CX0 4 f fd ["date"] (spD K R_number_at) := by
  refine fn_data F sc_number_at ?l fun cdv A outer s H E hr => ⟨_, (pss_one (ps_ret (pe_op op_add (pe_k c_year_begin hr (by decide) rfl (by exact (pa_cons (pe_ix ix_tup (pv 0) pe_int (fun _ _ => rfl)) pa_nil))) (pe_k c_day_in_year hr (by decide) rfl (by exact (pa_cons (pe_ix ix_tup (pv 0) pe_int (fun _ _ => rfl)) (pa_cons (pe_ix ix_tup (pv 0) pe_int (fun _ _ => rfl)) (pa_cons (pe_ix ix_tup (pv 0) pe_int (fun _ _ => rfl)) pa_nil)))))))), ?p⟩
  case l =>
    rintro ds r ⟨y, m, d, rfl, _⟩
    rfl
  case p =>
    rintro vs ds r Q hv ⟨y, m, d, rfl, b1, b2, rfl⟩ k
    obtain _ | ⟨h1, _ | _⟩ := hv
    refine s_retOk k (ed_is (ed_ev (ev_op (ev_edI (ed_call (by wtm_at "eda") ⟨y, rfl, rfl⟩)) (ev_edI (ed_call (by wtm_at "eda") ⟨y, m, d, rfl, b1, b2, rfl⟩)) rv_I0) (.int _)) rfl)
end
end K80

/-! part B -/
namespace K80
open PySem PySem.Spec PyProof.Rows L2 Evl Lk
/-! ### the mathematics of days -/
def lp (y : Int) : Int := if isLeap y = true then 1 else 0
theorem lp_bd (y : Int) : 0 ≤ lp y ∧ lp y ≤ 1 := by
  unfold lp
  split <;> omega
def sumDays (y m : Int) : Int := ((List.range (m - 1).toNat).map fun (i : Nat) => monthDays y (1 + (i : Int))).sum
theorem sumDays_succ {y m : Int} (h : 1 ≤ m) : sumDays y (m + 1) = sumDays y m + monthDays y m := by
  unfold sumDays
  have e : (m + 1 - 1).toNat = (m - 1).toNat + 1 := by omega
  rw [e, List.range_succ, List.map_append, List.sum_append]
  have e2 : (1 : Int) + ((m - 1).toNat : Int) = m := by omega
  simp only [List.map_cons, List.map_nil, List.sum_cons, List.sum_nil, e2]
  omega
theorem cases12 {m : Int} (h1 : 1 ≤ m) (h2 : m ≤ 12) : m = 1 ∨ m = 2 ∨ m = 3 ∨ m = 4 ∨ m = 5 ∨ m = 6 ∨ m = 7 ∨ m = 8 ∨ m = 9 ∨ m = 10 ∨ m = 11 ∨ m = 12 := by omega
def lenAt (m : Int) : Int := lens.getD (m - 1).toNat 0
theorem monthDays_eq (y m : Int) : monthDays y m = if m = 2 then 28 + lp y else lenAt m := by
  unfold monthDays lp lenAt
  by_cases h : m = 2
  · subst h
    cases isLeap y <;> decide
  · rw [decide_eq_false h, if_neg h]
    rfl
theorem md1 (y : Int) : monthDays y 1 = 31 := by
  rw [monthDays_eq, if_neg (by decide)]
  rfl
theorem md2 (y : Int) : monthDays y 2 = 28 + lp y := by
  rw [monthDays_eq, if_pos rfl]
theorem md3 (y : Int) : monthDays y 3 = 31 := by
  rw [monthDays_eq, if_neg (by decide)]
  rfl
theorem md4 (y : Int) : monthDays y 4 = 30 := by
  rw [monthDays_eq, if_neg (by decide)]
  rfl
theorem md5 (y : Int) : monthDays y 5 = 31 := by
  rw [monthDays_eq, if_neg (by decide)]
  rfl
theorem md6 (y : Int) : monthDays y 6 = 30 := by
  rw [monthDays_eq, if_neg (by decide)]
  rfl
theorem md7 (y : Int) : monthDays y 7 = 31 := by
  rw [monthDays_eq, if_neg (by decide)]
  rfl
theorem md8 (y : Int) : monthDays y 8 = 31 := by
  rw [monthDays_eq, if_neg (by decide)]
  rfl
theorem md9 (y : Int) : monthDays y 9 = 30 := by
  rw [monthDays_eq, if_neg (by decide)]
  rfl
theorem md10 (y : Int) : monthDays y 10 = 31 := by
  rw [monthDays_eq, if_neg (by decide)]
  rfl
theorem md11 (y : Int) : monthDays y 11 = 30 := by
  rw [monthDays_eq, if_neg (by decide)]
  rfl
theorem md12 (y : Int) : monthDays y 12 = 31 := by
  rw [monthDays_eq, if_neg (by decide)]
  rfl
theorem monthDays_bd {y m : Int} (h1 : 1 ≤ m) (h2 : m ≤ 12) : 28 ≤ monthDays y m ∧ monthDays y m ≤ 31 := by
  have b := lp_bd y
  rcases cases12 h1 h2 with h | h | h | h | h | h | h | h | h | h | h | h <;> subst h <;> simp only [md1, md2, md3, md4, md5, md6, md7, md8, md9, md10, md11, md12] <;> omega
/-- the days ahead of a month -/
theorem sums (y : Int) : sumDays y 1 = 0 ∧ sumDays y 2 = 31 ∧ sumDays y 3 = 59 + lp y ∧ sumDays y 4 = 90 + lp y ∧ sumDays y 5 = 120 + lp y ∧ sumDays y 6 = 151 + lp y ∧ sumDays y 7 = 181 + lp y ∧ sumDays y 8 = 212 + lp y ∧ sumDays y 9 = 243 + lp y ∧ sumDays y 10 = 273 + lp y ∧ sumDays y 11 = 304 + lp y ∧ sumDays y 12 = 334 + lp y ∧ sumDays y 13 = 365 + lp y := by
  have s1 : sumDays y 1 = 0 := rfl
  have s2 : sumDays y 2 = 31 := by
    have h := sumDays_succ (y := y) (m := 1) (by decide)
    rw [md1] at h
    have e : (1 : Int) + 1 = 2 := by decide
    rw [e] at h
    omega
  have s3 : sumDays y 3 = 59 + lp y := by
    have h := sumDays_succ (y := y) (m := 2) (by decide)
    rw [md2] at h
    have e : (2 : Int) + 1 = 3 := by decide
    rw [e] at h
    omega
  have s4 : sumDays y 4 = 90 + lp y := by
    have h := sumDays_succ (y := y) (m := 3) (by decide)
    rw [md3] at h
    have e : (3 : Int) + 1 = 4 := by decide
    rw [e] at h
    omega
  have s5 : sumDays y 5 = 120 + lp y := by
    have h := sumDays_succ (y := y) (m := 4) (by decide)
    rw [md4] at h
    have e : (4 : Int) + 1 = 5 := by decide
    rw [e] at h
    omega
  have s6 : sumDays y 6 = 151 + lp y := by
    have h := sumDays_succ (y := y) (m := 5) (by decide)
    rw [md5] at h
    have e : (5 : Int) + 1 = 6 := by decide
    rw [e] at h
    omega
  have s7 : sumDays y 7 = 181 + lp y := by
    have h := sumDays_succ (y := y) (m := 6) (by decide)
    rw [md6] at h
    have e : (6 : Int) + 1 = 7 := by decide
    rw [e] at h
    omega
  have s8 : sumDays y 8 = 212 + lp y := by
    have h := sumDays_succ (y := y) (m := 7) (by decide)
    rw [md7] at h
    have e : (7 : Int) + 1 = 8 := by decide
    rw [e] at h
    omega
  have s9 : sumDays y 9 = 243 + lp y := by
    have h := sumDays_succ (y := y) (m := 8) (by decide)
    rw [md8] at h
    have e : (8 : Int) + 1 = 9 := by decide
    rw [e] at h
    omega
  have s10 : sumDays y 10 = 273 + lp y := by
    have h := sumDays_succ (y := y) (m := 9) (by decide)
    rw [md9] at h
    have e : (9 : Int) + 1 = 10 := by decide
    rw [e] at h
    omega
  have s11 : sumDays y 11 = 304 + lp y := by
    have h := sumDays_succ (y := y) (m := 10) (by decide)
    rw [md10] at h
    have e : (10 : Int) + 1 = 11 := by decide
    rw [e] at h
    omega
  have s12 : sumDays y 12 = 334 + lp y := by
    have h := sumDays_succ (y := y) (m := 11) (by decide)
    rw [md11] at h
    have e : (11 : Int) + 1 = 12 := by decide
    rw [e] at h
    omega
  have s13 : sumDays y 13 = 365 + lp y := by
    have h := sumDays_succ (y := y) (m := 12) (by decide)
    rw [md12] at h
    have e : (12 : Int) + 1 = 13 := by decide
    rw [e] at h
    omega
  exact ⟨s1, s2, s3, s4, s5, s6, s7, s8, s9, s10, s11, s12, s13⟩
theorem sumDays_bd {y m : Int} (h1 : 1 ≤ m) (h2 : m ≤ 12) : 0 ≤ sumDays y m ∧ sumDays y m + monthDays y m ≤ 365 + lp y := by
  have b := lp_bd y
  obtain ⟨s1, s2, s3, s4, s5, s6, s7, s8, s9, s10, s11, s12, s13⟩ := sums y
  rcases cases12 h1 h2 with h | h | h | h | h | h | h | h | h | h | h | h <;> subst h <;> simp only [md1, md2, md3, md4, md5, md6, md7, md8, md9, md10, md11, md12, s1, s2, s3, s4, s5, s6, s7, s8, s9, s10, s11, s12] <;> omega
/-- one month ahead of another -/
theorem sumDays_mono {y : Int} : ∀ {k : Nat} {i : Int}, 1 ≤ i → i + k ≤ 12 → sumDays y i ≤ sumDays y (i + k)
  | 0, i, _, _ => by
    have e : i + ((0 : Nat) : Int) = i := by omega
    rw [e]
    exact Int.le_refl _
  | k + 1, i, h1, h2 => by
    have a := sumDays_mono (y := y) (k := k) (i := i) h1 (by omega)
    have e : i + ((k + 1 : Nat) : Int) = (i + (k : Int)) + 1 := by omega
    rw [e, sumDays_succ (by omega)]
    have b := (monthDays_bd (y := y) (m := i + (k : Int)) (by omega) (by omega)).1
    omega
theorem sumDays_lt {y i m : Int} (h1 : 1 ≤ i) (h2 : i < m) (h3 : m ≤ 12) : sumDays y i + monthDays y i ≤ sumDays y m := by
  rw [← sumDays_succ h1]
  obtain ⟨k, hk⟩ : ∃ k : Nat, m = (i + 1) + k := ⟨(m - i - 1).toNat, by omega⟩
  subst hk
  exact sumDays_mono (by omega) (by omega)
theorem dayInYear_eq (y m d : Int) : dayInYear y m d = sumDays y m + d - 1 := rfl
/-- years -/
theorem lp_mod (y : Int) : isLeap y = isLeap ((y - 1) % 400 + 1) := by
  unfold isLeap
  have h1 : ((y - 1) % 400 + 1) % 4 = y % 4 := by omega
  have h2 : ((y - 1) % 400 + 1) % 100 = y % 100 := by omega
  have h3 : ((y - 1) % 400 + 1) % 400 = y % 400 := by omega
  rw [h1, h2, h3]
theorem yb_succ (y : Int) : yearBegin (y + 1) = yearBegin y + 365 + lp y := by
  unfold yearBegin lp isLeap
  by_cases h4 : y % 4 = 0
  · by_cases h100 : y % 100 = 0
    · by_cases h400 : y % 400 = 0
      · rw [decide_eq_true h4, decide_eq_true h100, decide_eq_true h400, if_pos (by decide)]; omega
      · rw [decide_eq_true h4, decide_eq_true h100, decide_eq_false h400, if_neg (by decide)]; omega
    · have h400 : ¬ y % 400 = 0 := by omega
      rw [decide_eq_true h4, decide_eq_false h100, decide_eq_false h400, if_pos (by decide)]; omega
  · have h100 : ¬ y % 100 = 0 := by omega
    have h400 : ¬ y % 400 = 0 := by omega
    rw [decide_eq_false h4, decide_eq_false h100, decide_eq_false h400, if_neg (by decide)]; omega
theorem yb_mono {a b : Int} (h : a ≤ b) : yearBegin a ≤ yearBegin b := by
  unfold yearBegin
  omega
theorem yb_lt {a b : Int} (h : a < b) : yearBegin (a + 1) ≤ yearBegin b := yb_mono (by omega)
theorem yb_one : yearBegin 1 = 0 := rfl
/-- a year of the first 400, and the rounds of 400 -/
theorem yb_round (y : Int) : yearBegin y = 146097 * ((y - 1) / 400) + yearBegin ((y - 1) % 400 + 1) := by
  unfold yearBegin
  omega
theorem monthDays_mod (y m : Int) : monthDays y m = monthDays ((y - 1) % 400 + 1) m := by
  unfold monthDays
  rw [← lp_mod y]
theorem sumDays_mod (y m : Int) : sumDays y m = sumDays ((y - 1) % 400 + 1) m := by
  unfold sumDays
  congr 1
  apply List.map_congr_left
  intro i _
  exact monthDays_mod y _
structure Valid (y m d : Int) : Prop where
  y1 : 1 ≤ y
  m1 : 1 ≤ m
  m2 : m ≤ 12
  d1 : 1 ≤ d
  d2 : d ≤ monthDays y m
theorem diy_bd {y m d : Int} (v : Valid y m d) : 0 ≤ dayInYear y m d ∧ dayInYear y m d < 365 + lp y := by
  have a := sumDays_bd (y := y) v.m1 v.m2
  have b := v.d1
  have c := v.d2
  rw [dayInYear_eq]
  omega
theorem number_between {y m d : Int} (v : Valid y m d) : yearBegin y ≤ numberAt y m d ∧ numberAt y m d < yearBegin (y + 1) := by
  have a := diy_bd v
  rw [yb_succ]
  unfold numberAt
  omega
/-- the number by rounds -/
theorem number_round {y m d : Int} (v : Valid y m d) : numberAt y m d / 146097 = (y - 1) / 400 ∧ numberAt y m d % 146097 = numberAt ((y - 1) % 400 + 1) m d := by
  have e : numberAt y m d = 146097 * ((y - 1) / 400) + numberAt ((y - 1) % 400 + 1) m d := by
    unfold numberAt
    rw [yb_round y, dayInYear_eq, dayInYear_eq, ← sumDays_mod]
    omega
  have v0 : Valid ((y - 1) % 400 + 1) m d := ⟨by omega, v.m1, v.m2, v.d1, by rw [← monthDays_mod]; exact v.d2⟩
  have b := number_between v0
  have lo : 0 ≤ yearBegin ((y - 1) % 400 + 1) := by
    have := yb_mono (a := 1) (b := (y - 1) % 400 + 1) (by omega)
    rw [yb_one] at this
    exact this
  have hi : yearBegin ((y - 1) % 400 + 1 + 1) ≤ 146097 := by
    have := yb_mono (a := (y - 1) % 400 + 1 + 1) (b := 401) (by omega)
    have e401 : yearBegin 401 = 146097 := by decide
    omega
  omega
theorem round_valid {y m d : Int} (v : Valid y m d) : Valid ((y - 1) % 400 + 1) m d := ⟨by omega, v.m1, v.m2, v.d1, by rw [← monthDays_mod]; exact v.d2⟩
end K80

/-! part C -/
namespace K80
open PySem PySem.Spec PyProof.Rows L2 Evl Lk
section
variable {P : Program} {w : World} {K : PySem.W.Frag} {mg : Str → Option Value} {base : Heap} {f : Addr} {fd : FuncData}
abbrev C_number_at (P : Program) (w : World) (K : PySem.W.Frag) (mg : Str → Option Value) (base : Heap) : Prop := Cl P w K mg base CX0 4 "number_at" (spD K R_number_at)
/-! ### is_date, the needs -/
def isDate : PyData → Bool
  | .tuple [.int y, .int m, c] => isWhole (.int y) 1 last && isWhole (.int m) 1 12 && isWhole c 1 (monthDays y m)
  | _ => false
abbrev s_is_date : Stmt := top 13
abbrev N_is_date : List Str := ["value"]
theorem sc_is_date : FnScope N_is_date ["value"] (defScope s_is_date) := ⟨rfl, rfl, rfl, by decide +kernel, rfl, by decide +kernel, by decide +kernel⟩
def R_is_date : Rel := fun ds r => ∃ d, ds = [d] ∧ r = .ok (.bool (isDate d))
theorem isDate_len {xs : List PyData} (h : xs.length ≠ 3) : isDate (.tuple xs) = false := by
  unfold isDate
  split
  · rename_i e
    injection e with e
    rw [e] at h
    exact absurd rfl h
  · rfl
theorem isWhole_int {d : PyData} {lo hi : Int} (h : isWhole d lo hi = true) : ∃ i, d = .int i ∧ lo ≤ i ∧ i ≤ hi := by
  cases d with
  | int i =>
    have h' : (decide (lo ≤ i) && decide (i ≤ hi)) = true := h
    simp only [Bool.and_eq_true, decide_eq_true_eq] at h'
    exact ⟨i, rfl, h'⟩
  | _ => cases h
theorem isDate_no {a b c : PyData} (h : (isWhole a 1 last && isWhole b 1 12) = false) : isDate (.tuple [a, b, c]) = false := by
  cases a with
  | int y =>
    cases b with
    | int m =>
      show (isWhole (.int y) 1 last && isWhole (.int m) 1 12 && isWhole c 1 (monthDays y m)) = false
      rw [h, Bool.false_and]
    | _ => rfl
  | _ => rfl
theorem ok_is_date (T : Txt K mg) (c_is_whole : C_is_whole P w K mg base) (c_month_days : C_month_days P w K mg base) (F : Fn K "is_date" s_is_date f fd) : FnOk P w K mg base CX0 3 f fd ["value"] (spD K R_is_date) := by
  refine fn_data F sc_is_date ?l fun cdv A outer s H E hr => ⟨_, (pss_cons (ps_if (PW.pt (pw_or (pt_not (pt_val (pe_callB call_isi (by rfl) T.n_isinstance (by decide +kernel) (pa_cons (pv 0) (pa_cons (pe_bltn (v := .ty "tuple") (by rfl) T.n_tuple (by decide +kernel) rfl) pa_nil))))) (pw_or1 (pt_cmpR op_ne (pe_callB cl_len (by rfl) T.n_len (by decide +kernel) (pa_cons (pv 0) pa_nil)) pe_int (nomark _))))) (pss_one (ps_ret pe_bl)) pss_nil)
  (pss_cons (ps_if (PW.pt (pw_or (pt_not (pt_val (pe_k c_is_whole hr (by decide) rfl (by exact (pa_cons (pe_ix ix_tup (pv 0) pe_int (fun _ _ => rfl)) (pa_cons pe_int (pa_cons (C8.pe_gc rfl T.v_LAST_YEAR) pa_nil))))))) (pw_or1 (pt_not (pt_val (pe_k c_is_whole hr (by decide) rfl (by exact (pa_cons (pe_ix ix_tup (pv 0) pe_int (fun _ _ => rfl)) (pa_cons pe_int (pa_cons pe_int pa_nil)))))))))) (pss_one (ps_ret pe_bl)) pss_nil)
  (pss_one (ps_ret (pe_k c_is_whole hr (by decide) rfl (by exact (pa_cons (pe_ix ix_tup (pv 0) pe_int (fun _ _ => rfl)) (pa_cons pe_int (pa_cons (pe_k c_month_days hr (by decide) rfl (by exact (pa_cons (pe_ix ix_tup (pv 0) pe_int (fun _ _ => rfl)) (pa_cons (pe_ix ix_tup (pv 0) pe_int (fun _ _ => rfl)) pa_nil)))) pa_nil))))))))), ?p⟩
  case l =>
    rintro ds r ⟨d, rfl, _⟩
    rfl
  case p =>
    rintro vs ds r Q hv ⟨d, rfl, rfl⟩ k
    obtain _ | ⟨h1, _ | _⟩ := hv
    cases d
    case tuple xs =>
      by_cases hl : xs.length = 3
      · obtain ⟨a, b, c, rfl⟩ : ∃ a b c, xs = [a, b, c] := by
          match xs, hl with
          | [a, b, c], _ => exact ⟨a, b, c, rfl⟩
        refine q_when (b := false) (et_is (by wtm_at "et") (by rfl)) (fun h => nomatch h) fun _ H1 e1 => ?_
        have h1 := dp_ex e1 _ _ h1
        have k := k.mono e1
        refine q_when (b := !isWhole a 1 last || !isWhole b 1 12) (et_is (by wtm_at "et") (by rfl)) (fun hb H2 e2 => ?_) fun hb H2 e2 => ?_
        · refine s_retOk (k.mono e2) (ed_is ed_cB ?_)
          rw [isDate_no]
          cases h : isWhole a 1 last <;> cases h' : isWhole b 1 12 <;> rw [h, h'] at hb <;> first | rfl | cases hb
        · have h1 := dp_ex e2 _ _ h1
          have ha : isWhole a 1 last = true := by cases h : isWhole a 1 last <;> rw [h] at hb <;> first | rfl | cases hb
          have hb' : isWhole b 1 12 = true := by cases h : isWhole b 1 12 <;> rw [ha, h] at hb <;> first | rfl | cases hb
          obtain ⟨y, rfl, y1, y2⟩ := isWhole_int ha
          obtain ⟨m, rfl, m1, m2⟩ := isWhole_int hb'
          refine s_retOk (k.mono e2) (ed_is (d := .bool (isWhole c 1 (monthDays y m))) (by wtm_at "ed") ?_)
          show _ = PyData.bool (isWhole (.int y) 1 last && isWhole (.int m) 1 12 && isWhole c 1 (monthDays y m))
          rw [ha, hb']
          rfl
      · refine q_when (b := true) (et_is (by wtm_at "et") ?_) (fun _ H1 e1 => s_retOk (k.mono e1) (ed_is ed_cB ?_)) (fun h => nomatch h)
        · have e : decide (V.int (xs.length : Int) = V.int 3) = false := by rw [dec_vi]; exact decide_eq_false (by omega)
          rw [e]
          rfl
        · rw [isDate_len hl]
    all_goals
      refine q_when (b := true) (et_is (by wtm_at "et") (by rfl)) (fun _ H1 e1 => s_retOk (k.mono e1) (ed_is ed_cB rfl)) (fun h => nomatch h)
abbrev C_is_date (P : Program) (w : World) (K : PySem.W.Frag) (mg : Str → Option Value) (base : Heap) : Prop := Cl P w K mg base CX0 3 "is_date" (spD K R_is_date)
abbrev s_need_date : Stmt := top 14
abbrev N_need_date : List Str := ["date"]
theorem sc_need_date : FnScope N_need_date ["date"] (defScope s_need_date) := ⟨rfl, rfl, rfl, by decide +kernel, rfl, by decide +kernel, by decide +kernel⟩
def R_need_date (K : PySem.W.Frag) : Rel := fun ds r => ∃ d, ds = [d] ∧ r = if isDate d = true then .ok .none else .error (He.ga K "BadDate")
theorem ok_need_date (T : Txt K mg) (c_is_date : C_is_date P w K mg base) (F : Fn K "need_date" s_need_date f fd) : FnOk P w K mg base (L2.CX P w) 4 f fd ["date"] (spD K (R_need_date K)) := by
  refine fn_dataX F sc_need_date ?l fun cdv A outer s H E hr => ⟨_, (pss_one (ps_if (pt_not (pt_val (pe_k c_is_date hr (by decide) rfl (by exact (pa_cons (pv 0) pa_nil))))) (pss_one (ps_raise rfl (takes_of rfl rfl rfl rfl) (pmk_own PySem.F.excBase_ValueError T.x_BadDate.ex T.x_BadDate.gl T.x_BadDate.kp (raises_own T.x_BadDate.sb T.x_BadDate.ty) rfl))) pss_nil)), ?p⟩
  case l =>
    rintro ds r ⟨d, rfl, _⟩
    rfl
  case p =>
    rintro vs ds r Q hv ⟨d, rfl, rfl⟩ k kx
    obtain _ | ⟨h1, _ | _⟩ := hv
    refine s_when (b := !isDate d) (et_is (by wtm_at "et") (by rfl)) (fun hb H1 e1 => ?_) fun hb H1 e1 => ?_
    · exact kx _ (if_neg (by cases h : isDate d <;> rw [h] at hb <;> first | exact Bool.false_ne_true | cases hb)) H1 e1
    · exact k _ (if_pos (by cases h : isDate d <;> rw [h] at hb <;> first | rfl | cases hb)) .non H1 e1 .non
abbrev C_need_date (P : Program) (w : World) (K : PySem.W.Frag) (mg : Str → Option Value) (base : Heap) : Prop := Cl P w K mg base (L2.CX P w) 4 "need_date" (spD K (R_need_date K))
abbrev s_need_year : Stmt := top 15
abbrev N_need_year : List Str := ["year"]
theorem sc_need_year : FnScope N_need_year ["year"] (defScope s_need_year) := ⟨rfl, rfl, rfl, by decide +kernel, rfl, by decide +kernel, by decide +kernel⟩
def R_need_year (K : PySem.W.Frag) : Rel := fun ds r => ∃ d, ds = [d] ∧ r = if isWhole d 1 last = true then .ok .none else .error (He.ga K "BadYear")
theorem ok_need_year (T : Txt K mg) (c_is_whole : C_is_whole P w K mg base) (F : Fn K "need_year" s_need_year f fd) : FnOk P w K mg base (L2.CX P w) 2 f fd ["year"] (spD K (R_need_year K)) := by
  refine fn_dataX F sc_need_year ?l fun cdv A outer s H E hr => ⟨_, (pss_one (ps_if (pt_not (pt_val (pe_k c_is_whole hr (by decide) rfl (by exact (pa_cons (pv 0) (pa_cons pe_int (pa_cons (C8.pe_gc rfl T.v_LAST_YEAR) pa_nil))))))) (pss_one (ps_raise rfl (takes_of rfl rfl rfl rfl) (pmk_own PySem.F.excBase_ValueError T.x_BadYear.ex T.x_BadYear.gl T.x_BadYear.kp (raises_own T.x_BadYear.sb T.x_BadYear.ty) rfl))) pss_nil)), ?p⟩
  case l =>
    rintro ds r ⟨d, rfl, _⟩
    rfl
  case p =>
    rintro vs ds r Q hv ⟨d, rfl, rfl⟩ k kx
    obtain _ | ⟨h1, _ | _⟩ := hv
    refine s_when (b := !isWhole d 1 last) (et_is (by wtm_at "et") (by rfl)) (fun hb H1 e1 => ?_) fun hb H1 e1 => ?_
    · exact kx _ (if_neg (by cases h : isWhole d 1 last <;> rw [h] at hb <;> first | exact Bool.false_ne_true | cases hb)) H1 e1
    · exact k _ (if_pos (by cases h : isWhole d 1 last <;> rw [h] at hb <;> first | rfl | cases hb)) .non H1 e1 .non
abbrev C_need_year (P : Program) (w : World) (K : PySem.W.Frag) (mg : Str → Option Value) (base : Heap) : Prop := Cl P w K mg base (L2.CX P w) 2 "need_year" (spD K (R_need_year K))
/-! ### number_of -/
def R_number_of (K : PySem.W.Frag) : Rel := fun ds r => ∃ d, ds = [d] ∧ ((isDate d = false ∧ r = .error (He.ga K "BadDate")) ∨ ∃ y m n, d = .tuple [.int y, .int m, .int n] ∧ isDate d = true ∧ 1 ≤ m ∧ m ≤ 12 ∧ r = .ok (.int (numberAt y m n)))
abbrev s_number_of : Stmt := top 19
abbrev N_number_of : List Str := ["date"]
theorem sc_number_of : FnScope N_number_of ["date"] (defScope s_number_of) := ⟨rfl, rfl, rfl, by decide +kernel, rfl, by decide +kernel, by decide +kernel⟩
theorem ok_number_of (c_need_date : C_need_date P w K mg base) (c_number_at : C_number_at P w K mg base) (F : Fn K "number_of" s_number_of f fd) : FnOk P w K mg base (L2.CX P w) 5 f fd ["date"] (spD K (R_number_of K)) := by
  refine fn_dataX F sc_number_of ?l fun cdv A outer s H E hr => ⟨_, (pss_cons (ps_expr (pe_kR (takes_of rfl rfl rfl rfl) c_need_date hr (by decide) rfl (by exact (pa_cons (pv 0) pa_nil))))
  (pss_one (ps_ret (pe_k c_number_at hr (by decide) rfl (by exact (pa_cons (pv 0) pa_nil)))))), ?p⟩
  case l =>
    rintro ds r ⟨d, rfl, _⟩
    rfl
  case p =>
    rintro vs ds r Q hv ⟨d, rfl, hd⟩ k kx
    obtain _ | ⟨h1, _ | _⟩ := hv
    rcases hd with ⟨hd, rfl⟩ | ⟨y, m, n, rfl, hd, m1, m2, rfl⟩
    · refine q_dropX (by wtm_at "eda") ⟨d, rfl, (if_neg (by rw [hd]; exact Bool.false_ne_true)).symm⟩ (fun _ q => nomatch q) ?_
      exact kx
    · refine q_dropX (by wtm_at "eda") ⟨_, rfl, (if_pos hd).symm⟩ (fun _ _ H1 e1 => ?_) (fun _ q => nomatch q)
      have h1 := dp_ex e1 _ _ h1
      exact s_retOk (k.mono e1) (ed_call (by wtm_at "eda") ⟨y, m, n, rfl, m1, m2, rfl⟩)
end
end K80

/-! part D -/
namespace K80
open PySem PySem.Spec PyProof.Rows L2 Evl Lk
section
variable {P : Program} {w : World} {K : PySem.W.Frag} {mg : Str → Option Value} {base : Heap} {f : Addr} {fd : FuncData}
abbrev s_month_and_day : Stmt := top 20
abbrev N_month_and_day : List Str := ["year", "at", "month"]
theorem sc_month_and_day : FnScope N_month_and_day ["year", "at"] (defScope s_month_and_day) := ⟨rfl, rfl, rfl, by decide +kernel, rfl, by decide +kernel, by decide +kernel⟩
def R_month_and_day : Rel := fun ds r => ∃ y m d, ds = [.int y, .int (dayInYear y m d)] ∧ Valid y m d ∧ r = .ok (.tuple [.int m, .int d])
theorem ok_month_and_day (c_month_days : C_month_days P w K mg base) (F : Fn K "month_and_day" s_month_and_day f fd) : FnOk P w K mg base CX0 3 f fd ["year", "at"] (spD K R_month_and_day) := by
  refine fn_data F sc_month_and_day ?l fun cdv A outer s H E hr => ⟨_, (pss_cons (ps_set (i := 2) sc_month_and_day.nd rfl (Or.inl rfl) pe_int)
  (pss_cons (ps_while PassesOwn.never (pt_cmpR op_ge (pv 1) (pe_k c_month_days hr (by decide) rfl (by exact (pa_cons (pv 0) (pa_cons (pv 2) pa_nil)))) (nomark _)) (pss_cons (ps_aug (i := 1) sc_month_and_day.nd rfl (Or.inl rfl) (pe_k c_month_days hr (by decide) rfl (by exact (pa_cons (pv 0) (pa_cons (pv 2) pa_nil)))) ip_sub)
  (pss_one (ps_aug (i := 2) sc_month_and_day.nd rfl (Or.inl rfl) pe_int ip_add))))
  (pss_one (ps_ret (pe_tup (pa_cons (pv 2) (pa_cons (pe_op op_add (pv 1) pe_int) pa_nil))))))), ?p⟩
  case l =>
    rintro ds r ⟨y, m, d, rfl, _⟩
    rfl
  case p =>
    rintro vs ds r Q hv ⟨y, m, d, rfl, v, rfl⟩ k
    obtain _ | ⟨h1, _ | ⟨h2, _ | _⟩⟩ := hv
    obtain rfl := dp_int h1
    obtain rfl := dp_int h2
    refine q_asg (v := .int 1) (by wtm_at "ev") fun H1 e1 => ?_
    refine q_while (fun t σ' H' => ∃ i a : Int, σ' = [some (.int y), some (.int a), some (.int i)] ∧ Ex H H' ∧ 1 ≤ i ∧ i ≤ m ∧ a = sumDays y m - sumDays y i + d - 1 ∧ t = (m - i).toNat) (m - 1).toNat
      ⟨1, dayInYear y m d, rfl, e1, by decide, v.m1, by rw [dayInYear_eq, (sums y).1]; omega, rfl⟩ ?_
    rintro t σ' H' ⟨i, a, rfl, e, i1, im, rfl, rfl⟩
    have vm := v.m2
    refine ⟨decide (monthDays y i ≤ sumDays y m - sumDays y i + d - 1), et_is (et_test (ev_op (by wtm_at "ev") (ev_edI (ed_call (by wtm_at "eda") ⟨y, i, rfl, i1, by omega, rfl⟩)) rv_I0)) rfl, fun hb H2 e2 => ?_, fun hb H2 e2 => ?_⟩
    · have hlt : i < m := by
        have hb := of_decide_eq_true hb
        have d2 := v.d2
        rcases Int.lt_or_le i m with q | q
        · exact q
        · have : i = m := by omega
          subst this
          omega
      refine ⟨_, fun σ2 H2 q => q, ?_⟩
      refine q_aug (f := fun i j => i - j) (a := sumDays y m - sumDays y i + d - 1) (b := monthDays y i) rfl (ev_edI (ed_call (by wtm_at "eda") ⟨y, i, rfl, i1, by omega, rfl⟩)) fun H3 e3 => ?_
      refine s_aug (f := fun i j => i + j) (a := i) (b := 1) rfl (by wtm_at "ev") fun H4 e4 => ?_
      refine ⟨(m - (i + 1)).toNat, by omega, i + 1, _, rfl, ((e.trans e2).trans e3).trans e4, by omega, by omega, ?_, rfl⟩
      rw [sumDays_succ i1]
      show sumDays y m - sumDays y i + d - 1 - monthDays y i = _
      omega
    · have him : i = m := by
        have hb := of_decide_eq_false hb
        rcases Int.lt_or_le i m with q | q
        · have := sumDays_lt (y := y) i1 q v.m2
          have d1 := v.d1
          omega
        · omega
      subst him
      refine s_retOk (k.mono (e.trans e2)) (ed_is (by wtm_at "ed") ?_)
      have e0 : sumDays y i - sumDays y i + d - 1 + 1 = d := by omega
      rw [e0]
abbrev C_month_and_day (P : Program) (w : World) (K : PySem.W.Frag) (mg : Str → Option Value) (base : Heap) : Prop := Cl P w K mg base CX0 3 "month_and_day" (spD K R_month_and_day)
abbrev s_date_at : Stmt := top 21
abbrev N_date_at : List Str := ["number", "rounds", "rest", "year"]
theorem sc_date_at : FnScope N_date_at ["number"] (defScope s_date_at) := ⟨rfl, rfl, rfl, by decide +kernel, rfl, by decide +kernel, by decide +kernel⟩
def R_date_at : Rel := fun ds r => ∃ y m d, ds = [.int (numberAt y m d)] ∧ Valid y m d ∧ r = .ok (.tuple [.int y, .int m, .int d])
theorem ok_date_at (T : Txt K mg) (c_year_begin : C_year_begin P w K mg base) (c_month_and_day : C_month_and_day P w K mg base) (F : Fn K "date_at" s_date_at f fd) : FnOk P w K mg base CX0 4 f fd ["number"] (spD K R_date_at) := by
  refine fn_data F sc_date_at ?l fun cdv A outer s H E hr => ⟨_, (pss_cons (ps_par (i := 1) (j := 2) (by rfl) sc_date_at.nd rfl rfl (by decide) rfl rfl (pa_cons (pe_op op_fdivW (pv 0) (C8.pe_gc rfl T.v_ROUND_DAYS)) (pa_cons (pe_op op_mod (pv 0) (C8.pe_gc rfl T.v_ROUND_DAYS)) pa_nil)) (by rfl))
  (pss_cons (ps_set (i := 3) sc_date_at.nd rfl (Or.inl rfl) (pe_op op_add pe_int (pe_op op_fdiv (pv 2) pe_int)))
  (pss_cons (ps_while PassesOwn.never (pt_cmpR op_le (pe_k c_year_begin hr (by decide) rfl (by exact (pa_cons (pe_op op_add (pv 3) pe_int) pa_nil))) (pv 2) (nomark _)) (pss_one (ps_aug (i := 3) sc_date_at.nd rfl (Or.inl rfl) pe_int ip_add)))
  (pss_one (ps_ret (pe_tup (pa_cons (pe_op op_add (pe_op op_mul pe_int (pv 1)) (pv 3)) (StX.pa_star (pe_k c_month_and_day hr (by decide) rfl (by exact (pa_cons (pv 3) (pa_cons (pe_op op_sub (pv 2) (pe_k c_year_begin hr (by decide) rfl (by exact (pa_cons (pv 3) pa_nil)))) pa_nil)))) pa_nil)))))))), ?p⟩
  case l =>
    rintro ds r ⟨y, m, d, rfl, _⟩
    rfl
  case p =>
    rintro vs ds r Q hv ⟨y, m, d, rfl, v, rfl⟩ k
    obtain _ | ⟨h1, _ | _⟩ := hv
    obtain rfl := dp_int h1
    obtain ⟨q1, q2⟩ := number_round v
    have v0 := round_valid v
    have nb := number_between v0
    generalize hy0 : (y - 1) % 400 + 1 = y0 at q2 v0 nb
    have y1 := v0.y1
    refine q_par (x := .int ((y - 1) / 400)) (y := .int (numberAt y0 m d)) (ea_cons (ev_is (ev_op (by wtm_at "ev") (by wtm_at "ev") (rv_I ⟨by decide, by decide⟩)) ?_) (ea_cons (ev_is (by wtm_at "ev") ?_) ea_nil)) fun H1 e1 => ?_
    · rw [q1]
    · rw [q2]
    generalize hr0 : numberAt y0 m d = r0 at nb
    have r0p : 0 ≤ r0 := by
      have := yb_mono (a := 1) (b := y0) y1
      rw [yb_one] at this
      omega
    refine q_asg (v := .int (1 + r0 / 366)) (by wtm_at "ev") fun H2 e2 => ?_
    have yb0 : yearBegin (1 + r0 / 366) ≤ r0 := by
      unfold yearBegin
      omega
    have le0 : 1 + r0 / 366 ≤ y0 := by
      rcases Int.lt_or_le y0 (1 + r0 / 366) with q | q
      · have := yb_lt q
        omega
      · exact q
    refine q_while (fun t σ' H' => ∃ i : Int, σ' = [some (.int (numberAt y m d)), some (.int ((y - 1) / 400)), some (.int r0), some (.int i)] ∧ Ex H H' ∧ 1 ≤ i ∧ i ≤ y0 ∧ t = (y0 - i).toNat) (y0 - (1 + r0 / 366)).toNat
      ⟨1 + r0 / 366, rfl, e1.trans e2, by omega, le0, rfl⟩ ?_
    rintro t σ' H' ⟨i, rfl, e, i1, iy, rfl⟩
    refine ⟨decide (yearBegin (i + 1) ≤ r0), et_is (by wtm_at "et") (by rfl), fun hb H3 e3 => ?_, fun hb H3 e3 => ?_⟩
    · have hlt : i < y0 := by
        have hb := of_decide_eq_true hb
        rcases Int.lt_or_le i y0 with q | q
        · exact q
        · have : i = y0 := by omega
          subst this
          omega
      refine ⟨_, fun σ2 H2 q => q, ?_⟩
      refine s_aug (f := fun i j => i + j) (a := i) (b := 1) rfl (by wtm_at "ev") fun H4 e4 => ?_
      exact ⟨(y0 - (i + 1)).toNat, by omega, i + 1, rfl, (e.trans e3).trans e4, by omega, by omega, rfl⟩
    · have hiy : i = y0 := by
        have hb := of_decide_eq_false hb
        rcases Int.lt_or_le i y0 with q | q
        · have := yb_lt q
          omega
        · omega
      subst hiy
      have ed : r0 - yearBegin i = dayInYear i m d := by
        rw [← hr0]
        unfold numberAt
        omega
      have ey : 400 * ((y - 1) / 400) + i = y := by omega
      refine s_retOk (k.mono (e.trans e3)) (ed_is (ed_tup (eda_cons (by wtm_at "ed") (eda_star (ed_call (eda_cons (by wtm_at "ed") (eda_cons (d := .int (dayInYear i m d)) (ed_is (by wtm_at "ed") ?_) eda_nil)) ⟨i, m, d, rfl, v0, rfl⟩) eda_nil rfl))) ?_)
      · rw [ed]
      · rw [ey]
        rfl
abbrev C_date_at (P : Program) (w : World) (K : PySem.W.Frag) (mg : Str → Option Value) (base : Heap) : Prop := Cl P w K mg base CX0 4 "date_at" (spD K R_date_at)
abbrev s_date_of : Stmt := top 22
abbrev N_date_of : List Str := ["number"]
theorem sc_date_of : FnScope N_date_of ["number"] (defScope s_date_of) := ⟨rfl, rfl, rfl, by decide +kernel, rfl, by decide +kernel, by decide +kernel⟩
def R_date_of (K : PySem.W.Frag) : Rel := fun ds r => (∃ y m d, ds = [.int (numberAt y m d)] ∧ Valid y m d ∧ y ≤ last ∧ r = .ok (.tuple [.int y, .int m, .int d])) ∨
  (∃ d, ds = [d] ∧ isWhole d 0 (yearBegin (last + 1) - 1) = false ∧ r = .error (He.ga K "BadNumber"))
theorem ok_date_of (T : Txt K mg) (c_is_whole : C_is_whole P w K mg base) (c_year_begin : C_year_begin P w K mg base) (c_date_at : C_date_at P w K mg base) (F : Fn K "date_of" s_date_of f fd) : FnOk P w K mg base (L2.CX P w) 5 f fd ["number"] (spD K (R_date_of K)) := by
  refine fn_dataX F sc_date_of ?l fun cdv A outer s H E hr => ⟨_, (pss_cons (ps_if (pt_not (pt_val (pe_k c_is_whole hr (by decide) rfl (by exact (pa_cons (pv 0) (pa_cons pe_int (pa_cons (pe_op op_sub (pe_k c_year_begin hr (by decide) rfl (by exact (pa_cons (pe_op op_add (C8.pe_gc rfl T.v_LAST_YEAR) pe_int) pa_nil))) pe_int) pa_nil))))))) (pss_one (ps_raise rfl (takes_of rfl rfl rfl rfl) (pmk_own PySem.F.excBase_ValueError T.x_BadNumber.ex T.x_BadNumber.gl T.x_BadNumber.kp (raises_own T.x_BadNumber.sb T.x_BadNumber.ty) rfl))) pss_nil)
  (pss_one (ps_ret (pe_k c_date_at hr (by decide) rfl (by exact (pa_cons (pv 0) pa_nil)))))), ?p⟩
  case l =>
    rintro ds r (⟨y, m, d, rfl, _⟩ | ⟨d, rfl, _⟩)
    · rfl
    · rfl
  case p =>
    rintro vs ds r Q hv hd k kx
    rcases hd with ⟨y, m, d, rfl, v, yl, rfl⟩ | ⟨d, rfl, hd, rfl⟩
    · obtain _ | ⟨h1, _ | _⟩ := hv
      obtain rfl := dp_int h1
      have nb := number_between v
      have lo : 0 ≤ numberAt y m d := by
        have := yb_mono (a := 1) (b := y) v.y1
        rw [yb_one] at this
        omega
      have hi : numberAt y m d ≤ yearBegin (last + 1) - 1 := by
        have := yb_mono (a := y + 1) (b := last + 1) (by omega)
        omega
      refine q_when (b := false) (et_is (by wtm_at "et") ?_) (fun h => nomatch h) fun _ H1 e1 => ?_
      · show (!(decide (0 ≤ numberAt y m d) && decide (numberAt y m d ≤ yearBegin (last + 1) - 1))) = false
        rw [decide_eq_true lo, decide_eq_true hi]
        rfl
      · exact s_retOk (k.mono e1) (ed_call (by wtm_at "eda") ⟨y, m, d, rfl, v, rfl⟩)
    · obtain _ | ⟨h1, _ | _⟩ := hv
      refine q_when (b := true) (et_is (by wtm_at "et") ?_) (fun _ H1 e1 => kx _ rfl H1 e1) fun h => nomatch h
      rw [hd]
      rfl
/-! ### kinds of years -/
def word (y : Int) : Str := if isLeap y = true then "leap" else if isLeap (y - 1) = true then "behind" else if isLeap (y + 1) = true then "ahead" else "plain"
def kindD (y : Int) : PyData := .tuple [.int (yearBegin y % 7), .str (word y)]
abbrev s_kind_at : Stmt := top 23
abbrev N_kind_at : List Str := ["year", "word"]
theorem sc_kind_at : FnScope N_kind_at ["year"] (defScope s_kind_at) := ⟨rfl, rfl, rfl, by decide +kernel, rfl, by decide +kernel, by decide +kernel⟩
def R_kind_at : Rel := fun ds r => ∃ y, ds = [.int y] ∧ r = .ok (kindD y)
theorem ok_kind_at (c_is_leap : C_is_leap P w K mg base) (c_year_begin : C_year_begin P w K mg base) (F : Fn K "kind_at" s_kind_at f fd) : FnOk P w K mg base CX0 2 f fd ["year"] (spD K R_kind_at) := by
  refine fn_data F sc_kind_at ?l fun cdv A outer s H E hr => ⟨_, (Evl.pss_cut (ps_if (pt_val (pe_k c_is_leap hr (by decide) rfl (by exact (pa_cons (pv 0) pa_nil)))) (pss_one (ps_set (i := 1) sc_kind_at.nd rfl (Or.inl rfl) pe_str)) (pss_one (ps_if (pt_val (pe_k c_is_leap hr (by decide) rfl (by exact (pa_cons (pe_op op_sub (pv 0) pe_int) pa_nil)))) (pss_one (ps_set (i := 1) sc_kind_at.nd rfl (Or.inl rfl) pe_str)) (pss_one (ps_set (i := 1) sc_kind_at.nd rfl (Or.inl rfl) (pe_ifExp (pt_val (pe_k c_is_leap hr (by decide) rfl (by exact (pa_cons (pe_op op_add (pv 0) pe_int) pa_nil)))) pe_str pe_str))))))
  (pss_one (ps_ret (pe_tup (pa_cons (pe_op op_mod (pe_k c_year_begin hr (by decide) rfl (by exact (pa_cons (pv 0) pa_nil))) pe_int) (pa_cons (pv 1) pa_nil)))))), ?p⟩
  case l =>
    rintro ds r ⟨y, rfl, _⟩
    rfl
  case p =>
    rintro vs ds r Q hv ⟨y, rfl, rfl⟩ k
    obtain _ | ⟨h1, _ | _⟩ := hv
    obtain rfl := dp_int h1
    refine q_cut (M := fun σ' H' => σ' = [some (.int y), some (.str (word y))] ∧ Ex H H') ?_ ?_
    · refine s_if (b := isLeap y) (by wtm_at "et") (fun hb H1 e1 => ?_) (fun hb H1 e1 => ?_)
      · refine s_asg (v := .str (word y)) (ev_is ev_c ?_) fun H2 e2 => ⟨rfl, e1.trans e2⟩
        unfold word
        rw [if_pos hb]
      · refine s_if (b := isLeap (y - 1)) (by wtm_at "et") (fun hb2 H2 e2 => ?_) (fun hb2 H2 e2 => ?_)
        · refine s_asg (v := .str (word y)) (ev_is ev_c ?_) fun H3 e3 => ⟨rfl, (e1.trans e2).trans e3⟩
          unfold word
          rw [if_neg (by rw [hb]; decide), if_pos hb2]
        · refine s_asg (v := .str (word y)) (ev_if (b := isLeap (y + 1)) (by wtm_at "et") (fun hb3 => ev_is ev_c ?_) (fun hb3 => ev_is ev_c ?_)) fun H3 e3 => ⟨rfl, (e1.trans e2).trans e3⟩
          · unfold word
            rw [if_neg (by rw [hb]; decide), if_neg (by rw [hb2]; decide), if_pos hb3]
          · unfold word
            rw [if_neg (by rw [hb]; decide), if_neg (by rw [hb2]; decide), if_neg (by rw [hb3]; decide)]
    · rintro σ' H' ⟨rfl, e⟩
      exact s_retOk (k.mono e) (ed_is (by wtm_at "ed") (by rfl))
abbrev C_kind_at (P : Program) (w : World) (K : PySem.W.Frag) (mg : Str → Option Value) (base : Heap) : Prop := Cl P w K mg base CX0 2 "kind_at" (spD K R_kind_at)
abbrev s_kind_of : Stmt := top 24
abbrev N_kind_of : List Str := ["year"]
theorem sc_kind_of : FnScope N_kind_of ["year"] (defScope s_kind_of) := ⟨rfl, rfl, rfl, by decide +kernel, rfl, by decide +kernel, by decide +kernel⟩
def R_kind_of (K : PySem.W.Frag) : Rel := fun ds r => (∃ y, ds = [.int y] ∧ 1 ≤ y ∧ y ≤ last ∧ r = .ok (kindD y)) ∨ (∃ d, ds = [d] ∧ isWhole d 1 last = false ∧ r = .error (He.ga K "BadYear"))
theorem ok_kind_of (c_need_year : C_need_year P w K mg base) (c_kind_at : C_kind_at P w K mg base) (F : Fn K "kind_of" s_kind_of f fd) : FnOk P w K mg base (L2.CX P w) 3 f fd ["year"] (spD K (R_kind_of K)) := by
  refine fn_dataX F sc_kind_of ?l fun cdv A outer s H E hr => ⟨_, (pss_cons (ps_expr (pe_kR (takes_of rfl rfl rfl rfl) c_need_year hr (by decide) rfl (by exact (pa_cons (pv 0) pa_nil))))
  (pss_one (ps_ret (pe_k c_kind_at hr (by decide) rfl (by exact (pa_cons (pv 0) pa_nil)))))), ?p⟩
  case l =>
    rintro ds r (⟨y, rfl, _⟩ | ⟨d, rfl, _⟩)
    · rfl
    · rfl
  case p =>
    rintro vs ds r Q hv hd k kx
    rcases hd with ⟨y, rfl, y1, y2, rfl⟩ | ⟨d, rfl, hd, rfl⟩
    · obtain _ | ⟨h1, _ | _⟩ := hv
      obtain rfl := dp_int h1
      refine q_dropX (by wtm_at "eda") ⟨_, rfl, (if_pos ?_).symm⟩ (fun _ _ H1 e1 => ?_) (fun _ q => nomatch q)
      · show (decide (1 ≤ y) && decide (y ≤ last)) = true
        rw [decide_eq_true y1, decide_eq_true y2]
        rfl
      · exact s_retOk (k.mono e1) (ed_call (by wtm_at "eda") ⟨y, rfl, rfl⟩)
    · obtain _ | ⟨h1, _ | _⟩ := hv
      exact q_dropX (by wtm_at "eda") ⟨d, rfl, (if_neg (by rw [hd]; exact Bool.false_ne_true)).symm⟩ (fun _ q => nomatch q) kx
end
end K80

/-! part E -/
namespace K80
open PySem PySem.Spec PyProof.Rows L2 Evl Lk
section
variable {P : Program} {w : World} {K : PySem.W.Frag} {mg : Str → Option Value} {base : Heap} {f : Addr} {fd : FuncData}
/-! ### the state of the draws (the same in every law) -/
abbrev s__law_begun : Stmt := top 27
abbrev N__law_begun : List Str := ["script", "great", "cell"]
theorem sc__law_begun : FnScope N__law_begun ["script"] (defScope s__law_begun) := ⟨rfl, rfl, rfl, by decide +kernel, rfl, by decide +kernel, by decide +kernel⟩
theorem ok__law_begun (T : Txt K mg) (F : Fn K "_law_begun" s__law_begun f fd) : FnOk P w K mg base CX0 1 f fd ["script"] (spBegun K) := by
  refine fn_run F sc__law_begun ?l fun cdv A outer s H E hr => ⟨_, (pss_cons (ps_setLc (i := 1) (own := [("cell", 2)]) (by rfl) sc__law_begun.nd rfl rfl (sw_true rfl rfl rfl (by decide +kernel)) (pi_list (pv 0)) (blkOk_by (own := [("cell", 2)]) (N := N__law_begun) (sc := defScope s__law_begun) (by decide +kernel)) (fun _ _ _ _ _ => (pg_name (i := 2) sc__law_begun.nd rfl (Or.inl rfl))) (fun _ _ _ _ _ => (pts_one (pt_cmpR op_ge (pe_callB cl_abs (by rfl) T.n_abs (by decide +kernel) (pa_cons (pv 2) pa_nil)) (pe_op op_pow pe_int pe_int) (nomark _)))) (fun _ _ _ _ _ => (pe_op op_sub (pe_callB cl_abs (by rfl) T.n_abs (by decide +kernel) (pa_cons (pv 2) pa_nil)) (pe_op op_pow pe_int pe_int))))
  (pss_one (ps_ret (pe_disp (pps_cons pe_str (pv 1) (pps_cons pe_str (pe_lc (own := [("cell", 2)]) (by rfl) sc__law_begun.nd (pi_list (pv 0)) (blkOk_by (own := [("cell", 2)]) (N := N__law_begun) (sc := defScope s__law_begun) (by decide +kernel)) (fun _ _ _ _ _ => (pg_name (i := 2) sc__law_begun.nd rfl (Or.inl rfl))) (fun _ _ _ _ _ => pts_nil) (fun _ _ _ _ _ => (pe_callB cl_abs (by rfl) T.n_abs (by decide +kernel) (pa_cons (pv 2) pa_nil)))) (pps_cons pe_str pe_int (pps_cons pe_str pe_int pps_nil)))) (by rfl) (by rfl) (fun z => by cases z) (by decide))))), ?p⟩
  case l =>
    rintro vs H Q E ⟨l, cs, rfl, _⟩
    rfl
  case p =>
    rintro vs Q ⟨l, cs, rfl, hl, hz, k⟩
    have at_i : ∀ (i : Nat) (x : V), (cs.map V.int)[i]? = some x → x = .int (cs.getD i 0) := fun i x h => by
      rw [List.getElem?_map] at h
      obtain ⟨y, hy, rfl⟩ := Option.map_eq_some_iff.mp h
      rw [List.getD_eq_getElem?_getD, hy]
      rfl
    have hz' : (cs.map V.int).length ≤ 40000 := by rw [List.length_map]; exact hz
    let ab : Int → Int := fun c => if c < 0 then -c else c
    have gv : ∀ (n : Nat) (f : Nat → Bool) (h : Nat → Int), given n f (fun i => V.int (h i)) = (((List.range n).filter f).map h).map V.int := fun n f h => by
      unfold given
      rw [List.map_map]
      rfl
    refine q_asgL (xs := given (cs.map V.int).length (fun i => decide ((10 : Int) ^ 18 ≤ ab (cs.getD i 0))) fun i => .int (ab (cs.getD i 0) - 10 ^ 18)) ?lc fun g H1 hg e1 h1 => ?_
    case lc =>
      refine el_lcL (xs := cs.map V.int) (fun i => decide ((10 : Int) ^ 18 ≤ ab (cs.getD i 0))) (fun i => .int (ab (cs.getD i 0) - 10 ^ 18)) (ev_var rfl) hl hz' (fun _ => rfl) (fun i x H1 e1 hi => ?_) fun i x H1 e1 hi _ => ?_
      · obtain rfl := at_i i x hi
        exact et_is (by wtm_at "et") (by rfl)
      · obtain rfl := at_i i x hi
        exact ev_is (by wtm_at "ev") (by rfl)
    refine fun p hp => ?_
    have hgp : g ≠ p := by
      rintro rfl
      rw [h1] at hp
      cases hp
    have e2 : Ex H1 (upd H1 p (.dK [])) := Ex.new hp
    refine r_pairEv (v := .ref g) (ev_var rfl) fun H2 e2' => ?_
    refine r_pairEvL (xs := given (cs.map V.int).length (fun _ => true) fun i => .int (ab (cs.getD i 0))) ?lc2 fun c H3 hc e3 h3 => ?_
    case lc2 =>
      refine el_lcL (xs := cs.map V.int) (fun _ => true) (fun i => .int (ab (cs.getD i 0))) (ev_var rfl) (ex_l (e1.trans (e2.trans e2')) hl) hz' (fun _ => rfl) (fun i x H1 e1 hi => et_yes) fun i x H2 e2 hi _ => ?_
      obtain rfl := at_i i x hi
      exact ev_is (by wtm_at "ev") (by rfl)
    refine r_pairEv ev_c fun H4 e4 => r_pairEv ev_c fun H5 e5 => ?_
    have e6 : Ex H1 H3 := e2.trans (e2'.trans e3)
    have e7 : Ex H3 H5 := e4.trans e5
    refine ⟨(e2'.trans (e3.trans e7)) _ _ upd_same, stD g c 0 0, rfl, show 4 ≤ 15 by decide, ?_⟩
    have h1' : H5 g = some (.lst (given (cs.map V.int).length (fun i => decide ((10 : Int) ^ 18 ≤ ab (cs.getD i 0))) fun i => .int (ab (cs.getD i 0) - 10 ^ 18))) := e7 _ _ (e6 _ _ h1)
    have h3' := e7 _ _ h3
    have hpn : H p = none := by
      cases q : H p with
      | none => rfl
      | some o =>
        have := e1 _ _ q
        rw [hp] at this
        cases this
    have hgc : g ≠ c := by
      rintro rfl
      rw [(e2.trans e2') _ _ h1] at hc
      cases hc
    have hpc : c ≠ p := by
      rintro rfl
      rw [e2' _ _ upd_same] at hc
      cases hc
    rw [gv] at h1' h3'
    refine k p g _ ?_ ⟨c, _, _, 0, 0, ⟨upd_same, by rw [upd_ne hgp]; exact h1', by rw [upd_ne hpc]; exact h3', hgc⟩, by decide, by decide⟩ hpn hg
    exact Ex.mut (e1.trans (e6.trans e7)) hpn
abbrev C__law_begun (P : Program) (w : World) (K : PySem.W.Frag) (mg : Str → Option Value) (base : Heap) : Prop := Cl P w K mg base CX0 1 "_law_begun" (spBegun K)
abbrev s__law_mixed : Stmt := top 28
abbrev N__law_mixed : List Str := ["state", "turn", "found", "prime", "blend", "cell"]
theorem sc__law_mixed : FnScope N__law_mixed ["state"] (defScope s__law_mixed) := ⟨rfl, rfl, rfl, by decide +kernel, rfl, by decide +kernel, by decide +kernel⟩
theorem ok__law_mixed (T : Txt K mg) (F : Fn K "_law_mixed" s__law_mixed f fd) : FnOk P w K mg base CX0 1 f fd ["state"] spMixed := by
  refine fn_run F sc__law_mixed ?l fun cdv A outer s H E hr => ⟨_, (pss_cons (ps_par (i := 1) (j := 2) (by rfl) sc__law_mixed.nd rfl rfl (by decide) rfl rfl (pa_cons (pe_op op_add (pe_dget (hu_of hr) (pv 0) pe_str (fun _ _ => rfl)) pe_int) (pa_cons pe_int pa_nil)) (by rfl))
  (pss_cons (ps_dput (hu_of hr) (pv 0) pe_str (pv 1) rfl)
  (pss_cons (ps_for PassesOwn.never rfl (pi_list (pe_lst (pa_cons pe_int (pa_cons pe_int (pa_cons pe_int (pa_cons pe_int pa_nil)))))) (pg_name (i := 3) sc__law_mixed.nd rfl (Or.inl rfl)) (pss_cons (ps_set (i := 4) sc__law_mixed.nd rfl (Or.inl rfl) (pe_op op_add (pe_op op_mul pe_int (pv 1)) (pe_op op_fdiv (pv 3) pe_int)))
  (pss_cons (ps_for PassesOwn.never rfl (pi_list (pe_dget (hu_of hr) (pv 0) pe_str (fun _ _ => rfl))) (pg_name (i := 5) sc__law_mixed.nd rfl (Or.inl rfl)) (pss_one (ps_set (i := 4) sc__law_mixed.nd rfl (Or.inl rfl) (pe_op op_mod (pe_callTy cl_int (by rfl) T.n_int (by decide +kernel) (pa_cons (pe_op op_add (pe_op op_add (pe_op op_mul (pv 4) pe_int) (pv 5)) (pv 1)) pa_nil)) (pv 3)))))
  (pss_one (ps_set (i := 2) sc__law_mixed.nd rfl (Or.inl rfl) (pe_op op_add (pe_op op_mul (pv 2) pe_int) (pe_op op_mod (pe_callTy cl_int (by rfl) T.n_int (by decide +kernel) (pa_cons (pe_op op_pow (pv 4) pe_int) pa_nil)) (pv 3))))))))
  (pss_one (ps_ret (pv 2)))))), ?p⟩
  case l =>
    rintro vs H Q E ⟨a, g, n, rfl, _⟩
    rfl
  case p =>
    rintro vs Q ⟨a, g, n, rfl, ⟨c, gs, cs, r, t, st, t0, tn⟩, hn, k⟩
    refine q_par (x := .int (t + 1)) (y := .int 0) (ea_cons (ev_op (ev_dget (ev_var rfl) st.hd stD_turn) (by wtm_at "ev") (by wtm_at "rv")) (ea_cons (by wtm_at "ev") ea_nil)) fun H1 e1 => ?_
    have st1 := st.ex e1
    refine q_dput ⟨_, rfl, dput_end (T := fun σ H => _) (ev_var rfl) st1.hd stD_len fun H2 e2 => ?_⟩
    rw [put_turn]
    have st2 : StD (upd H2 a (.dK (stD g c r (t + 1)))) a g c gs cs r (t + 1) := (st1.ex e2).put
    have kp2 : Kp a g H (upd H2 a (.dK (stD g c r (t + 1)))) := ((Kp.of e1).trans (Kp.of e2)).trans Kp.a
    generalize upd H2 a (.dK (stD g c r (t + 1))) = H3 at st2 kp2
    have hb : 0 ≤ 69621 * (t + 1) ∧ 69621 * (t + 1) < 100000000000000000 := by
      have h : n < 1000000000000 := hn
      omega
    refine q_forNLn (xs := primes.map V.int) (el_lst (vs := [.int 2147483629, .int 2147483647, .int 2147483563, .int 2147483587]) (by wtm_at "ea") (by decide)) (fun p i σ' H' => Ex H3 H' ∧ H' p = some (.lst (primes.map V.int)) ∧ ∃ (z : Int) (x y u : Option V), σ' = [some (.ref a), some (.int (t + 1)), some (.int z), x, y, u])
      (fun p H4 _ e4 h4 => ⟨e4, h4, 0, none, none, none, rfl⟩) (fun p i σ' H' _ q => sq_of q.2.1) ?_ ?_
    · rintro p i x σ' H' hx ⟨e4, hp, z, x', y, u, rfl⟩
      obtain ⟨q, rfl, q1, q2⟩ := primes_at i x hx
      have st4 := st2.ex e4
      refine q_asg (v := .int (69621 * (t + 1) + q / 41)) (by wtm_at "ev") fun H5 e5 => ?_
      have st5 := st4.ex e5
      refine q_forLn (a := c) (xs := cs.map V.int) (ev_dget (ev_var rfl) st5.hd stD_cells) (sq_of st5.hc) (fun i σ2 H6 => Ex H5 H6 ∧ ∃ (b : Int) (u : Option V), 0 ≤ b ∧ b < 1000000000000000000 ∧ σ2 = [some (.ref a), some (.int (t + 1)), some (.int z), some (.int q), some (.int b), u])
        (fun H6 e6 => ⟨e6, _, u, ?_, ?_, rfl⟩) (fun i σ2 H6 _ w => sq_of (st5.ex w.1).hc) ?_ ?_
      · omega
      · omega
      · rintro i x σ2 H6 hx ⟨e6, b, u, b0, b1, rfl⟩
        rw [List.getElem?_map] at hx
        obtain ⟨y, hy, rfl⟩ := Option.map_eq_some_iff.mp hx
        refine s_asg (v := .int ((b * 48271 + y + (t + 1)) % q)) (by wtm_at "ev") fun H7 e7 => ⟨e6.trans e7, _, _, ?_, ?_, rfl⟩
        · exact Int.emod_nonneg _ (by omega)
        · have := Int.emod_lt_of_pos (b * 48271 + y + (t + 1)) (show 0 < q by omega)
          omega
      · rintro σ2 H6 ⟨e6, b, u, b0, b1, rfl⟩
        refine s_asg (v := .int (z * 2147483659 + b ^ (5 : Int).toNat % q)) (ev_op (by wtm_at "ev") (ev_op (ev_intI (ev_op (by wtm_at "ev") (by wtm_at "ev") (rv_I ⟨by decide, by decide, by omega⟩))) (by wtm_at "ev") (rv_I (by omega))) (by wtm_at "rv")) fun H7 e7 => ?_
        exact ⟨((e4.trans e5).trans e6).trans e7, (e6.trans e7) _ _ (e5 _ _ hp), _, _, _, _, rfl⟩
    · rintro p σ' H' ⟨e4, hp, z, x', y, u, rfl⟩
      refine s_ret (v := .int z) (ev_var rfl) fun H5 e5 => ?_
      exact k z H5 (kp2.trans ((Kp.of e4).trans (Kp.of e5))) ⟨c, gs, cs, r, t + 1, st2.ex (e4.trans e5), by omega, by omega⟩
abbrev C__law_mixed (P : Program) (w : World) (K : PySem.W.Frag) (mg : Str → Option Value) (base : Heap) : Prop := Cl P w K mg base CX0 1 "_law_mixed" spMixed
abbrev s__law_draw : Stmt := top 29
abbrev N__law_draw : List Str := ["state", "room", "found"]
theorem sc__law_draw : FnScope N__law_draw ["state", "room"] (defScope s__law_draw) := ⟨rfl, rfl, rfl, by decide +kernel, rfl, by decide +kernel, by decide +kernel⟩
theorem ok__law_draw (T : Txt K mg) (c__law_mixed : C__law_mixed P w K mg base) (F : Fn K "_law_draw" s__law_draw f fd) : FnOk P w K mg base CX0 2 f fd ["state", "room"] spDraw := by
  refine fn_run F sc__law_draw ?l fun cdv A outer s H E hr => ⟨_, (Evl.pss_cut (ps_if (pt_cmpR op_eq (pe_dget (hu_of hr) (pv 0) pe_str (fun _ _ => rfl)) pe_int (nomark _)) (pss_one (ps_dput (hu_of hr) (pv 0) pe_str (pe_ifExp (pt_cmpR (op_neD hr.units) (pe_dget (hu_of hr) (pv 0) pe_str (fun _ _ => rfl)) (pe_lst pa_nil) (nomark _)) (pe_bm PySem.F.plainAttrs_list PySem.F.slot_list_pop PySem.F.type_list_pop mt_popAt (pe_dget (hu_of hr) (pv 0) pe_str (fun _ _ => rfl)) (pa_cons pe_int pa_nil)) (pe_k c__law_mixed hr (by decide) rfl (by exact (pa_cons (pv 0) pa_nil)))) rfl)) pss_nil)
  (pss_cons (ps_set (i := 2) sc__law_draw.nd rfl (Or.inl rfl) (pe_op op_mod (pe_callTy cl_int (by rfl) T.n_int (by decide +kernel) (pa_cons (pe_dget (hu_of hr) (pv 0) pe_str (fun _ _ => rfl)) pa_nil)) (pv 1)))
  (pss_cons (ps_dput (hu_of hr) (pv 0) pe_str (pe_op op_fdivW (pe_dget (hu_of hr) (pv 0) pe_str (fun _ _ => rfl)) (pv 1)) rfl)
  (pss_one (ps_ret (pv 2)))))), ?p⟩
  case l =>
    rintro vs H Q E ⟨a, g, n, room, rfl, _⟩
    rfl
  case p =>
    rintro vs Q ⟨a, g, n, room, rfl, ⟨c, gs, cs, r, t, st, t0, tn⟩, hn, h0, hz, k⟩
    refine q_cut (M := fun σ' H' => σ' = [some (.ref a), some (.int room), none] ∧ Kp a g H H' ∧ StAt H' a g (n + 1)) ?_ ?_
    · refine s_when (b := decide (r = 0)) (et_is (et_test (ev_op (ev_dget (ev_var rfl) st.hd stD_rest) ev_c (by wtm_at "rv"))) (dec_vi' r 0)) (fun hb H1 e1 => ?_) fun hb H1 e1 => ?_
      · have st1 := st.ex e1
        have fin : ∀ (x : Int) (gs' : List Int) (H2 : Hp) (t' : Int), Kp a g H H2 → StD H2 a g c gs' cs r t' → 0 ≤ t' → t' ≤ (n + 1 : Nat) → (tVar 0) [some (.ref a), some (.int room), none] H2 fun x' H3 => ∃ a' H4, x' = .ref a' ∧ DPut H3 a' (.str "rest") (.int x) H4 ∧ [some (V.ref a), some (.int room), none] = [some (.ref a), some (.int room), none] ∧ Kp a g H H4 ∧ StAt H4 a g (n + 1) :=
          fun x gs' H2 t' kp st2 t0 tn => dput_end (T := fun σ' H4 => σ' = [some (.ref a), some (.int room), none] ∧ Kp a g H H4 ∧ StAt H4 a g (n + 1)) (ev_var rfl) st2.hd stD_len fun H3 e3 => ⟨rfl, (kp.trans (Kp.of e3)).trans Kp.a, c, gs', cs, x, t', by rw [put_rest]; exact (st2.ex e3).put, t0, tn⟩
        refine r_dput (r_if (b := !PyData.eqv (.list (gs.map .int)) (.list [])) (et_test (ev_neD (ed_ev (ev_dget (ev_var rfl) st1.hd stD_great) (.lst (sq_of st1.hg) (dps_ints gs))) (ed_lst eda_nil) (sh_ints gs) rfl)) (fun hb2 H2 e2 => ?_) fun hb2 H2 e2 => ?_)
        · have st2 := st1.ex e2
          rcases gs with _ | ⟨x, gs⟩
          · exact absurd hb2 (by decide)
          · refine r_pop0 (ev_dget (ev_var rfl) st2.hd stD_great) st2.hg fun H3 e3 => ?_
            have st3 := (st2.ex e3).pop (gs' := gs)
            exact fin x gs _ t (((Kp.of e1).trans (Kp.of e2)).trans ((Kp.of e3).trans Kp.g)) st3 t0 (by omega)
        · have st2 := st1.ex e2
          refine ⟨_, rfl, a, g, n, rfl, ⟨c, gs, cs, r, t, st2, t0, tn⟩, hn, fun x H3 kp3 st3 => ?_⟩
          obtain ⟨c', gs', cs', r', t', st3, t0', tn'⟩ := st3
          exact dput_end (T := fun σ' H4 => σ' = [some (.ref a), some (.int room), none] ∧ Kp a g H H4 ∧ StAt H4 a g (n + 1)) (ev_var rfl) st3.hd stD_len fun H4 e4 =>
            ⟨rfl, (((Kp.of e1).trans (Kp.of e2)).trans (kp3.trans (Kp.of e4))).trans Kp.a, c', gs', cs', x, t', by rw [put_rest]; exact (st3.ex e4).put, t0', tn'⟩
      · exact ⟨rfl, Kp.of e1, c, gs, cs, r, t, st.ex e1, t0, by omega⟩
    · rintro σ' H1 ⟨rfl, kp1, c, gs, cs, r, t, st1, t0, tn⟩
      refine q_asg (v := .int (r % room)) (ev_op (ev_intI (ev_dget (ev_var rfl) st1.hd stD_rest)) (by wtm_at "ev") (rv_I h0)) fun H2 e2 => ?_
      have st2 := st1.ex e2
      refine q_dput (ev_op (z := .int (r / room)) (ev_dget (ev_var rfl) st2.hd stD_rest) (ev_var rfl) (rv_I ⟨h0, hz⟩) H2 (Ex.refl H2) _ fun H3 e3 => dput_end (T := fun σ H => _) (ev_var rfl) (st2.ex e3).hd stD_len fun H4 e4 => ?_)
      refine s_ret (v := .int (r % room)) (ev_var rfl) fun H5 e5 => ?_
      refine k _ H5 (Int.emod_nonneg _ (by omega)) (Int.emod_lt_of_pos _ h0) ((((kp1.trans (Kp.of e2)).trans ((Kp.of e3).trans (Kp.of e4))).trans Kp.a).trans (Kp.of e5)) ⟨c, gs, cs, r / room, t, ?_, t0, tn⟩
      rw [put_rest] at e5
      exact ((st2.ex (e3.trans e4)).put).ex e5
abbrev C__law_draw (P : Program) (w : World) (K : PySem.W.Frag) (mg : Str → Option Value) (base : Heap) : Prop := Cl P w K mg base CX0 2 "_law_draw" spDraw
abbrev s__law_pick : Stmt := top 30
abbrev N__law_pick : List Str := ["state", "some"]
theorem sc__law_pick : FnScope N__law_pick ["state", "some"] (defScope s__law_pick) := ⟨rfl, rfl, rfl, by decide +kernel, rfl, by decide +kernel, by decide +kernel⟩
theorem ok__law_pick (T : Txt K mg) (c__law_draw : C__law_draw P w K mg base) (F : Fn K "_law_pick" s__law_pick f fd) : FnOk P w K mg base CX0 3 f fd ["state", "some"] (spPick K) := by
  refine fn_run F sc__law_pick ?l fun cdv A outer s H E hr => ⟨_, (pss_one (ps_ret (pe_ix ix_list (pv 1) (pe_k c__law_draw hr (by decide) rfl (by exact (pa_cons (pv 0) (pa_cons (pe_callB cl_len (by rfl) T.n_len (by decide +kernel) (pa_cons (pv 1) pa_nil)) pa_nil)))) (fun _ _ => rfl)))), ?p⟩
  case l =>
    rintro vs H Q E ⟨a, g, n, v, ds, rfl, _⟩
    rfl
  case p =>
    rintro vs Q ⟨a, g, n, v, ds, rfl, st, hn, hv, h0, hz, k⟩
    have hv' : Dp K H v (.list ds) := dp_ex hide_ex _ _ hv
    obtain ⟨p, xs, rfl, hs, hx⟩ := dp_lst hv
    refine ⟨.ref p, rfl, ?_⟩
    refine ⟨.ref a, rfl, ?_⟩
    refine ev_lenL (K := K) (ds := ds) (ed_var rfl hv') H (Ex.refl H) _ fun H1 e1 => ?_
    refine ⟨a, g, n, ds.length, rfl, st.ex e1, hn, by omega, log2_small hz, fun x H2 x0 x1 kp st2 => ?_⟩
    have hx' := x1
    obtain ⟨j, rfl⟩ := Int.eq_ofNat_of_zero_le x0
    have hj : j < ds.length := by omega
    obtain ⟨w, hw, dw⟩ := dps_at (i := j) hx (List.getElem?_eq_getElem hj)
    have ek : Ex (hide a g H) (hide a g H2) := Ex.trans (Kp.hide (Kp.of e1)) (Kp.hide kp)
    exact ⟨p, xs, (j : Int), w, rfl, rfl, ex_l hide_ex (ex_l ek hs), atI_nat hw, k w ds[j] H2 (List.getElem_mem hj) ((Kp.of e1).trans kp) st2 (dp_ex ek _ _ dw)⟩
abbrev C__law_pick (P : Program) (w : World) (K : PySem.W.Frag) (mg : Str → Option Value) (base : Heap) : Prop := Cl P w K mg base CX0 3 "_law_pick" (spPick K)
end
end K80

/-! part F -/
namespace K80
open PySem PySem.Spec PyProof.Rows L2 Evl Lk
section
variable {P : Program} {w : World} {K : PySem.W.Frag} {mg : Str → Option Value} {base : Heap} {f : Addr} {fd : FuncData}
/-! ### the law's own calendar -/
abbrev s__law_leap : Stmt := top 31
abbrev N__law_leap : List Str := ["year"]
theorem sc__law_leap : FnScope N__law_leap ["year"] (defScope s__law_leap) := ⟨rfl, rfl, rfl, by decide +kernel, rfl, by decide +kernel, by decide +kernel⟩
theorem ok__law_leap (T : Txt K mg) (F : Fn K "_law_leap" s__law_leap f fd) : FnOk P w K mg base CX0 1 f fd ["year"] (spD K R_is_leap) := by
  refine fn_data F sc__law_leap ?l fun cdv A outer s H E hr => ⟨_, (pss_one (ps_ret (pe_or (pe_cmpR op_eq (pe_op op_mod (pe_callTy cl_int (by rfl) T.n_int (by decide +kernel) (pa_cons (pv 0) pa_nil)) pe_int) pe_int (nomark _)) (pe_one (pe_and (pe_cmpR op_eq (pe_op op_mod (pe_callTy cl_int (by rfl) T.n_int (by decide +kernel) (pa_cons (pv 0) pa_nil)) pe_int) pe_int (nomark _)) (pe_one (pe_cmpR op_ne (pe_op op_mod (pe_callTy cl_int (by rfl) T.n_int (by decide +kernel) (pa_cons (pv 0) pa_nil)) pe_int) pe_int (nomark _)))))))), ?p⟩
  case l =>
    rintro ds r ⟨y, rfl, _⟩
    rfl
  case p =>
    rintro vs ds r Q hv ⟨y, rfl, rfl⟩ k
    obtain _ | ⟨h1, _ | _⟩ := hv
    obtain rfl := dp_int h1
    refine s_retOk k (ed_is (by wtm_at "ed") ?_)
    refine congrArg PyData.bool ?_
    rw [dec_vi, dec_vi, dec_vi]
    unfold isLeap
    rw [Bool.or_comm]
abbrev C__law_leap (P : Program) (w : World) (K : PySem.W.Frag) (mg : Str → Option Value) (base : Heap) : Prop := Cl P w K mg base CX0 1 "_law_leap" (spD K R_is_leap)
abbrev s__law_month : Stmt := top 32
abbrev N__law_month : List Str := ["year", "month"]
theorem sc__law_month : FnScope N__law_month ["year", "month"] (defScope s__law_month) := ⟨rfl, rfl, rfl, by decide +kernel, rfl, by decide +kernel, by decide +kernel⟩
theorem ok__law_month (c__law_leap : C__law_leap P w K mg base) (F : Fn K "_law_month" s__law_month f fd) : FnOk P w K mg base CX0 2 f fd ["year", "month"] (spD K R_month_days) := by
  refine fn_data F sc__law_month ?l fun cdv A outer s H E hr => ⟨_, (pss_cons (ps_if (pt_cmpR op_eq (pv 1) pe_int (nomark _)) (pss_one (ps_ret (pe_ifExp (pt_val (pe_k c__law_leap hr (by decide) rfl (by exact (pa_cons (pv 0) pa_nil)))) pe_int pe_int))) pss_nil)
  (pss_one (ps_ret (pe_ifExp (pt_cmpR op_in_seq (pv 1) (pe_lst (pa_cons pe_int (pa_cons pe_int (pa_cons pe_int (pa_cons pe_int pa_nil))))) (by rfl)) pe_int pe_int)))), ?p⟩
  case l =>
    rintro ds r ⟨y, m, rfl, _⟩
    rfl
  case p =>
    rintro vs ds r Q hv ⟨y, m, rfl, m1, m2, rfl⟩ k
    obtain _ | ⟨h1, _ | ⟨h2, _ | _⟩⟩ := hv
    obtain rfl := dp_int h1
    obtain rfl := dp_int h2
    refine q_when (b := decide (m = 2)) (et_is (by wtm_at "et") (dec_vi m 2)) (fun hb H1 e1 => ?_) fun hb H1 e1 => ?_
    · obtain rfl := of_decide_eq_true hb
      refine s_retOk (k.mono e1) (ed_if (b := isLeap y) (by wtm_at "et") (fun hl => ed_is ed_cI ?_) fun hl => ed_is ed_cI ?_)
      · rw [monthDays, hl]
        rfl
      · rw [monthDays, hl]
        rfl
    · have hm := of_decide_eq_false hb
      refine s_retOk (k.mono e1) (ed_if (b := decide (m = 4 ∨ m = 6 ∨ m = 9 ∨ m = 11)) (et_is (et_test (ev_inNew (by wtm_at "ev") (by wtm_at "ea") (by decide) rfl rfl)) ?_) (fun hl => ed_is ed_cI ?_) fun hl => ed_is ed_cI ?_)
      · rcases cases12 m1 m2 with rfl | rfl | rfl | rfl | rfl | rfl | rfl | rfl | rfl | rfl | rfl | rfl <;> rfl
      · rcases of_decide_eq_true hl with rfl | rfl | rfl | rfl <;> rfl
      · have hl := of_decide_eq_false hl
        rcases cases12 m1 m2 with rfl | rfl | rfl | rfl | rfl | rfl | rfl | rfl | rfl | rfl | rfl | rfl <;> first | rfl | omega
abbrev C__law_month (P : Program) (w : World) (K : PySem.W.Frag) (mg : Str → Option Value) (base : Heap) : Prop := Cl P w K mg base CX0 2 "_law_month" (spD K R_month_days)
theorem lawNumber_eq {y m d : Int} (m1 : 1 ≤ m) (m2 : m ≤ 12) : ∀ s p : Int, s = (if m < 3 then y - 1 else y) → p = (if 2 < m then m - 3 else m + 9) →
    s / 400 * 146097 + (s - s / 400 * 400) * 365 + (s - s / 400 * 400) / 4 - (s - s / 400 * 400) / 100 + ((153 * p + 2) / 5 + d - 1) - 306 = numberAt y m d := by
  intro s p hs hp
  unfold numberAt
  rw [dayInYear_eq]
  have S := sums y
  have L : lp y = (y / 4 - (y - 1) / 4) - (y / 100 - (y - 1) / 100) + (y / 400 - (y - 1) / 400) := by
    have := yb_succ y
    unfold yearBegin at this
    omega
  obtain ⟨a1, a2, a3, a4, a5, a6, a7, a8, a9, a10, a11, a12, _⟩ := S
  unfold yearBegin
  have hq : (s - s / 400 * 400) / 4 = s / 4 - 100 * (s / 400) := by omega
  have hq2 : (s - s / 400 * 400) / 100 = s / 100 - 4 * (s / 400) := by omega
  rw [hq, hq2]
  rcases cases12 m1 m2 with rfl | rfl | rfl | rfl | rfl | rfl | rfl | rfl | rfl | rfl | rfl | rfl
  · rw [if_pos (by decide)] at hs; rw [if_neg (by decide)] at hp; subst hs hp; rw [a1]; omega
  · rw [if_pos (by decide)] at hs; rw [if_neg (by decide)] at hp; subst hs hp; rw [a2]; omega
  · rw [if_neg (by decide)] at hs; rw [if_pos (by decide)] at hp; subst hs hp; rw [a3]; omega
  · rw [if_neg (by decide)] at hs; rw [if_pos (by decide)] at hp; subst hs hp; rw [a4]; omega
  · rw [if_neg (by decide)] at hs; rw [if_pos (by decide)] at hp; subst hs hp; rw [a5]; omega
  · rw [if_neg (by decide)] at hs; rw [if_pos (by decide)] at hp; subst hs hp; rw [a6]; omega
  · rw [if_neg (by decide)] at hs; rw [if_pos (by decide)] at hp; subst hs hp; rw [a7]; omega
  · rw [if_neg (by decide)] at hs; rw [if_pos (by decide)] at hp; subst hs hp; rw [a8]; omega
  · rw [if_neg (by decide)] at hs; rw [if_pos (by decide)] at hp; subst hs hp; rw [a9]; omega
  · rw [if_neg (by decide)] at hs; rw [if_pos (by decide)] at hp; subst hs hp; rw [a10]; omega
  · rw [if_neg (by decide)] at hs; rw [if_pos (by decide)] at hp; subst hs hp; rw [a11]; omega
  · rw [if_neg (by decide)] at hs; rw [if_pos (by decide)] at hp; subst hs hp; rw [a12]; omega
abbrev s__law_number : Stmt := top 33
abbrev N__law_number : List Str := ["date", "year", "month", "day", "shifted", "place", "era", "rest", "days"]
theorem sc__law_number : FnScope N__law_number ["date"] (defScope s__law_number) := ⟨rfl, rfl, rfl, by decide +kernel, rfl, by decide +kernel, by decide +kernel⟩
theorem ok__law_number (F : Fn K "_law_number" s__law_number f fd) : FnOk P w K mg base CX0 1 f fd ["date"] (spD K R_number_at) := by
  refine fn_data F sc__law_number ?l fun cdv A outer s H E hr => ⟨_, (pss_cons (ps_asg (pv 0) (pg_tup rfl (pgs_cons (pg_name (i := 1) sc__law_number.nd rfl (Or.inl rfl)) (pgs_cons (pg_name (i := 2) sc__law_number.nd rfl (Or.inl rfl)) (pgs_cons (pg_name (i := 3) sc__law_number.nd rfl (Or.inl rfl)) pgs_nil)))))
  (pss_cons (ps_set (i := 4) sc__law_number.nd rfl (Or.inl rfl) (pe_ifExp (pt_cmpR op_lt (pv 2) pe_int (nomark _)) (pe_op op_sub (pv 1) pe_int) (pv 1)))
  (pss_cons (ps_set (i := 5) sc__law_number.nd rfl (Or.inl rfl) (pe_ifExp (pt_cmpR op_gt (pv 2) pe_int (nomark _)) (pe_op op_sub (pv 2) pe_int) (pe_op op_add (pv 2) pe_int)))
  (pss_cons (ps_par (i := 6) (j := 7) (by rfl) sc__law_number.nd rfl rfl (by decide) rfl rfl (pa_cons (pe_op op_fdiv (pv 4) pe_int) (pa_cons (pe_op op_sub (pv 4) (pe_op op_mul (pe_op op_fdiv (pv 4) pe_int) pe_int)) pa_nil)) (by rfl))
  (pss_cons (ps_set (i := 8) sc__law_number.nd rfl (Or.inl rfl) (pe_op op_sub (pe_op op_add (pe_op op_fdiv (pe_op op_add (pe_op op_mul pe_int (pv 5)) pe_int) pe_int) (pv 3)) pe_int))
  (pss_one (ps_ret (pe_op op_sub (pe_op op_add (pe_op op_sub (pe_op op_add (pe_op op_add (pe_op op_mul (pv 6) pe_int) (pe_op op_mul (pv 7) pe_int)) (pe_op op_fdiv (pv 7) pe_int)) (pe_op op_fdiv (pv 7) pe_int)) (pv 8)) pe_int)))))))), ?p⟩
  case l =>
    rintro ds r ⟨y, m, d, rfl, _⟩
    rfl
  case p =>
    rintro vs ds r Q hv ⟨y, m, d, rfl, b1, b2, rfl⟩ k
    obtain _ | ⟨h1, _ | _⟩ := hv
    refine q_unpD3 (ed_var rfl h1) rfl fun v1 v2 v3 H1 e1 hy hm hd => ?_
    obtain rfl := dp_int hy
    obtain rfl := dp_int hm
    obtain rfl := dp_int hd
    obtain ⟨sh, hsh⟩ : ∃ x : Int, x = (if m < 3 then y - 1 else y) := ⟨_, rfl⟩
    obtain ⟨pl, hpl⟩ : ∃ x : Int, x = (if 2 < m then m - 3 else m + 9) := ⟨_, rfl⟩
    refine q_asg (v := .int sh) (ev_if (b := decide (m < 3)) (et_is (by wtm_at "et") (by rfl)) (fun hb => ev_is (by wtm_at "ev") (congrArg V.int ?_)) fun hb => ev_is (by wtm_at "ev") (congrArg V.int ?_)) fun H2 e2 => ?_
    · rw [hsh, if_pos (of_decide_eq_true hb)]
    · rw [hsh, if_neg (of_decide_eq_false hb)]
    refine q_asg (v := .int pl) (ev_if (b := decide (2 < m)) (et_is (by wtm_at "et") (by rfl)) (fun hb => ev_is (by wtm_at "ev") (congrArg V.int ?_)) fun hb => ev_is (by wtm_at "ev") (congrArg V.int ?_)) fun H3 e3 => ?_
    · rw [hpl, if_pos (of_decide_eq_true hb)]
    · rw [hpl, if_neg (of_decide_eq_false hb)]
    refine q_par (x := .int (sh / 400)) (y := .int (sh - sh / 400 * 400)) (by wtm_at "ea") fun H4 e4 => ?_
    refine q_asg (v := .int ((153 * pl + 2) / 5 + d - 1)) (by wtm_at "ev") fun H5 e5 => ?_
    refine s_retOk (k.mono ((((e1.trans e2).trans e3).trans e4).trans e5)) (ed_is (by wtm_at "ed") (congrArg PyData.int ?_))
    exact lawNumber_eq b1 b2 sh pl hsh hpl
abbrev C__law_number (P : Program) (w : World) (K : PySem.W.Frag) (mg : Str → Option Value) (base : Heap) : Prop := Cl P w K mg base CX0 1 "_law_number" (spD K R_number_at)
abbrev s__law_sort : Stmt := top 37
abbrev N__law_sort : List Str := ["year", "word"]
theorem sc__law_sort : FnScope N__law_sort ["year"] (defScope s__law_sort) := ⟨rfl, rfl, rfl, by decide +kernel, rfl, by decide +kernel, by decide +kernel⟩
theorem ok__law_sort (T : Txt K mg) (c__law_leap : C__law_leap P w K mg base) (c__law_number : C__law_number P w K mg base) (F : Fn K "_law_sort" s__law_sort f fd) : FnOk P w K mg base CX0 2 f fd ["year"] (spD K R_kind_at) := by
  refine fn_data F sc__law_sort ?l fun cdv A outer s H E hr => ⟨_, (pss_cons (ps_set (i := 1) sc__law_sort.nd rfl (Or.inl rfl) (pe_ifExp (pt_val (pe_k c__law_leap hr (by decide) rfl (by exact (pa_cons (pv 0) pa_nil)))) pe_str (pe_ifExp (pt_val (pe_k c__law_leap hr (by decide) rfl (by exact (pa_cons (pe_op op_sub (pv 0) pe_int) pa_nil)))) pe_str (pe_ifExp (pt_val (pe_k c__law_leap hr (by decide) rfl (by exact (pa_cons (pe_op op_add (pv 0) pe_int) pa_nil)))) pe_str pe_str))))
  (pss_one (ps_ret (pe_tup (pa_cons (pe_op op_mod (pe_callTy cl_int (by rfl) T.n_int (by decide +kernel) (pa_cons (pe_k c__law_number hr (by decide) rfl (by exact (pa_cons (pe_tup (pa_cons (pv 0) (pa_cons pe_int (pa_cons pe_int pa_nil)))) pa_nil))) pa_nil)) pe_int) (pa_cons (pv 1) pa_nil)))))), ?p⟩
  case l =>
    rintro ds r ⟨y, rfl, _⟩
    rfl
  case p =>
    rintro vs ds r Q hv ⟨y, rfl, rfl⟩ k
    obtain _ | ⟨h1, _ | _⟩ := hv
    obtain rfl := dp_int h1
    refine q_asg (v := .str (word y)) (ev_if (b := isLeap y) (by wtm_at "et") (fun hb => ev_is ev_c ?_) fun hb => ev_if (b := isLeap (y - 1)) (by wtm_at "et") (fun hb2 => ev_is ev_c ?_) fun hb2 => ev_if (b := isLeap (y + 1)) (by wtm_at "et") (fun hb3 => ev_is ev_c ?_) fun hb3 => ev_is ev_c ?_) fun H1 e1 => ?_
    · rw [word, if_pos hb]
    · rw [word, if_neg (by rw [hb]; decide), if_pos hb2]
    · rw [word, if_neg (by rw [hb]; decide), if_neg (by rw [hb2]; decide), if_pos hb3]
    · rw [word, if_neg (by rw [hb]; decide), if_neg (by rw [hb2]; decide), if_neg (by rw [hb3]; decide)]
    refine s_retOk (k.mono e1) (ed_is (d := .tuple [.int (numberAt y 1 1 % 7), .str (word y)]) (ed_tup (eda_cons (ed_ev (ev_op (ev_intI (ev_edI (ed_call (by wtm_at "eda") ⟨y, 1, 1, rfl, by decide, by decide, rfl⟩))) (by wtm_at "ev") (by wtm_at "rv")) (.int _)) (by wtm_at "eda"))) ?_)
    have e : numberAt y 1 1 = yearBegin y := by
      unfold numberAt
      rw [dayInYear_eq, (sums y).1]
      omega
    rw [e]
    rfl
abbrev C__law_sort (P : Program) (w : World) (K : PySem.W.Frag) (mg : Str → Option Value) (base : Heap) : Prop := Cl P w K mg base CX0 2 "_law_sort" (spD K R_kind_at)
/-- the day behind -/
theorem after_last {y m d : Int} (v : Valid y m d) (h : ¬ d < monthDays y m) : d = monthDays y m := by
  have := v.d2
  omega
theorem yb_of (y : Int) : numberAt y 1 1 = yearBegin y := by
  unfold numberAt
  rw [dayInYear_eq, (sums y).1]
  omega
abbrev s__law_after : Stmt := top 38
abbrev N__law_after : List Str := ["date", "year", "month", "day"]
theorem sc__law_after : FnScope N__law_after ["date"] (defScope s__law_after) := ⟨rfl, rfl, rfl, by decide +kernel, rfl, by decide +kernel, by decide +kernel⟩
def R_after : Rel := fun ds r => ∃ y m d y' m' d', ds = [.tuple [.int y, .int m, .int d]] ∧ Valid y m d ∧
  (y', m', d') = (if d < monthDays y m then (y, m, d + 1) else if m < 12 then (y, m + 1, 1) else (y + 1, 1, 1)) ∧ r = .ok (.tuple [.int y', .int m', .int d'])
theorem after_ok {y m d y' m' d' : Int} (v : Valid y m d) (h : (y', m', d') = (if d < monthDays y m then (y, m, d + 1) else if m < 12 then (y, m + 1, 1) else (y + 1, 1, 1))) :
    Valid y' m' d' ∧ numberAt y' m' d' = numberAt y m d + 1 ∧ y' ≤ y + 1 := by
  by_cases h1 : d < monthDays y m
  · rw [if_pos h1] at h
    cases h
    refine ⟨⟨v.y1, v.m1, v.m2, by have := v.d1; omega, by omega⟩, ?_, by omega⟩
    unfold numberAt
    rw [dayInYear_eq, dayInYear_eq]
    omega
  · have hd := after_last v h1
    rw [if_neg h1] at h
    by_cases h2 : m < 12
    · rw [if_pos h2] at h
      cases h
      have b := monthDays_bd (y := y) (m := m + 1) (by have := v.m1; omega) (by omega)
      refine ⟨⟨v.y1, by have := v.m1; omega, by omega, by decide, by omega⟩, ?_, by omega⟩
      unfold numberAt
      rw [dayInYear_eq, dayInYear_eq, sumDays_succ v.m1]
      omega
    · rw [if_neg h2] at h
      cases h
      have hm : m = 12 := by have := v.m2; omega
      subst hm
      refine ⟨⟨by have := v.y1; omega, by decide, by decide, by decide, by rw [md1]; decide⟩, ?_, by omega⟩
      rw [yb_of, yb_succ]
      unfold numberAt
      rw [dayInYear_eq, (sums y).2.2.2.2.2.2.2.2.2.2.2.1, hd, md12]
      omega
theorem ok__law_after (c__law_month : C__law_month P w K mg base) (F : Fn K "_law_after" s__law_after f fd) : FnOk P w K mg base CX0 3 f fd ["date"] (spD K R_after) := by
  refine fn_data F sc__law_after ?l fun cdv A outer s H E hr => ⟨_, (pss_cons (ps_asg (pv 0) (pg_tup rfl (pgs_cons (pg_name (i := 1) sc__law_after.nd rfl (Or.inl rfl)) (pgs_cons (pg_name (i := 2) sc__law_after.nd rfl (Or.inl rfl)) (pgs_cons (pg_name (i := 3) sc__law_after.nd rfl (Or.inl rfl)) pgs_nil)))))
  (pss_cons (ps_if (pt_cmpR op_lt (pv 3) (pe_k c__law_month hr (by decide) rfl (by exact (pa_cons (pv 1) (pa_cons (pv 2) pa_nil)))) (nomark _)) (pss_one (ps_ret (pe_tup (pa_cons (pv 1) (pa_cons (pv 2) (pa_cons (pe_op op_add (pv 3) pe_int) pa_nil)))))) pss_nil)
  (pss_one (ps_ret (pe_ifExp (pt_cmpR op_lt (pv 2) pe_int (nomark _)) (pe_tup (pa_cons (pv 1) (pa_cons (pe_op op_add (pv 2) pe_int) (pa_cons pe_int pa_nil)))) (pe_tup (pa_cons (pe_op op_add (pv 1) pe_int) (pa_cons pe_int (pa_cons pe_int pa_nil))))))))), ?p⟩
  case l =>
    rintro ds r ⟨y, m, d, y', m', d', rfl, _⟩
    rfl
  case p =>
    rintro vs ds r Q hv ⟨y, m, d, y', m', d', rfl, v, hh, rfl⟩ k
    obtain _ | ⟨h1, _ | _⟩ := hv
    refine q_unpD3 (ed_var rfl h1) rfl fun v1 v2 v3 H1 e1 hy hm hd => ?_
    obtain rfl := dp_int hy
    obtain rfl := dp_int hm
    obtain rfl := dp_int hd
    have m1 := v.m1
    have m2 := v.m2
    refine q_when (b := decide (d < monthDays y m)) (et_is (et_test (ev_op (by wtm_at "ev") (ev_edI (ed_call (by wtm_at "eda") ⟨y, m, rfl, m1, m2, rfl⟩)) (by wtm_at "rv"))) (by rfl)) (fun hb H2 e2 => ?_) fun hb H2 e2 => ?_
    · rw [if_pos (of_decide_eq_true hb)] at hh
      cases hh
      exact s_retOk (k.mono (e1.trans e2)) (by wtm_at "ed")
    · rw [if_neg (of_decide_eq_false hb)] at hh
      refine s_retOk (k.mono (e1.trans e2)) (ed_if (b := decide (m < 12)) (et_is (by wtm_at "et") (by rfl)) (fun hb => ?_) fun hb => ?_)
      · rw [if_pos (of_decide_eq_true hb)] at hh
        cases hh
        wtm_at "ed"
      · rw [if_neg (of_decide_eq_false hb)] at hh
        cases hh
        wtm_at "ed"
abbrev C__law_after (P : Program) (w : World) (K : PySem.W.Frag) (mg : Str → Option Value) (base : Heap) : Prop := Cl P w K mg base CX0 3 "_law_after" (spD K R_after)
end
end K80

/-! part G -/
namespace K80
open PySem PySem.Spec PyProof.Rows L2 Evl Lk LamX
section
variable {P : Program} {w : World} {K : PySem.W.Frag} {mg : Str → Option Value} {base : Heap} {f : Addr} {fd : FuncData}
theorem last_eq : last = 1000000000000000000000000000000 := by decide +kernel
/-! ### dates that are drawn -/
def YearD : PyData → Prop := fun d => ∃ y, d = .int y ∧ 1 ≤ y ∧ y ≤ last
def DateD : PyData → Prop := fun d => ∃ y m n, d = .tuple [.int y, .int m, .int n] ∧ Valid y m n ∧ y ≤ last
abbrev s__law_year : Stmt := top 34
abbrev N__law_year : List Str := ["state", "far", "some"]
theorem sc__law_year : FnScope N__law_year ["state"] (defScope s__law_year) := ⟨rfl, rfl, rfl, by decide +kernel, rfl, by decide +kernel, by decide +kernel⟩
theorem ok__law_year (c__law_draw : C__law_draw P w K mg base) (c__law_pick : C__law_pick P w K mg base) (F : Fn K "_law_year" s__law_year f fd) : FnOk P w K mg base CX0 4 f fd ["state"] (spSt K 5 (fun ds => ds = []) fun _ d => YearD d) := by
  refine fn_run F sc__law_year ?l fun cdv A outer s H E hr => ⟨_, (pss_cons (ps_set (i := 1) sc__law_year.nd rfl (Or.inl rfl) (pe_op op_add pe_int (pe_k c__law_draw hr (by decide) rfl (by exact (pa_cons (pv 0) (pa_cons (pe_op op_sub (pe_op op_pow pe_int pe_int) pe_int) pa_nil))))))
  (pss_cons (ps_set (i := 2) sc__law_year.nd rfl (Or.inl rfl) (pe_lst (pa_cons (pe_op op_add pe_int (pe_k c__law_draw hr (by decide) rfl (by exact (pa_cons (pv 0) (pa_cons pe_int pa_nil))))) (pa_cons (pe_op op_add pe_int (pe_k c__law_draw hr (by decide) rfl (by exact (pa_cons (pv 0) (pa_cons pe_int pa_nil))))) (pa_cons (pe_op op_add pe_int (pe_k c__law_draw hr (by decide) rfl (by exact (pa_cons (pv 0) (pa_cons pe_int pa_nil))))) (pa_cons (pv 1) (pa_cons pe_int (pa_cons pe_int (pa_cons pe_int (pa_cons (pv 1) pa_nil))))))))))
  (pss_one (ps_ret (pe_k c__law_pick hr (by decide) rfl (by exact (pa_cons (pv 0) (pa_cons (pv 2) pa_nil)))))))), ?p⟩
  case l =>
    rintro vs H Q E ⟨a, g, n, ws, ds, rfl, _, _, hv, rfl, _⟩
    rw [List.length_cons, dps_len hv]
    rfl
  case p =>
    rintro vs Q ⟨a, g, n, ws, ds, rfl, st, hn, hv, rfl, k⟩
    obtain _ | _ := hv
    refine q_asgS (K := K) (Φ := YearD) (es_I0 (p := fun x => 0 ≤ x ∧ x < 10 ^ 30 - 500) (fun _ _ _ => ev_c) (es_draw (room := 10 ^ 30 - 500) (fun _ => ev_var rfl) (fun _ => ev_is (by wtm_at "ev") (by rfl)) (by omega) (by decide) (by decide +kernel)) (fun j hj => ⟨_, rfl, by omega, ?_⟩)) st fun v d H1 hd kp1 st1 dv => ?_
    · rw [last_eq]
      omega
    obtain ⟨fa, rfl, f1, f2⟩ := hd
    obtain rfl := dp_int dv
    have L : (5000 : Int) ≤ last := by decide +kernel
    refine q_asgS (K := K) (es_lst (l := 8) (Φ := YearD) (esa_cons (es_I0 (p := fun x => 0 ≤ x ∧ x < 28) (fun _ _ _ => ev_c) (es_draw (fun _ => ev_var rfl) (fun _ => ev_c) (by omega) (by decide) (by decide +kernel)) (fun j hj => ⟨_, rfl, by omega, by omega⟩))
      (esa_cons (es_I0 (p := fun x => 0 ≤ x ∧ x < 3000) (fun _ _ _ => ev_c) (es_draw (fun _ => ev_var rfl) (fun _ => ev_c) (by omega) (by decide) (by decide +kernel)) (fun j hj => ⟨_, rfl, by omega, by omega⟩))
      (esa_cons (es_I0 (p := fun x => 0 ≤ x ∧ x < 10) (fun _ _ _ => ev_c) (es_draw (fun _ => ev_var rfl) (fun _ => ev_c) (by omega) (by decide) (by decide +kernel)) (fun j hj => ⟨_, rfl, by omega, by omega⟩))
      (esa_cons (es_of (d := .int fa) rfl ⟨_, rfl, f1, f2⟩ fun _ _ _ => by wtm_at "ed")
      (esa_cons (es_of (d := .int 1) rfl ⟨_, rfl, by decide, by omega⟩ fun _ _ _ => by wtm_at "ed")
      (esa_cons (es_of (d := .int 2000) rfl ⟨_, rfl, by decide, by omega⟩ fun _ _ _ => by wtm_at "ed")
      (esa_cons (es_of (d := .int 2072) rfl ⟨_, rfl, by decide, by omega⟩ fun _ _ _ => by wtm_at "ed")
      (esa_cons (es_of (d := .int fa) rfl ⟨_, rfl, f1, f2⟩ fun _ _ _ => by wtm_at "ed") esa_nil)))))))) (by decide)) st1 fun v2 d2 H2 hd2 kp2 st2 dv2 => ?_
    obtain ⟨ds, rfl, hl, hall⟩ := hd2
    refine s_retS (K := K) (es_pick (l := 8) (Φ := YearD) (fun _ => ev_var rfl) (es_var rfl dv2 ⟨ds, rfl, hl, hall⟩) (by omega) (by decide) (by decide)) st2 fun v3 d3 H3 hd3 kp3 st3 dv3 => ?_
    exact k v3 d3 H3 hd3 ((kp1.trans kp2).trans kp3) st3 dv3
abbrev C__law_year (P : Program) (w : World) (K : PySem.W.Frag) (mg : Str → Option Value) (base : Heap) : Prop := Cl P w K mg base CX0 4 "_law_year" (spSt K 5 (fun ds => ds = []) fun _ d => YearD d)
abbrev s__law_date : Stmt := top 35
abbrev N__law_date : List Str := ["state", "year", "month", "last"]
theorem sc__law_date : FnScope N__law_date ["state"] (defScope s__law_date) := ⟨rfl, rfl, rfl, by decide +kernel, rfl, by decide +kernel, by decide +kernel⟩
theorem ok__law_date (T : Txt K mg) (c__law_year : C__law_year P w K mg base) (c__law_month : C__law_month P w K mg base) (c__law_draw : C__law_draw P w K mg base) (c__law_pick : C__law_pick P w K mg base) (F : Fn K "_law_date" s__law_date f fd) : FnOk P w K mg base CX0 5 f fd ["state"] (spSt K 9 (fun ds => ds = []) fun _ d => DateD d) := by
  refine fn_run F sc__law_date ?l fun cdv A outer s H E hr => ⟨_, (pss_cons (ps_set (i := 1) sc__law_date.nd rfl (Or.inl rfl) (pe_k c__law_year hr (by decide) rfl (by exact (pa_cons (pv 0) pa_nil))))
  (pss_cons (ps_set (i := 2) sc__law_date.nd rfl (Or.inl rfl) (pe_k c__law_pick hr (by decide) rfl (by exact (pa_cons (pv 0) (pa_cons (pe_lst (pa_cons (pe_op op_add pe_int (pe_k c__law_draw hr (by decide) rfl (by exact (pa_cons (pv 0) (pa_cons pe_int pa_nil))))) (pa_cons pe_int (pa_cons pe_int (pa_cons pe_int pa_nil))))) pa_nil)))))
  (pss_cons (ps_set (i := 3) sc__law_date.nd rfl (Or.inl rfl) (pe_k c__law_month hr (by decide) rfl (by exact (pa_cons (pv 1) (pa_cons (pv 2) pa_nil)))))
  (pss_one (ps_ret (pe_tup (pa_cons (pv 1) (pa_cons (pv 2) (pa_cons (pe_k c__law_pick hr (by decide) rfl (by exact (pa_cons (pv 0) (pa_cons (pe_lst (pa_cons (pe_op op_add pe_int (pe_k c__law_draw hr (by decide) rfl (by exact (pa_cons (pv 0) (pa_cons (pv 3) pa_nil))))) (pa_cons (pv 3) (pa_cons pe_int (pa_cons (pe_callB (cl_min rfl) (by rfl) T.n_min (by decide +kernel) (pa_cons (pv 3) (pa_cons pe_int pa_nil))) pa_nil))))) pa_nil)))) pa_nil))))))))), ?p⟩
  case l =>
    rintro vs H Q E ⟨a, g, n, ws, ds, rfl, _, _, hv, rfl, _⟩
    rw [List.length_cons, dps_len hv]
    rfl
  case p =>
    rintro vs Q ⟨a, g, n, ws, ds, rfl, st, hn, hv, rfl, k⟩
    obtain _ | _ := hv
    refine q_asgS (K := K) (Φ := YearD) (es_callS (m := n) (fun _ => ev_var rfl) (esp_nil rfl) (by omega) fun _ _ _ h => h) st fun v d H1 hd kp1 st1 dv => ?_
    obtain ⟨y, rfl, y1, y2⟩ := hd
    obtain rfl := dp_int dv
    refine q_asgS (K := K) (Φ := fun d => ∃ m, d = .int m ∧ 1 ≤ m ∧ m ≤ 12) (es_pickL (l := 4) (fun _ => ev_var rfl) (esa_cons (es_I0 (p := fun x => 0 ≤ x ∧ x < 12) (fun _ _ _ => ev_c) (es_draw (fun _ => ev_var rfl) (fun _ => ev_c) (by omega) (by decide) (by decide +kernel)) (fun j hj => ⟨_, rfl, by omega, by omega⟩))
      (esa_cons (es_of (d := .int 2) rfl ⟨_, rfl, by decide, by decide⟩ fun _ _ _ => by wtm_at "ed")
      (esa_cons (es_of (d := .int 12) rfl ⟨_, rfl, by decide, by decide⟩ fun _ _ _ => by wtm_at "ed")
      (esa_cons (es_of (d := .int 1) rfl ⟨_, rfl, by decide, by decide⟩ fun _ _ _ => by wtm_at "ed") esa_nil)))) (by omega) (by decide) (by decide)) st1 fun v2 d2 H2 hd2 kp2 st2 dv2 => ?_
    obtain ⟨m, rfl, m1, m2⟩ := hd2
    obtain rfl := dp_int dv2
    refine q_asg (v := .int (monthDays y m)) (ev_edI (ed_call (by wtm_at "eda") ⟨y, m, rfl, m1, m2, rfl⟩)) fun H3 e3 => ?_
    have b := monthDays_bd (y := y) m1 m2
    have hz : (monthDays y m).natAbs.log2 < 9000 := by
      have h1 : (monthDays y m).natAbs ≤ 31 := by omega
      exact Nat.lt_of_le_of_lt (Nat.le_trans (Nat.log2_le_self _) h1) (by decide)
    refine s_retS (K := K) (Φ := DateD) (es_imp (es_tup (Ψ := fun ds => ∃ n, ds = [.int y, .int m, .int n] ∧ 1 ≤ n ∧ n ≤ monthDays y m) (esp_cons (Φ := fun d => d = .int y) (es_of (d := .int y) rfl rfl fun _ _ _ => by wtm_at "ed") fun d hd => esp_cons (Φ := fun d => d = .int m) (es_of (d := .int m) rfl rfl fun _ _ _ => by wtm_at "ed") fun d2 hd2 =>
      esp_cons (Φ := fun d => ∃ n, d = .int n ∧ 1 ≤ n ∧ n ≤ monthDays y m) (es_pickL (l := 4) (fun _ => ev_var rfl) (esa_cons (es_I0 (p := fun x => 0 ≤ x ∧ x < monthDays y m) (fun _ _ _ => ev_c) (es_draw (fun _ => ev_var rfl) (fun _ => ev_var rfl) (by omega) (by omega) hz) (fun j hj => ⟨_, rfl, by omega, by omega⟩))
        (esa_cons (es_of (d := .int (monthDays y m)) rfl ⟨_, rfl, by omega, by omega⟩ fun _ _ _ => by wtm_at "ed")
        (esa_cons (es_of (d := .int 1) rfl ⟨_, rfl, by decide, by omega⟩ fun _ _ _ => by wtm_at "ed")
        (esa_cons (es_of (d := .int (if 28 < monthDays y m then 28 else monthDays y m)) rfl ⟨_, rfl, by omega, by omega⟩ fun _ _ _ => by wtm_at "ed") esa_nil)))) (by omega) (by decide) (by decide)) fun d3 hd3 => esp_nil ?_) ?_) ?_) (st2.ex e3) fun v3 d3 H4 hd3 kp3 st3 dv3 => ?_
    · obtain ⟨x, rfl, x1, x2⟩ := hd3
      exact ⟨x, by rw [hd, hd2], x1, x2⟩
    · rintro ds ⟨x, rfl, _⟩
      exact Nat.le_of_ble_eq_true rfl
    · rintro d ⟨ds, rfl, x, rfl, x1, x2⟩
      exact ⟨y, m, x, rfl, ⟨y1, m1, m2, x1, x2⟩, y2⟩
    · exact k v3 d3 H4 hd3 (((kp1.trans kp2).trans (Kp.of e3)).trans kp3) st3 dv3
abbrev C__law_date (P : Program) (w : World) (K : PySem.W.Frag) (mg : Str → Option Value) (base : Heap) : Prop := Cl P w K mg base CX0 5 "_law_date" (spSt K 9 (fun ds => ds = []) fun _ d => DateD d)
end
end K80

/-! part I -/
namespace K80
open PySem PySem.Spec PyProof.Rows L2 Evl Lk LamX
/-! ### kinds come back -/
theorem leap_round (q r : Int) : isLeap (400 * q + r) = isLeap r := by
  have h1 : (400 * q + r) % 4 = r % 4 := by omega
  have h2 : (400 * q + r) % 100 = r % 100 := by omega
  have h3 : (400 * q + r) % 400 = r % 400 := by omega
  unfold isLeap
  rw [h1, h2, h3]
theorem kind_round (q r : Int) : kindD (400 * q + r) = kindD r := by
  have h1 : 400 * q + r - 1 = 400 * q + (r - 1) := by omega
  have h2 : 400 * q + r + 1 = 400 * q + (r + 1) := by omega
  have hw : word (400 * q + r) = word r := by
    unfold word
    rw [h1, h2, leap_round, leap_round, leap_round]
  have hb : yearBegin (400 * q + r) % 7 = yearBegin r % 7 := by
    have e : yearBegin (400 * q + r) = 146097 * q + yearBegin r := by
      unfold yearBegin
      have e1 : (400 * q + r - 1) / 4 = 100 * q + (r - 1) / 4 := by omega
      have e2 : (400 * q + r - 1) / 100 = 4 * q + (r - 1) / 100 := by omega
      have e3 : (400 * q + r - 1) / 400 = q + (r - 1) / 400 := by omega
      rw [e1, e2, e3]
      omega
    rw [e]
    omega
  unfold kindD
  rw [hw, hb]
def kinds : List PyData := (List.range 28).map fun (i : Nat) => kindD (2001 + (i : Int))
theorem kinds_all : ((List.range 400).all fun i => kinds.any fun z => PyData.eqv z (kindD ((i : Int) + 1))) = true := by decide +kernel
theorem kinds_back : ((List.range 400).all fun i => ((List.range 40).map fun (j : Nat) => kindD ((i : Int) + 1 + (1 + (j : Int)))).any fun z => PyData.eqv z (kindD ((i : Int) + 1))) = true := by decide +kernel
theorem year_parts (y : Int) : ∃ (q : Int) (i : Nat), i < 400 ∧ y = 400 * q + ((i : Int) + 1) := ⟨(y - 1) / 400, ((y - 1) % 400).toNat, by omega, by omega⟩
theorem kind_known (y : Int) : (kinds.any fun z => PyData.eqv z (kindD y)) = true := by
  obtain ⟨q, i, hi, e⟩ := year_parts y
  rw [e, kind_round]
  exact List.all_eq_true.mp kinds_all i (List.mem_range.mpr hi)
theorem kind_back (y : Int) : (((List.range 40).map fun (j : Nat) => kindD (y + (1 + (j : Int)))).any fun z => PyData.eqv z (kindD y)) = true := by
  obtain ⟨q, i, hi, e⟩ := year_parts y
  have h : (fun (j : Nat) => kindD (y + (1 + (j : Int)))) = fun (j : Nat) => kindD ((i : Int) + 1 + (1 + (j : Int))) := by
    funext j
    rw [e, Int.add_assoc, kind_round]
  rw [h, e, kind_round]
  exact List.all_eq_true.mp kinds_back i (List.mem_range.mpr hi)
theorem word_is (y : Int) : word y = "leap" ∨ word y = "behind" ∨ word y = "ahead" ∨ word y = "plain" := by
  unfold word
  cases isLeap y
  · cases isLeap (y - 1)
    · cases isLeap (y + 1)
      · exact .inr (.inr (.inr rfl))
      · exact .inr (.inr (.inl rfl))
    · exact .inr (.inl rfl)
  · exact .inl rfl
theorem kind_shaped (y : Int) : SeqAt.shaped (kindD y) = true := by
  unfold kindD
  generalize yearBegin y % 7 = b
  have h2 : ∀ s : Str, PyData.depth (.tuple [.int b, .str s]) ≤ 64 := fun s => Nat.le_of_ble_eq_true rfl
  rw [SeqAt.shaped, decide_eq_true (h2 _)]
  simp only [PyData.canLay0, PyData.canLayAll0, Bool.true_and, Bool.and_true]
  rcases word_is y with h | h | h | h <;> rw [h] <;> decide +kernel
theorem kind_depth (y : Int) : (kindD y).depth ≤ 3 := by
  unfold kindD
  generalize yearBegin y % 7 = b
  rcases word_is y with h | h | h | h <;> rw [h] <;> exact Nat.le_of_ble_eq_true rfl
theorem kinds_shaped : SeqAt.shaped (.tuple kinds) = true := (sh_map _ (fun (i : Nat) => kind_shaped (2001 + (i : Int))) (fun i => kind_depth _) (by decide) (List.range 28)).2
theorem kind_eqv (y : Int) : PyData.eqv (kindD y) (kindD y) = true := by
  unfold kindD
  simp [PyData.eqv, PyData.eqvAll]
/-! ### numbers are small -/
theorem number_small {y m d : Int} (v : Valid y m d) (h : y ≤ last + 1) : (numberAt y m d).natAbs.log2 < 1920 := by
  have nb := number_between v
  have h1 := yb_mono (a := 1) (b := y) v.y1
  have h2 := yb_mono (a := y + 1) (b := last + 2) (by omega)
  rw [yb_one] at h1
  have h3 : yearBegin (last + 2) < 2 ^ 120 := by decide +kernel
  have h4 : (numberAt y m d).natAbs < 2 ^ 120 := by omega
  exact log2_of h4 (by decide) (by decide)
section
variable {P : Program} {w : World} {K : PySem.W.Frag} {mg : Str → Option Value} {base : Heap} {f : Addr} {fd : FuncData} {TT : List (Addr × Str)}
structure Txl (K : PySem.W.Frag) (mg : Str → Option Value) : Prop extends Txt K mg where
  i_BadDate : XiT K mg (He.ga K "KeptError") "BadDate" (He.ga K "BadDate")
  i_BadNumber : XiT K mg (He.ga K "KeptError") "BadNumber" (He.ga K "BadNumber")
  i_BadYear : XiT K mg (He.ga K "KeptError") "BadYear" (He.ga K "BadYear")
  v_BadDate : ∃ u, mg "BadDate" = some u ∧ RelV (.ref (He.ga K "BadDate")) u
  v_BadNumber : ∃ u, mg "BadNumber" = some u ∧ RelV (.ref (He.ga K "BadNumber")) u
  v_BadYear : ∃ u, mg "BadYear" = some u ∧ RelV (.ref (He.ga K "BadYear")) u
  v_KINDS : ∃ u, mg "KINDS" = some u ∧ RelV (.ref (He.ga K "KINDS")) u
  d_KINDS : ∀ H, Dp K H (.ref (He.ga K "KINDS")) (.tuple kinds)
  n_tuple' : mg "tuple" = none
abbrev s__law_caught : Stmt := top 36
abbrev N__law_caught : List Str := ["action", "found", "error"]
theorem sc__law_caught : FnScope N__law_caught ["action"] (defScope s__law_caught) := ⟨rfl, rfl, rfl, by decide +kernel, rfl, by decide +kernel, by decide +kernel⟩
structure Cg (K : PySem.W.Frag) (mg : Str → Option Value) : Prop where
  ex : ∃ g fd, Fn K "_law_caught" s__law_caught g fd ∧ mg "_law_caught" = some (.ref g)
  ke : mg "KeptError" = some (.ref (He.ga K "KeptError"))
theorem pe_cg {X : Cx} {j k : Nat} {xd q : Str} {sp : Sp} {ta : TA} {params : Arguments} {body : Expr} {scope : Scope} {p lpos pos : Pos} (hr : Room j X.A) (G : Cg X.K X.mg) (LD : LamD X.K X.mg X.base TT xd q)
    (hg : Gl X "_law_caught") (hcode : X.env.code = .ref (He.codeOf X.K (xd, none))) (hq : X.env.qual ++ "<lambda>" = q) (hk : k + 2 ≤ j) (L : LamS X.env.scope scope) (hdef : defaultsOf params X.env = ([], []))
    (hbind : ∀ (q : Str) (cl : List (Str × Addr)) (pm cv ctv : Value), bindArgs (PySem.W.kla_fn "<lambda>" q params body scope cl pm cv ctv) ⟨[], []⟩ = pure [])
    (hbody : ∀ (A : Around) (outer : List Env) (s : Shared) (H : Hp) (E : XK) (f c' : Addr), Room k (A.deeper (lamEnv X scope s.heap.objs.size f c')) → PE (lamCx X A outer s H E scope f c') body (tCallS sp (WE fun cls d _ H => E cls d H) ta)) :
    PE X (.Call (.Name "_law_caught" p) [.Lambda params body scope lpos] [] pos) (tCg TT X.K (He.ga X.K "KeptError") sp ta) := by
  obtain ⟨g, fd, D, hm⟩ := G.ex
  exact pe_caught (k := k) (a := "action") (n := "error") (y := "found") (e := "KeptError") D hg hm rfl (fun _ _ _ _ _ _ us hl => match us, hl with | [_], _ => rfl) sc__law_caught sc__law_caught.nd (.inl rfl) rfl G.ke rfl rfl rfl rfl rfl rfl rfl (by decide) (by decide) (by decide)
    LD hcode hq (hr.mono hk) L hdef hbind hbody
abbrev s__law_again_right : Stmt := top 41
abbrev N__law_again_right : List Str := ["year", "found", "more"]
theorem sc__law_again_right : FnScope N__law_again_right ["year"] (defScope s__law_again_right) := ⟨rfl, rfl, rfl, by decide +kernel, rfl, by decide +kernel, by decide +kernel⟩
def R_again : Rel := fun ds r => ∃ y, ds = [.int y] ∧ 1 ≤ y ∧ y ≤ last ∧ r = .ok (.bool true)
theorem ok__law_again_right (T : Txl K mg) (c_kind_of : Cl P w K mg base (L2.CX P w) 3 "kind_of" (spD K (R_kind_of K))) (w_kind_of : Cw P w K mg base (L2.CX P w) 3 "kind_of" ["year"] (spD K (R_kind_of K))) (c__law_sort : C__law_sort P w K mg base) (F : Fn K "_law_again_right" s__law_again_right f fd) : FnOk P w K mg base CX0 4 f fd ["year"] (spD K R_again) := by
  refine fn_data F sc__law_again_right ?l fun cdv A outer s H E hr => ⟨_, (pss_cons (ps_set (i := 1) sc__law_again_right.nd rfl (Or.inl rfl) (pe_kX c_kind_of hr (by decide) rfl (by exact (pa_cons (pv 0) pa_nil))))
  (pss_cons (ps_if (PW.pt (pw_or (pt_cmpR (op_notInDT (units1 hr)) (pv 1) (C8.pe_gc rfl T.v_KINDS) (by rfl)) (pw_or1 (pt_cmpR (op_neD hr.units) (pv 1) (pe_k c__law_sort hr (by decide) rfl (by exact (pa_cons (pv 0) pa_nil))) (nomark _))))) (pss_one (ps_ret pe_bl)) pss_nil)
  (pss_one (ps_ret (pe_or (pe_cmpR op_gt (pv 0) (pe_op op_sub (pe_op op_pow pe_int pe_int) pe_int) (nomark _)) (pe_one (pe_cmpR (op_inD (units1 hr)) (pv 1) (pe_lc (own := [("more", 2)]) (by rfl) sc__law_again_right.nd (pi_range2 (by rfl) T.n_range (pa_cons pe_int (pa_cons pe_int pa_nil))) (blkOk_by (own := [("more", 2)]) (N := N__law_again_right) (sc := defScope s__law_again_right) (by decide +kernel)) (fun _ _ _ _ _ => (pg_name (i := 2) sc__law_again_right.nd rfl (Or.inl rfl))) (fun _ _ _ _ _ => pts_nil) (fun _ _ _ _ _ => (pe_kwX w_kind_of hr (by decide) rfl (pk_cons (pe_op op_add (pv 0) (pv 2)) pk_nil)))) (by rfl)))))))), ?p⟩
  case l =>
    rintro ds r ⟨y, rfl, _⟩
    rfl
  case p =>
    rintro vs ds r Q hv ⟨y, rfl, y1, y2, rfl⟩ k
    obtain _ | ⟨h1, _ | _⟩ := hv
    obtain rfl := dp_int h1
    refine q_asgD (ed_call (d := kindD y) (by wtm_at "eda") (.inl ⟨y, rfl, y1, y2, rfl⟩)) fun v H1 e1 hv => ?_
    refine q_when (b := false) (et_is (et_or (a := false) (et_is (et_test (ev_inDT (ed_var rfl hv) (ed_ev ev_c (T.d_KINDS _)) rfl (kind_shaped y) kinds_shaped)) ?_) fun _ => et_test (ev_neD (ed_var rfl hv) (ed_call (d := kindD y) (by wtm_at "eda") ⟨y, rfl, rfl⟩) (kind_shaped y) (kind_shaped y))) ?_) (fun h => nomatch h) fun _ H2 e2 => ?_
    · rw [kind_known]
      rfl
    · rw [kind_eqv]
      rfl
    have hv2 := dp_ex e2 _ _ hv
    have L := last_eq
    refine s_retOk (k.mono (e1.trans e2)) (ed_ev (v := .bl true) ?_ (.bl true))
    by_cases hy : last - 40 < y
    · refine ev_is (ev_orV (a := true) (b := true) (ev_is (by wtm_at "ev") (congrArg V.bl ?_)) fun h => nomatch h) rfl
      exact decide_eq_true (by rw [L] at hy; exact hy)
    · refine ev_is (ev_orV (a := false) (b := true) (ev_is (by wtm_at "ev") (congrArg V.bl ?_)) fun _ => ?_) rfl
      · exact decide_eq_false (by rw [L] at hy; exact hy)
      refine ev_is (ev_inDL (ed_var rfl hv2) (ed_is (ed_lcR2 (lo := 1) (n := 41) (fun _ => true) (fun j => kindD (y + (1 + (j : Int)))) (fun _ => rfl) (by wtm_at "ea") ⟨by decide, by decide, by decide, by decide, by decide⟩ (fun _ => rfl) (fun _ _ _ _ => et_yes)
        (fun j H3 e3 hj _ => ed_callK (eda_cons (d := .int (y + (1 + (j : Int)))) (by wtm_at "ed") eda_nil) (.inl ⟨_, rfl, by omega, by omega, rfl⟩))) (by rw [givenD_all]; rfl)) rfl (kind_shaped y) (sh_map _ (fun (j : Nat) => kind_shaped (y + (1 + (j : Int)))) (fun _ => kind_depth _) (by decide) (List.range 40)).1) (congrArg V.bl (kind_back y))
end
end K80

/-! part J -/
namespace K80
open PySem PySem.Spec PyProof.Rows L2 Evl Lk LamX
theorem ga_date (y m d : Int) : PyData.eqv (.tuple [.int y, .int m, .int d]) (.tuple [.int y, .int m, .int d]) = true := by
  simp [PyData.eqv, PyData.eqvAll]
theorem sh_date (y m d : Int) : SeqAt.shaped (.tuple [.int y, .int m, .int d]) = true := rfl
theorem str_same (s : Str) : (!decide (V.str s = V.str s)) = false := by
  rw [decide_eq_true rfl]
  rfl
/-- a valid date within the years is a date -/
theorem isDate_ok {y m d : Int} (v : Valid y m d) (h : y ≤ last) : isDate (.tuple [.int y, .int m, .int d]) = true := by
  show (decide (1 ≤ y) && decide (y ≤ last) && (decide (1 ≤ m) && decide (m ≤ 12)) && (decide (1 ≤ d) && decide (d ≤ monthDays y m))) = true
  rw [decide_eq_true v.y1, decide_eq_true h, decide_eq_true v.m1, decide_eq_true v.m2, decide_eq_true v.d1, decide_eq_true v.d2]
  rfl
section
variable {P : Program} {w : World} {K : PySem.W.Frag} {mg : Str → Option Value} {base : Heap} {f : Addr} {fd : FuncData} {TT : List (Addr × Str)}
abbrev C_number_of (P : Program) (w : World) (K : PySem.W.Frag) (mg : Str → Option Value) (base : Heap) : Prop := Cl P w K mg base (L2.CX P w) 5 "number_of" (spD K (R_number_of K))
abbrev W_number_of (P : Program) (w : World) (K : PySem.W.Frag) (mg : Str → Option Value) (base : Heap) : Prop := Cw P w K mg base (L2.CX P w) 5 "number_of" ["date"] (spD K (R_number_of K))
abbrev C_date_of (P : Program) (w : World) (K : PySem.W.Frag) (mg : Str → Option Value) (base : Heap) : Prop := Cl P w K mg base (L2.CX P w) 5 "date_of" (spD K (R_date_of K))
abbrev W_date_of (P : Program) (w : World) (K : PySem.W.Frag) (mg : Str → Option Value) (base : Heap) : Prop := Cw P w K mg base (L2.CX P w) 5 "date_of" ["number"] (spD K (R_date_of K))
abbrev C_kind_of (P : Program) (w : World) (K : PySem.W.Frag) (mg : Str → Option Value) (base : Heap) : Prop := Cl P w K mg base (L2.CX P w) 3 "kind_of" (spD K (R_kind_of K))
theorem no_of {y m d : Int} (v : Valid y m d) (h : y ≤ last) : R_number_of K [.tuple [.int y, .int m, .int d]] (.ok (.int (numberAt y m d))) := ⟨_, rfl, .inr ⟨y, m, d, rfl, isDate_ok v h, v.m1, v.m2, rfl⟩⟩
theorem da_of {y m d : Int} (v : Valid y m d) (h : y ≤ last) : R_date_of K [.int (numberAt y m d)] (.ok (.tuple [.int y, .int m, .int d])) := .inl ⟨y, m, d, rfl, v, h, rfl⟩
abbrev qd : Str := "_law_days_right.<locals>.<lambda>"
abbrev s__law_days_right : Stmt := top 39
abbrev N__law_days_right : List Str := ["state", "date", "number", "here", "lap"]
theorem sc__law_days_right : FnScope N__law_days_right ["state", "date"] (defScope s__law_days_right) := ⟨rfl, rfl, rfl, by decide +kernel, rfl, by decide +kernel, by decide +kernel⟩
def A_date (ds : List PyData) : Prop := ∃ d, ds = [d] ∧ DateD d
abbrev sp_days (K : PySem.W.Frag) (TT : List (Addr × Str)) : Sp := spStL K TT 1 A_date fun _ d => d = .bool true
theorem ok__law_days_right (T : Txl K mg) (G : Cg K mg) (LD : LamD K mg base TT "_law_days_right" qd) (c_number_of : C_number_of P w K mg base) (w_number_of : W_number_of P w K mg base) (c_date_of : C_date_of P w K mg base) (w_date_of : W_date_of P w K mg base)
    (c__law_number : C__law_number P w K mg base) (c__law_pick : C__law_pick P w K mg base) (c__law_after : C__law_after P w K mg base) (hf : f = He.fAd K ("_law_days_right", none)) (F : Fn K "_law_days_right" s__law_days_right f fd) :
    FnOk P w K mg base CX0 8 f fd ["state", "date"] (sp_days K TT) := by
  refine fn_lam F hf sc__law_days_right ?l fun A outer s H E hr => ⟨_, (pss_cons (ps_asg (pe_tup (pa_cons (pe_k c__law_number hr (by decide) rfl (by exact (pa_cons (pv 1) pa_nil))) (pa_cons (pv 1) pa_nil))) (pg_tup rfl (pgs_cons (pg_name (i := 2) sc__law_days_right.nd rfl (Or.inr rfl)) (pgs_cons (pg_name (i := 3) sc__law_days_right.nd rfl (Or.inl rfl)) pgs_nil))))
  (pss_cons (ps_if (PW.pt (pw_or (pt_cmpR op_ne (pe_callB cl_repr (by rfl) T.n_repr (by decide +kernel) (pa_cons (pe_kX c_number_of hr (by decide) rfl (by exact (pa_cons (pv 1) pa_nil))) pa_nil)) (pe_callB cl_repr (by rfl) T.n_repr (by decide +kernel) (pa_cons (pv 2) pa_nil)) (nomark _)) (pw_or1 (pt_cmpR (op_neD hr.units) (pe_kwX w_date_of hr (by decide) rfl (pk_cons (pv 2) pk_nil)) (pv 1) (nomark _))))) (pss_one (ps_ret pe_bl)) pss_nil)
  (pss_cons (ps_for PassesOwn.never rfl (pi_range1 (by rfl) T.n_range (pa_cons (pe_k c__law_pick hr (by decide) rfl (by exact (pa_cons (pv 0) (pa_cons (pe_lst (pa_cons pe_int (pa_cons pe_int (pa_cons pe_int pa_nil)))) pa_nil)))) pa_nil)) (pg_name (i := 4) sc__law_days_right.nd rfl (Or.inl rfl)) (pss_cons (ps_asg (pe_tup (pa_cons (pe_k c__law_after hr (by decide) rfl (by exact (pa_cons (pv 3) pa_nil))) (pa_cons (pe_op op_add (pv 2) pe_int) pa_nil))) (pg_tup rfl (pgs_cons (pg_name (i := 3) sc__law_days_right.nd rfl (Or.inl rfl)) (pgs_cons (pg_name (i := 2) sc__law_days_right.nd rfl (Or.inr rfl)) pgs_nil))))
  (pss_cons (ps_if (pt_cmpR op_gt (pe_ix ix_tup (pv 3) pe_int (fun _ _ => rfl)) (pe_op op_pow pe_int pe_int) (nomark _)) (pss_one (ps_ret (pe_callB call_isEV (by rfl) T.n_isinstance (by decide +kernel) (pa_cons (by exact (pe_cg (k := 5) hr G LD rfl rfl rfl (by decide) (lamS_by (by rfl)) rfl (fun _ _ _ _ _ => rfl) (fun A outer s H E f c' hr => (by exact (pe_kR (takes_of rfl rfl rfl rfl) c_date_of hr (by decide) rfl (by exact (pa_cons (pv 2) pa_nil))))))) (pa_cons (C8.pe_gc rfl T.v_BadNumber) pa_nil))))) pss_nil)
  (pss_one (ps_if (PW.pt (pw_or (pt_cmpR op_ne (pe_callB cl_repr (by rfl) T.n_repr (by decide +kernel) (pa_cons (pe_kwX w_number_of hr (by decide) rfl (pk_cons (pv 3) pk_nil)) pa_nil)) (pe_callB cl_repr (by rfl) T.n_repr (by decide +kernel) (pa_cons (pv 2) pa_nil)) (nomark _)) (pw_or1 (pt_cmpR (op_neD hr.units) (pe_kX c_date_of hr (by decide) rfl (by exact (pa_cons (pv 2) pa_nil))) (pv 3) (nomark _))))) (pss_one (ps_ret pe_bl)) pss_nil)))))
  (pss_one (ps_ret pe_bl))))), ?p⟩
  case l =>
    rintro vs H Q E ⟨a, g, n, ws, ds, rfl, _, _, _, hv, ⟨d, rfl, _⟩, _⟩
    rw [List.length_cons, dps_len hv]
    rfl
  case p =>
    rintro vs Q ⟨a, g, n, ws, ds, rfl, st, hn, tt, hv, ⟨d, rfl, y, m, n0, rfl, va, yl⟩, k⟩
    obtain _ | ⟨h1, _ | _⟩ := hv
    have h1 := dp_ex hide_ex _ _ h1
    have m1 := va.m1
    have m2 := va.m2
    refine q_unpD2 (ed_tup (eda_cons (ed_call (d := .int (numberAt y m n0)) (by wtm_at "eda") ⟨y, m, n0, rfl, m1, m2, rfl⟩) (eda_cons (ed_var rfl h1) eda_nil))) rfl fun v1 v2 H1 e1 hv1 hv2 => ?_
    obtain rfl := dp_int hv1
    have h1 := dp_ex e1 _ _ h1
    have tt := LamX.Tabs.ext tt e1
    have st := st.ex e1
    have sm := number_small va (by omega)
    refine q_when (b := false) (et_is (et_or (a := false) (et_is (et_test (ev_op (ev_txt (ev_edI (ed_call (by wtm_at "eda") (no_of va yl))) sm) (ev_txt (ev_var rfl) sm) (rv_ne rfl))) (str_same _)) fun _ => et_test (ev_neD (ed_callK (by wtm_at "eda") (da_of va yl)) (ed_var rfl h1) (sh_date _ _ _) (sh_date _ _ _))) ?_) (fun h => nomatch h) fun _ H2 e2 => ?_
    · rw [ga_date]
      rfl
    have tt := LamX.Tabs.ext tt e2
    have st := st.ex e2
    have kn0 : Kn a g H H2 := Kn.of (e1.trans e2)
    have hv2 := dp_ex e2 _ _ hv2
    refine q_forS (K := K) (m := n + 1) (es_imp (es_pickL (l := 3) (Φ := fun d => ∃ j : Int, d = .int j ∧ 0 ≤ j ∧ j ≤ 100000) (fun _ => ev_var rfl) (esa_cons (es_of (d := .int 3) rfl ⟨_, rfl, by decide, by decide⟩ fun _ _ _ => by wtm_at "ed") (esa_cons (es_of (d := .int 40) rfl ⟨_, rfl, by decide, by decide⟩ fun _ _ _ => by wtm_at "ed") (esa_cons (es_of (d := .int 400) rfl ⟨_, rfl, by decide, by decide⟩ fun _ _ _ => by wtm_at "ed") esa_nil))) (by omega) (by decide) (by decide)) fun d h => h) st fun j H3 j0 j1 kp3 st3 => ?_
    have tt := Tabs.kp tt st kp3
    have kn0 := kn0.trans (Kn.kp kp3)
    have hv2 := dp_kp kp3 st rfl hv2
    refine ⟨fun i σ' H' => ∃ (y m n0 : Int) (v1 v2 : V) (u : Option V), σ' = [some (.ref a), some v1, some (.int (numberAt y m n0)), some v2, u] ∧ Valid y m n0 ∧ y ≤ last ∧ Dp K H' v2 (.tuple [.int y, .int m, .int n0]) ∧ Kn a g H H' ∧ StAt H' a g (n + 1) ∧ Tabs TT H', ⟨y, m, n0, _, _, _, rfl, va, yl, hv2, kn0, st3, tt⟩, ?_, ?_⟩
    · rintro i σ' H' _ ⟨y, m, n0, v1, v2, u, rfl, va, yl, hv2, kn0, st, tt⟩
      obtain ⟨y', m', n', hh⟩ : ∃ y' m' n' : Int, (y', m', n') = (if n0 < monthDays y m then (y, m, n0 + 1) else if m < 12 then (y, m + 1, 1) else (y + 1, 1, 1)) := ⟨_, _, _, rfl⟩
      obtain ⟨va', nu, ys⟩ := after_ok va hh
      refine q_unpD2 (ed_tup (eda_cons (ed_call (d := .tuple [.int y', .int m', .int n']) (eda_cons (ed_var rfl hv2) eda_nil) ⟨y, m, n0, y', m', n', rfl, va, hh, rfl⟩) (eda_cons (d := .int (numberAt y' m' n')) (ed_is (by wtm_at "ed") (congrArg PyData.int nu.symm)) eda_nil))) rfl fun w2 w1 H4 e4 hw2 hw1 => ?_
      obtain rfl := dp_int hw1
      have tt := LamX.Tabs.ext tt e4
      have st := st.ex e4
      have kn0 := kn0.trans (Kn.of e4)
      have sm := number_small va' (by omega)
      refine q_when (b := decide (last < y')) (et_is (et_test (ev_op (ev_edI (ed_ixT (i := 0) (d := .int y') (ed_var rfl hw2) ev_c rfl rfl)) (by wtm_at "ev") (by wtm_at "rv"))) (by rfl)) (fun hb H5 e5 => ?_) fun hb H5 e5 => ?_
      · have hb := of_decide_eq_true hb
        have tt := LamX.Tabs.ext tt e5
        refine r_isCg (ds := [.int (numberAt y' m' n')]) (C := He.ga K "BadNumber") tt (fun H6 e6 => by wtm_at "eda") (.inr ⟨_, rfl, ?_, rfl⟩) T.i_BadNumber.ex (fun _ => ev_c) T.i_BadNumber.e (.own _) T.i_BadNumber.k fun H6 e6 t6 => ?_
        · have nb := number_between va'
          have := yb_mono (a := last + 1) (b := y') (by omega)
          show (decide (0 ≤ numberAt y' m' n') && decide (numberAt y' m' n' ≤ yearBegin (last + 1) - 1)) = false
          rw [decide_eq_false (show ¬ numberAt y' m' n' ≤ yearBegin (last + 1) - 1 by omega), Bool.and_false]
        · exact k (.bl true) (.bool true) H6 rfl ((kn0.trans (Kn.of e5)).trans (Kn.ext e6)) (StAt.ext (st.ex e5) e6) t6 (.bl true)
      · have hb := of_decide_eq_false hb
        have yl' : y' ≤ last := by omega
        have hw2 := dp_ex e5 _ _ hw2
        refine s_when (b := false) (et_is (et_or (a := false) (et_is (et_test (ev_op (ev_txt (ev_edI (ed_callK (eda_cons (ed_var rfl hw2) eda_nil) (no_of va' yl'))) sm) (ev_txt (ev_var rfl) sm) (rv_ne rfl))) (str_same _)) fun _ => et_test (ev_neD (ed_call (by wtm_at "eda") (da_of va' yl')) (ed_var rfl hw2) (sh_date _ _ _) (sh_date _ _ _))) ?_) (fun h => nomatch h) fun _ H6 e6 => ?_
        · rw [ga_date]
          rfl
        · exact ⟨y', m', n', _, _, _, rfl, va', yl', dp_ex e6 _ _ hw2, kn0.trans (Kn.of (e5.trans e6)), st.ex (e5.trans e6), LamX.Tabs.ext (LamX.Tabs.ext tt e5) e6⟩
    · rintro σ' H' ⟨y, m, n0, v1, v2, u, rfl, va, yl, hv2, kn0, st, tt⟩
      exact k (.bl true) (.bool true) H' rfl kn0 st tt (.bl true)
end
end K80

/-! part L -/
namespace K80
open PySem PySem.Spec PyProof.Rows L2 Evl Lk LamX
def BadD : PyData → Prop := fun d => isDate d = false
def OddD : PyData → Prop := fun d => isWhole d 0 (yearBegin (last + 1) - 1) = false
def OffD : PyData → Prop := fun d => isWhole d 1 last = false
theorem bad3 {a b c : PyData} (h : isWhole a 1 last = false ∨ isWhole b 1 12 = false) : isDate (.tuple [a, b, c]) = false := by
  rw [isDate_no]
  rcases h with h | h <;> rw [h]
  · rfl
  · rw [Bool.and_false]
theorem badDay {y m : Int} {c : PyData} (h : isWhole c 1 (monthDays y m) = false) : isDate (.tuple [.int y, .int m, c]) = false := by
  show (isWhole (.int y) 1 last && isWhole (.int m) 1 12 && isWhole c 1 (monthDays y m)) = false
  rw [h, Bool.and_false]
theorem whole_no {i lo hi : Int} (h : i < lo ∨ hi < i) : isWhole (.int i) lo hi = false := by
  show (decide (lo ≤ i) && decide (i ≤ hi)) = false
  rcases h with h | h
  · rw [decide_eq_false (show ¬ lo ≤ i by omega), Bool.false_and]
  · rw [decide_eq_false (show ¬ i ≤ hi by omega), Bool.and_false]
section
variable {P : Program} {w : World} {K : PySem.W.Frag} {mg : Str → Option Value} {base : Heap} {f : Addr} {fd : FuncData} {TT : List (Addr × Str)}
abbrev qr : Str := "_law_refused_right.<locals>.<lambda>"
abbrev s__law_refused_right : Stmt := top 40
abbrev N__law_refused_right : List Str := ["state", "date", "year", "month", "day", "bad", "last", "odd", "caught"]
theorem sc__law_refused_right : FnScope N__law_refused_right ["state", "date"] (defScope s__law_refused_right) := ⟨rfl, rfl, rfl, by decide +kernel, rfl, by decide +kernel, by decide +kernel⟩
abbrev sp_refused (K : PySem.W.Frag) (TT : List (Addr × Str)) : Sp := spStL K TT 3 A_date fun _ d => d = .bool true
theorem ok__law_refused_right (T : Txl K mg) (G : Cg K mg) (LD : LamD K mg base TT "_law_refused_right" qr) (c_number_of : C_number_of P w K mg base) (c_date_of : C_date_of P w K mg base) (c_kind_of : C_kind_of P w K mg base)
    (c__law_number : C__law_number P w K mg base) (c__law_month : C__law_month P w K mg base) (c__law_pick : C__law_pick P w K mg base) (hf : f = He.fAd K ("_law_refused_right", none)) (F : Fn K "_law_refused_right" s__law_refused_right f fd) :
    FnOk P w K mg base CX0 8 f fd ["state", "date"] (sp_refused K TT) := by
  refine fn_lam F hf sc__law_refused_right ?l fun A outer s H E hr => ⟨_, (pss_cons (ps_asg (pv 1) (pg_tup rfl (pgs_cons (pg_name (i := 2) sc__law_refused_right.nd rfl (Or.inl rfl)) (pgs_cons (pg_name (i := 3) sc__law_refused_right.nd rfl (Or.inl rfl)) (pgs_cons (pg_name (i := 4) sc__law_refused_right.nd rfl (Or.inl rfl)) pgs_nil)))))
  (pss_cons (ps_set (i := 5) sc__law_refused_right.nd rfl (Or.inr rfl) (pe_k c__law_pick hr (by decide) rfl (by exact (pa_cons (pv 0) (pa_cons (pe_lst (pa_cons (pe_tup (pa_cons (pv 2) (pa_cons (pv 3) (pa_cons (pe_op op_add (pe_k c__law_month hr (by decide) rfl (by exact (pa_cons (pv 2) (pa_cons (pv 3) pa_nil)))) pe_int) pa_nil)))) (pa_cons (pe_tup (pa_cons (pv 2) (pa_cons pe_int (pa_cons pe_int pa_nil)))) (pa_cons (pe_tup (pa_cons (pv 2) (pa_cons pe_int (pa_cons pe_int pa_nil)))) (pa_cons (pe_tup (pa_cons pe_int (pa_cons (pv 3) (pa_cons (pv 4) pa_nil)))) (pa_cons (pe_lst (pa_cons (pv 2) (pa_cons (pv 3) (pa_cons (pv 4) pa_nil)))) (pa_cons (pe_tup (pa_cons (pv 2) (pa_cons (pv 3) pa_nil))) (pa_cons (pe_tup (pa_cons (pv 2) (pa_cons pe_bl (pa_cons pe_int pa_nil)))) (pa_cons pe_non (pa_cons (pe_tup (pa_cons (pe_op op_add (pe_op op_pow pe_int pe_int) pe_int) (pa_cons pe_int (pa_cons pe_int pa_nil)))) (pa_cons (pe_tup (pa_cons (pv 2) (pa_cons (pv 3) (pa_cons pe_int pa_nil)))) (pa_cons (pe_callTy cl_str (by rfl) T.n_str (by decide +kernel) (pa_cons (pv 2) pa_nil)) (pa_cons (pe_tup (pa_cons pe_int (pa_cons pe_int (pa_cons pe_int pa_nil)))) (pa_cons (pe_tup (pa_cons (pv 2) (pa_cons (pv 3) (pa_cons pe_non pa_nil)))) (pa_cons (pe_op op_catT (pv 1) (pe_tup (pa_cons pe_int pa_nil))) pa_nil))))))))))))))) pa_nil)))))
  (pss_cons (ps_set (i := 6) sc__law_refused_right.nd rfl (Or.inl rfl) (pe_k c__law_number hr (by decide) rfl (by exact (pa_cons (pe_tup (pa_cons (pe_op op_pow pe_int pe_int) (pa_cons pe_int (pa_cons pe_int pa_nil)))) pa_nil))))
  (pss_cons (ps_set (i := 7) sc__law_refused_right.nd rfl (Or.inr rfl) (pe_k c__law_pick hr (by decide) rfl (by exact (pa_cons (pv 0) (pa_cons (pe_lst (pa_cons (pe_un un_neg pe_int) (pa_cons (pe_op op_add (pv 6) pe_int) (pa_cons pe_non (pa_cons pe_bl (pa_cons pe_str (pa_cons (pe_lst (pa_cons pe_int pa_nil)) (pa_cons (pe_un un_neg (pe_op op_pow pe_int pe_int)) (pa_cons (pe_op op_pow pe_int pe_int) pa_nil))))))))) pa_nil)))))
  (pss_cons (ps_set (i := 8) sc__law_refused_right.nd rfl (Or.inl rfl) (pe_lst (pa_cons (by exact (pe_cg (k := 5) hr G LD rfl rfl rfl (by decide) (lamS_by (by rfl)) rfl (fun _ _ _ _ _ => rfl) (fun A outer s H E f c' hr => (by exact (pe_kR (takes_of rfl rfl rfl rfl) c_number_of hr (by decide) rfl (by exact (pa_cons (pv 5) pa_nil))))))) pa_nil)))
  (pss_cons (ps_expr (pe_bm PySem.F.plainAttrs_list PySem.F.slot_list_append PySem.F.type_list_append mt_append (pv 8) (pa_cons (by exact (pe_cg (k := 5) hr G LD rfl rfl rfl (by decide) (lamS_by (by rfl)) rfl (fun _ _ _ _ _ => rfl) (fun A outer s H E f c' hr => (by exact (pe_kR (takes_of rfl rfl rfl rfl) c_date_of hr (by decide) rfl (by exact (pa_cons (pv 7) pa_nil))))))) pa_nil)))
  (pss_cons (ps_if (PW.pt (pw_or (pt_not (pt_val (pe_callB call_isEV (by rfl) T.n_isinstance (by decide +kernel) (pa_cons (pe_ix ix_list (pv 8) pe_int (fun _ _ => rfl)) (pa_cons (C8.pe_gc rfl T.v_BadDate) pa_nil))))) (pw_or1 (pt_not (pt_val (pe_callB call_isEV (by rfl) T.n_isinstance (by decide +kernel) (pa_cons (pe_ix ix_list (pv 8) pe_int (fun _ _ => rfl)) (pa_cons (C8.pe_gc rfl T.v_BadNumber) pa_nil)))))))) (pss_one (ps_ret pe_bl)) pss_nil)
  (pss_cons (ps_set (i := 7) sc__law_refused_right.nd rfl (Or.inr rfl) (pe_k c__law_pick hr (by decide) rfl (by exact (pa_cons (pv 0) (pa_cons (pe_lst (pa_cons pe_int (pa_cons (pe_un un_neg pe_int) (pa_cons (pe_op op_add (pe_op op_pow pe_int pe_int) pe_int) (pa_cons pe_non (pa_cons pe_bl (pa_cons pe_str (pa_cons (pe_tup (pa_cons pe_int pa_nil)) pa_nil)))))))) pa_nil)))))
  (pss_one (ps_ret (pe_callB call_isEV (by rfl) T.n_isinstance (by decide +kernel) (pa_cons (by exact (pe_cg (k := 5) hr G LD rfl rfl rfl (by decide) (lamS_by (by rfl)) rfl (fun _ _ _ _ _ => rfl) (fun A outer s H E f c' hr => (by exact (pe_kR (takes_of rfl rfl rfl rfl) c_kind_of hr (by decide) rfl (by exact (pa_cons (pv 7) pa_nil))))))) (pa_cons (C8.pe_gc rfl T.v_BadYear) pa_nil))))))))))))), ?p⟩
  case l =>
    rintro vs H Q E ⟨a, g, n, ws, ds, rfl, _, _, _, hv, ⟨d, rfl, _⟩, _⟩
    rw [List.length_cons, dps_len hv]
    rfl
  case p =>
    rintro vs Q ⟨a, g, n, ws, ds, rfl, st, hn, tt, hv, ⟨d, rfl, y, m, n0, rfl, va, yl⟩, k⟩
    obtain _ | ⟨h1, _ | _⟩ := hv
    have h1 := dp_ex hide_ex _ _ h1
    have m1 := va.m1
    have m2 := va.m2
    have L := last_eq
    have y1 := va.y1
    have md := monthDays_bd (y := y) m1 m2
    refine q_unpD3 (ed_var rfl h1) rfl fun v1 v2 v3 H1 e1 hy hm hd => ?_
    obtain rfl := dp_int hy
    obtain rfl := dp_int hm
    obtain rfl := dp_int hd
    have h1 := dp_ex e1 _ _ h1
    have tt := LamX.Tabs.ext tt e1
    have st := st.ex e1
    have yz : y.natAbs.log2 < 1920 := by
      have h4 : y.natAbs < 2 ^ 120 := by
        rw [L] at yl
        omega
      exact log2_of h4 (by decide) (by decide)
    refine q_asgS (K := K) (Φ := BadD) (es_pickL (l := 14) (fun _ => ev_var rfl)
      (esa_cons (es_of (d := .tuple [.int y, .int m, .int (monthDays y m + 1)]) rfl (badDay (whole_no (.inr (by omega)))) fun _ _ _ => ed_tup (eda_cons (by wtm_at "ed") (eda_cons (by wtm_at "ed") (eda_cons (ed_ev (ev_op (ev_edI (ed_call (by wtm_at "eda") ⟨y, m, rfl, m1, m2, rfl⟩)) (by wtm_at "ev") (by wtm_at "rv")) (.int _)) eda_nil))))
      (esa_cons (es_of (d := .tuple [.int y, .int 13, .int 1]) rfl (bad3 (.inr rfl)) fun _ _ _ => by wtm_at "ed")
      (esa_cons (es_of (d := .tuple [.int y, .int 0, .int 5]) rfl (bad3 (.inr rfl)) fun _ _ _ => by wtm_at "ed")
      (esa_cons (es_of (d := .tuple [.int 0, .int m, .int n0]) rfl (bad3 (.inl rfl)) fun _ _ _ => by wtm_at "ed")
      (esa_cons (es_imp (es_lst (l := 3) (Φ := fun _ => True) (esa_cons (es_of (d := .int y) rfl trivial fun _ _ _ => by wtm_at "ed") (esa_cons (es_of (d := .int m) rfl trivial fun _ _ _ => by wtm_at "ed") (esa_cons (es_of (d := .int n0) rfl trivial fun _ _ _ => by wtm_at "ed") esa_nil))) (by decide)) ?bl)
      (esa_cons (es_of (d := .tuple [.int y, .int m]) rfl rfl fun _ _ _ => by wtm_at "ed")
      (esa_cons (es_of (d := .tuple [.int y, .bool true, .int 1]) rfl (bad3 (.inr rfl)) fun _ _ _ => by wtm_at "ed")
      (esa_cons (es_of (d := .none) rfl rfl fun _ _ _ => by wtm_at "ed")
      (esa_cons (es_of (d := .tuple [.int (10 ^ 30 + 1), .int 1, .int 1]) rfl (bad3 (.inl (whole_no (.inr (by rw [L]; decide +kernel))))) fun _ _ _ => by wtm_at "ed")
      (esa_cons (es_of (d := .tuple [.int y, .int m, .int 0]) rfl (badDay (whole_no (.inl (by decide)))) fun _ _ _ => by wtm_at "ed")
      (esa_cons (es_of (d := .str (toString y)) rfl rfl fun _ _ _ => ed_ev (ev_txt (ev_var rfl) yz) (.str _))
      (esa_cons (es_of (d := .tuple [.int 2100, .int 2, .int 29]) rfl (badDay (by decide +kernel)) fun _ _ _ => by wtm_at "ed")
      (esa_cons (es_of (d := .tuple [.int y, .int m, .none]) rfl (badDay rfl) fun _ _ _ => by wtm_at "ed")
      (esa_cons (es_of (d := .tuple [.int y, .int m, .int n0, .int 0]) rfl rfl fun H2 kp2 st2 => ed_catT (ed_var rfl (dp_kp kp2 st rfl h1)) (by wtm_at "ed") rfl (by simp) (by exact Nat.le_of_ble_eq_true rfl)) esa_nil)))))))))))))) (by omega) (by decide) (by decide)) st fun vb db H2 hdb kp2 st2 hvb => ?_
    case bl =>
      rintro d ⟨ds, rfl, _⟩
      rfl
    have tt := Tabs.kp tt st kp2
    have kn2 : Kn a g H H2 := (Kn.of e1).trans (Kn.kp kp2)
    have vl : Valid last 12 31 := ⟨by decide +kernel, by decide, by decide, by decide, by rw [md12]; decide⟩
    have lv : numberAt last 12 31 = yearBegin (last + 1) - 1 := by decide +kernel
    refine q_asg (v := .int (numberAt last 12 31)) (ev_edI (ed_call (by wtm_at "eda") ⟨last, 12, 31, rfl, by decide, by decide, rfl⟩)) fun H3 e3 => ?_
    rw [lv]
    have ybp : 0 < yearBegin (last + 1) ∧ yearBegin (last + 1) < 10 ^ 40 := by decide +kernel
    generalize hB : yearBegin (last + 1) - 1 = B
    have st3 := st2.ex e3
    have tt := LamX.Tabs.ext tt e3
    have hvb3 : Dp K H3 vb db := dp_ex e3 _ _ (dp_ex hide_ex _ _ hvb)
    have hvb3' := dp_ex (Kp.hide (a := a) (g := g) (Kp.of e3)) _ _ hvb
    have odd : ∀ i : Int, i < 0 ∨ B < i → OddD (.int i) := fun i h => by
      unfold OddD
      rw [hB]
      exact whole_no h
    refine q_asgS (K := K) (Φ := OddD) (es_pickL (l := 8) (fun _ => ev_var rfl)
      (esa_cons (es_of (d := .int (-1)) rfl (odd _ (.inl (by decide))) fun _ _ _ => by wtm_at "ed")
      (esa_cons (es_of (d := .int (B + 1)) rfl (odd _ (.inr (by omega))) fun _ _ _ => by wtm_at "ed")
      (esa_cons (es_of (d := .none) rfl rfl fun _ _ _ => by wtm_at "ed")
      (esa_cons (es_of (d := .bool true) rfl rfl fun _ _ _ => by wtm_at "ed")
      (esa_cons (es_of (d := .str "0") rfl rfl fun _ _ _ => by wtm_at "ed")
      (esa_cons (es_imp (es_lst (l := 1) (Φ := fun _ => True) (esa_cons (es_of (d := .int 0) rfl trivial fun _ _ _ => by wtm_at "ed") esa_nil) (by decide)) ?ol)
      (esa_cons (es_of (d := .int (-10 ^ 40)) rfl (odd _ (.inl (by decide))) fun _ _ _ => by wtm_at "ed")
      (esa_cons (es_of (d := .int (10 ^ 60)) rfl (odd _ (.inr (by omega))) fun _ _ _ => by wtm_at "ed") esa_nil)))))))) (by omega) (by decide) (by decide)) st3 fun vo dO H4 hdo kp4 st4 hvo => ?_
    case ol =>
      rintro d ⟨ds, rfl, _⟩
      rfl
    have tt := Tabs.kp tt st3 kp4
    have kn4 := (kn2.trans (Kn.of e3)).trans (Kn.kp kp4)
    have hvb4 : Dp K H4 vb db := dp_ex hide_ex _ _ (dp_ex (Kp.hide kp4) _ _ hvb3')
    have hvo4 : Dp K H4 vo dO := dp_ex hide_ex _ _ hvo
    have bd : isDate db = false := hdb
    have bo : isWhole dO 0 (yearBegin (last + 1) - 1) = false := hdo
    -- the first refusal
    refine r_caught (ds := [db]) (C := He.ga K "BadDate") tt (fun H5 e5 => eda_cons (ed_var rfl (dp_ext e5 _ _ hvb4)) eda_nil) ⟨db, rfl, .inl ⟨bd, rfl⟩⟩ T.i_BadDate.ex fun a1 H5 e5 tt5 h5 => ?_
    refine ⟨sz_of (Nat.le_of_ble_eq_true rfl), fun p hp => ?_⟩
    have ex5 : Ex H5 (upd H5 p (.lst [.ref a1])) := Ex.new hp
    have e56 := ex5
    have st5 := (StAt.ext st4 e5).ex ex5
    have tt5 := LamX.Tabs.ext tt5 ex5
    have kn5 := (kn4.trans (Kn.ext e5)).trans (Kn.of ex5)
    have hvo5 := dp_ex ex5 _ _ (dp_ext e5 _ _ hvo4)
    have h5 := ex5 _ _ h5
    have hp5 : upd H5 p (.lst [V.ref a1]) p = some (.lst [V.ref a1]) := upd_same
    generalize upd H5 p (.lst [V.ref a1]) = H6 at st5 tt5 kn5 hvo5 h5 hp5 e56
    -- the second
    refine ⟨.ref p, rfl, Or.inl ⟨rfl, [V.ref a1], sq_of hp5⟩, ?_⟩
    refine r_caught (ds := [dO]) (C := He.ga K "BadNumber") tt5 (fun H7 e7 => eda_cons (ed_var rfl (dp_ext e7 _ _ hvo5)) eda_nil) (.inr ⟨dO, rfl, bo, rfl⟩) T.i_BadNumber.ex fun a2 H7 e7 tt7 h7 => ?_
    have hp7 : H7 p = some (.lst [V.ref a1]) := e7 _ _ hp5 fun _ z => nomatch z
    have h57 : H7 a1 = some (ExV (.ref (He.ga K "BadDate")) none a1) := e7 _ _ h5 fun _ z => nomatch z
    refine ⟨p, [V.ref a1], V.ref a2, rfl, rfl, hp7, sz_lt (Nat.le_of_ble_eq_true rfl), ?_⟩
    have e57 : ExtN H5 H7 := (ExtN.of e56).trans e7
    have e58 : ExtN H5 (upd H7 p (.lst ([V.ref a1] ++ [V.ref a2]))) := ExtN.mut e57 hp
    have tt8 : Tabs TT (upd H7 p (.lst ([V.ref a1] ++ [V.ref a2]))) := Tabs.lst tt7 hp7
    have st8 := StAt.ext (StAt.ext st4 e5) e58
    have kn8 := (kn4.trans (Kn.ext e5)).trans (Kn.ext e58)
    have n1 : a1 ≠ p := by
      rintro rfl
      exact nomatch h57.symm.trans hp7
    have n2 : a2 ≠ p := by
      rintro rfl
      exact nomatch h7.symm.trans hp7
    have h81 : upd H7 p (.lst ([V.ref a1] ++ [V.ref a2])) a1 = some (ExV (.ref (He.ga K "BadDate")) none a1) := by
      rw [upd_ne n1]
      exact h57
    have h82 : upd H7 p (.lst ([V.ref a1] ++ [V.ref a2])) a2 = some (ExV (.ref (He.ga K "BadNumber")) none a2) := by
      rw [upd_ne n2]
      exact h7
    have h8 : upd H7 p (.lst ([V.ref a1] ++ [V.ref a2])) p = some (.lst [V.ref a1, V.ref a2]) := upd_same
    generalize upd H7 p (.lst ([V.ref a1] ++ [V.ref a2])) = H8 at tt8 st8 kn8 h81 h82 h8 ⊢
    refine q_when (b := false) (et_is (et_or (a := false) (et_is (et_not (a := true) (et_B (ev_isEV (ev_op (ev_var rfl) ev_c (rv_ixL (sq_of h8) rfl)) (fun _ _ => ev_c) h81 T.i_BadDate.e (.own _) T.i_BadDate.k))) rfl)
      fun _ => et_not (a := true) (et_B (ev_isEV (ev_op (ev_var rfl) ev_c (rv_ixL (sq_of h8) rfl)) (fun _ _ => ev_c) h82 T.i_BadNumber.e (.own _) T.i_BadNumber.k))) rfl) (fun h => nomatch h) fun _ H9 e9 => ?_
    have tt9 := LamX.Tabs.ext tt8 e9
    have st9 := st8.ex e9
    have kn9 := kn8.trans (Kn.of e9)
    refine q_asgS (K := K) (Φ := OffD) (es_pickL (l := 7) (fun _ => ev_var rfl)
      (esa_cons (es_of (d := .int 0) rfl (whole_no (.inl (by decide))) fun _ _ _ => by wtm_at "ed")
      (esa_cons (es_of (d := .int (-4)) rfl (whole_no (.inl (by decide))) fun _ _ _ => by wtm_at "ed")
      (esa_cons (es_of (d := .int (10 ^ 30 + 1)) rfl (whole_no (.inr (by rw [L]; decide +kernel))) fun _ _ _ => by wtm_at "ed")
      (esa_cons (es_of (d := .none) rfl rfl fun _ _ _ => by wtm_at "ed")
      (esa_cons (es_of (d := .bool false) rfl rfl fun _ _ _ => by wtm_at "ed")
      (esa_cons (es_of (d := .str "2001") rfl rfl fun _ _ _ => by wtm_at "ed")
      (esa_cons (es_of (d := .tuple [.int 2001]) rfl rfl fun _ _ _ => by wtm_at "ed") esa_nil))))))) (by omega) (by decide) (by decide)) st9 fun vf df H10 hdf kp10 st10 hvf => ?_
    have tt10 := Tabs.kp tt9 st9 kp10
    have kn10 := kn9.trans (Kn.kp kp10)
    have hvf10 : Dp K H10 vf df := dp_ex hide_ex _ _ hvf
    have bf : isWhole df 1 last = false := hdf
    refine r_isCg (ds := [df]) (C := He.ga K "BadYear") tt10 (fun H11 e11 => eda_cons (ed_var rfl (dp_ext e11 _ _ hvf10)) eda_nil) (.inr ⟨df, rfl, bf, rfl⟩) T.i_BadYear.ex (fun _ => ev_c) T.i_BadYear.e (.own _) T.i_BadYear.k fun H11 e11 t11 => ?_
    exact k (.bl true) (.bool true) H11 rfl (kn10.trans (Kn.ext e11)) (StAt.ext st10 e11) t11 (.bl true)
end
end K80

/-! part M -/
namespace K80
open PySem PySem.Spec PyProof.Rows L2 Evl Lk LamX
def kss : List (List Key) := (List.range 28).map fun (i : Nat) => [.inl (yearBegin (2001 + (i : Int)) % 7), .inr (word (2001 + (i : Int)))]
theorem kss_kinds : kinds = kss.map fun k => PyData.tuple (k.map keyD) := by
  unfold kinds kss
  rw [List.map_map]
  rfl
theorem kss_nodup : kss.Nodup := by decide +kernel
theorem kinds_eqv : PyData.eqv (.tuple kinds) (.tuple kinds) = true := by decide +kernel
theorem n111 : numberAt 1 1 1 = 0 := by decide +kernel
theorem v111 : Valid 1 1 1 := ⟨by decide, by decide, by decide, by decide, by decide +kernel⟩
theorem vlast {d : Int} (h1 : 1 ≤ d) (h2 : d ≤ 31) : Valid last 12 d := ⟨by decide +kernel, by decide, by decide, h1, by rw [md12]; exact h2⟩
theorem e30 : (10 : Int) ^ (Int.toNat 30) = last := by decide +kernel
theorem one_le_last : (1 : Int) ≤ last := by decide +kernel
section
variable {P : Program} {w : World} {K : PySem.W.Frag} {mg : Str → Option Value} {base : Heap} {f : Addr} {fd : FuncData} {TT : List (Addr × Str)}
abbrev C__law_days_right (P : Program) (w : World) (K : PySem.W.Frag) (mg : Str → Option Value) (base : Heap) (TT : List (Addr × Str)) : Prop := Cl P w K mg base CX0 8 "_law_days_right" (sp_days K TT)
abbrev C__law_refused_right (P : Program) (w : World) (K : PySem.W.Frag) (mg : Str → Option Value) (base : Heap) (TT : List (Addr × Str)) : Prop := Cl P w K mg base CX0 8 "_law_refused_right" (sp_refused K TT)
abbrev C__law_again_right (P : Program) (w : World) (K : PySem.W.Frag) (mg : Str → Option Value) (base : Heap) : Prop := Cl P w K mg base CX0 4 "_law_again_right" (spD K R_again)
def spLaw (K : PySem.W.Frag) (TT : List (Addr × Str)) : Sp := fun vs H Q _ => ∃ (l : Addr) (cs : List Int), vs = [.ref l] ∧ SqL K H l (cs.map V.int) ∧ cs.length ≤ 63 ∧ Tabs TT H ∧ ∀ H', Q (.bl true) H'
abbrev s_law : Stmt := top 42
abbrev N_law : List Str := ["script", "state", "at", "lap", "date", "turn"]
theorem sc_law : FnScope N_law ["script"] (defScope s_law) := ⟨rfl, rfl, rfl, by decide +kernel, rfl, by decide +kernel, by decide +kernel⟩
theorem ok_law (T : Txl K mg) (c__law_begun : C__law_begun P w K mg base) (c__law_draw : C__law_draw P w K mg base) (c__law_sort : C__law_sort P w K mg base) (c__law_number : C__law_number P w K mg base) (c__law_date : C__law_date P w K mg base)
    (c_number_of : C_number_of P w K mg base) (c_date_of : C_date_of P w K mg base) (c_kind_of : C_kind_of P w K mg base)
    (c__law_days_right : C__law_days_right P w K mg base TT) (c__law_refused_right : C__law_refused_right P w K mg base TT) (c__law_again_right : C__law_again_right P w K mg base) (F : Fn K "law" s_law f fd) :
    FnOk P w K mg base CX0 9 f fd ["script"] (spLaw K TT) := by
  refine fn_run F sc_law ?l fun cdv A outer s H E hr => ⟨_, (pss_cons (ps_set (i := 1) sc_law.nd rfl (Or.inl rfl) (pe_k c__law_begun hr (by decide) rfl (by exact (pa_cons (pv 0) pa_nil))))
  (pss_cons (ps_if (PW.pt (pw_or (pt_cmpR (op_neD hr.units) (C8.pe_gc rfl T.v_KINDS) (pe_tupleOf rfl T.n_tuple (by exact (pe_lc (own := [("at", 2)]) (by rfl) sc_law.nd (pi_range1 (by rfl) T.n_range (pa_cons pe_int pa_nil)) (blkOk_by (own := [("at", 2)]) (N := N_law) (sc := defScope s_law) (by decide +kernel)) (fun _ _ _ _ _ => (pg_name (i := 2) sc_law.nd rfl (Or.inl rfl))) (fun _ _ _ _ _ => pts_nil) (fun _ _ _ _ _ => (pe_k c__law_sort hr (by decide) rfl (by exact (pa_cons (pe_op op_add pe_int (pv 2)) pa_nil))))))) (nomark _)) (pw_or1 (pt_cmpR op_ne (pe_callB cl_len (by rfl) T.n_len (by decide +kernel) (pa_cons (C8.pe_gc rfl T.v_KINDS) pa_nil)) (pe_lenSetK rfl hr.units rfl T.n_len rfl T.n_set (C8.pe_gc rfl T.v_KINDS)) (nomark _))))) (pss_one (ps_ret pe_bl)) pss_nil)
  (pss_cons (ps_if (PW.pt (pw_or (pt_cmpR op_ne (pe_kX c_number_of hr (by decide) rfl (by exact (pa_cons (pe_tup (pa_cons pe_int (pa_cons pe_int (pa_cons pe_int pa_nil)))) pa_nil))) pe_int (nomark _)) (pw_or (pt_cmpR (op_neD hr.units) (pe_kX c_date_of hr (by decide) rfl (by exact (pa_cons pe_int pa_nil))) (pe_tup (pa_cons pe_int (pa_cons pe_int (pa_cons pe_int pa_nil)))) (nomark _)) (pw_or1 (pt_cmpR (op_neD hr.units) (pe_kX c_kind_of hr (by decide) rfl (by exact (pa_cons pe_int pa_nil))) (pe_tup (pa_cons pe_int (pa_cons pe_str pa_nil))) (nomark _)))))) (pss_one (ps_ret pe_bl)) pss_nil)
  (pss_cons (ps_if (PW.pt (pw_or (pt_cmpR (op_neD hr.units) (pe_kX c_date_of hr (by decide) rfl (by exact (pa_cons (pe_k c__law_number hr (by decide) rfl (by exact (pa_cons (pe_tup (pa_cons (pe_op op_pow pe_int pe_int) (pa_cons pe_int (pa_cons pe_int pa_nil)))) pa_nil))) pa_nil))) (pe_tup (pa_cons (pe_op op_pow pe_int pe_int) (pa_cons pe_int (pa_cons pe_int pa_nil)))) (nomark _)) (pw_or1 (pt_cmpR (op_neD hr.units) (pe_kX c_kind_of hr (by decide) rfl (by exact (pa_cons (pe_op op_pow pe_int pe_int) pa_nil))) (pe_k c__law_sort hr (by decide) rfl (by exact (pa_cons (pe_op op_pow pe_int pe_int) pa_nil))) (nomark _))))) (pss_one (ps_ret pe_bl)) pss_nil)
  (pss_cons (ps_for PassesOwn.never rfl (pi_range1 (by rfl) T.n_range (pa_cons (pe_op op_add pe_int (pe_callB (cl_min rfl) (by rfl) T.n_min (by decide +kernel) (pa_cons (pe_callB cl_len (by rfl) T.n_len (by decide +kernel) (pa_cons (pv 0) pa_nil)) (pa_cons pe_int pa_nil)))) pa_nil)) (pg_name (i := 3) sc_law.nd rfl (Or.inl rfl)) (pss_cons (ps_set (i := 4) sc_law.nd rfl (Or.inl rfl) (pe_ifExp (pt_cmpR op_gt (pe_k c__law_draw hr (by decide) rfl (by exact (pa_cons (pv 1) (pa_cons pe_int pa_nil)))) pe_int (nomark _)) (pe_k c__law_date hr (by decide) rfl (by exact (pa_cons (pv 1) pa_nil))) (pe_tup (pa_cons (pe_op op_pow pe_int pe_int) (pa_cons pe_int (pa_cons (pe_op op_sub pe_int (pe_k c__law_draw hr (by decide) rfl (by exact (pa_cons (pv 1) (pa_cons pe_int pa_nil))))) pa_nil))))))
  (pss_cons (ps_if (PW.pt (pw_or (pt_not (pt_val (pe_k c__law_days_right hr (by decide) rfl (by exact (pa_cons (pv 1) (pa_cons (pv 4) pa_nil)))))) (pw_or1 (pt_not (pt_val (pe_k c__law_again_right hr (by decide) rfl (by exact (pa_cons (pe_ix ix_tup (pv 4) pe_int (fun _ _ => rfl)) pa_nil)))))))) (pss_one (ps_ret pe_bl)) pss_nil)
  (pss_one (ps_for PassesOwn.never rfl (pi_range1 (by rfl) T.n_range (pa_cons pe_int pa_nil)) (pg_name (i := 5) sc_law.nd rfl (Or.inl rfl)) (pss_one (ps_if (pt_not (pt_val (pe_k c__law_refused_right hr (by decide) rfl (by exact (pa_cons (pv 1) (pa_cons (pv 4) pa_nil)))))) (pss_one (ps_ret pe_bl)) pss_nil)))))))
  (pss_one (ps_ret pe_bl))))))), ?p⟩
  case l =>
    rintro vs H Q E ⟨l, cs, rfl, _⟩
    rfl
  case p =>
    rintro vs Q ⟨l, cs, rfl, hl, hz, tt, k⟩
    refine q_begun (ev_var rfl) hl (by omega) fun a g H1 e1 st => ?_
    have hl := ex_l e1 hl
    have tt := LamX.Tabs.ext tt e1
    have dK : ∀ H, Dp K H (.ref (He.ga K "KINDS")) (.tuple kinds) := T.d_KINDS
    have dK2 : ∀ H, Dp K H (.ref (He.ga K "KINDS")) (.tuple (kss.map fun k => PyData.tuple (k.map keyD))) := fun H => by
      rw [← kss_kinds]
      exact dK H
    refine q_when (b := false) (et_is (et_or (a := false) ?c1 fun _ => ?c2) rfl) (fun h => nomatch h) fun _ H2 e2 => ?_
    case c1 =>
      refine et_is (et_test (ev_neD (d := .tuple kinds) (e := .tuple kinds) (ed_ev ev_c (dK _)) (ed_tupleL (ds := kinds) ?lc rfl) kinds_shaped kinds_shaped)) ?eq
      case eq =>
        rw [kinds_eqv]
        rfl
      case lc =>
        refine ed_is (ed_lcR1 (n := 28) (fun _ => true) (fun (i : Nat) => kindD (2001 + (i : Int))) (fun _ => rfl) (ea_cons ev_c ea_nil) (by decide) (by decide) (fun _ => rfl) (fun _ _ _ _ => et_yes) fun i H2 e2 hi _ => ?_) ?eq2
        case eq2 =>
          rw [givenD_all]
          rfl
        exact ed_call (R := R_kind_at) (d := kindD (2001 + (i : Int))) (eda_cons (d := .int (2001 + (i : Int))) (by wtm_at "ed") eda_nil) ⟨2001 + (i : Int), rfl, rfl⟩
    case c2 =>
      refine et_is (et_test (ev_op (x := .int 28) (y := .int 28) (z := .bl false) (ev_is (ev_lenT (ds := kinds) (ed_ev ev_c (dK _))) rfl) (ev_is (ev_lenSet (kss := kss) (ed_ev ev_c (dK2 _)) rfl (by decide) kss_nodup) rfl) (Lk.RV.is (rv_ne rfl) (by decide)))) rfl
    have ol := one_le_last
    refine q_when (b := false) (et_is (et_or (a := false) ?c1 fun _ => et_or (a := false) ?c2 fun _ => ?c3) rfl) (fun h => nomatch h) fun _ H3 e3 => ?_
    case c1 => exact et_test (ev_op (x := .int 0) (y := .int 0) (z := .bl false) (ev_edI (ed_call (by wtm_at "eda") (by
      have z := no_of (K := K) v111 ol
      rw [n111] at z
      exact z))) ev_c (Lk.RV.is (rv_ne rfl) (by decide)))
    case c2 => exact et_is (et_test (ev_neD (d := .tuple [.int 1, .int 1, .int 1]) (e := .tuple [.int 1, .int 1, .int 1]) (ed_call (by wtm_at "eda") (by
      have z := da_of (K := K) v111 ol
      rw [n111] at z
      exact z)) (by wtm_at "ed") (sh_date _ _ _) (sh_date _ _ _))) (by rw [ga_date]; rfl)
    case c3 =>
      have ek : kindD 1 = .tuple [.int 0, .str "behind"] := by
        have e1 : yearBegin 1 % 7 = 0 := by decide +kernel
        have e2 : word 1 = "behind" := by decide +kernel
        rw [kindD, e1, e2]
      refine et_is (et_test (ev_neD (d := kindD 1) (e := kindD 1) (ed_call (by wtm_at "eda") (.inl ⟨1, rfl, by decide, ol, rfl⟩)) (ed_is (by wtm_at "ed") ek.symm) (kind_shaped 1) (kind_shaped 1))) (by rw [kind_eqv]; rfl)
    have vl := vlast (d := 31) (by decide) (by decide)
    refine q_when (b := false) (et_is (et_or (a := false) ?c4 fun _ => ?c5) rfl) (fun h => nomatch h) fun _ H4 e4 => ?_
    case c4 =>
      refine et_is (et_test (ev_neD (d := .tuple [.int last, .int 12, .int 31]) (e := .tuple [.int last, .int 12, .int 31]) (ed_call (eda_cons (d := .int (numberAt last 12 31)) (ed_call (eda_cons (d := .tuple [.int last, .int 12, .int 31]) (ed_is (by wtm_at "ed") ?e1) eda_nil) ⟨last, 12, 31, rfl, by decide, by decide, rfl⟩) eda_nil) (da_of vl (Int.le_refl _))) (ed_is (by wtm_at "ed") ?e2) (sh_date _ _ _) (sh_date _ _ _))) (by rw [ga_date]; rfl)
      case e1 => rw [e30]
      case e2 => rw [e30]
    case c5 =>
      refine et_is (et_test (ev_neD (d := kindD last) (e := kindD last) (ed_call (eda_cons (d := .int last) (ed_is (by wtm_at "ed") ?e1) eda_nil) (.inl ⟨last, rfl, ol, Int.le_refl _, rfl⟩)) (ed_call (eda_cons (d := .int last) (ed_is (by wtm_at "ed") ?e2) eda_nil) ⟨last, rfl, rfl⟩) (kind_shaped _) (kind_shaped _))) (by rw [kind_eqv]; rfl)
      case e1 => rw [e30]
      case e2 => rw [e30]
    have e14 : Ex H1 H4 := (e2.trans e3).trans e4
    have tt := LamX.Tabs.ext tt e14
    have st := st.ex e14
    have hl := ex_l e14 hl
    have ff : far = 1000000000000 := rfl
    obtain ⟨m, hm⟩ : ∃ m : Int, m = 1 + (if 3 < (cs.length : Int) then 3 else (cs.length : Int)) := ⟨_, rfl⟩
    have m0 : 0 ≤ m ∧ m ≤ 4 := by
      rw [hm]
      split <;> omega
    refine q_forR1 (n := m) (ea_cons (ev_is (ev_op (y := .int (if 3 < (cs.length : Int) then 3 else (cs.length : Int))) ev_c (ev_min (ev_is (ev_len (ev_var rfl) hl) (by rw [List.length_map])) ev_c) rv_I0) (by rw [hm])) ea_nil) ⟨m0.1, by omega⟩
      (fun i σ' H' => ∃ u2 u3 u4 u5 : Option V, σ' = [some (.ref l), some (.ref a), u2, u3, u4, u5] ∧ StAt H' a g (i * 100) ∧ Tabs TT H') (fun H5 e5 => ⟨_, _, _, _, rfl, st.ex e5, LamX.Tabs.ext tt e5⟩) ?_ ?_
    · rintro i σ' H' hi ⟨u2, u3, u4, u5, rfl, st, tt⟩
      have hi' : (i : Int) < 4 := by omega
      refine q_asgS (K := K) (n := i * 100) (m := i * 100 + 10) (Φ := DateD) (es_ifS (ets_I (K := K) (es_draw (fun _ => ev_var rfl) (fun _ => ev_c) (by omega) (by decide) (by decide +kernel))) (es_callS (m := i * 100 + 1) (fun _ => ev_var rfl) (esp_nil rfl) (by omega) fun _ _ _ h => h)
        (es_le (es_imp (es_tup (Ψ := fun ds => ∃ x, ds = [.int last, .int 12, .int x] ∧ 1 ≤ x ∧ x ≤ 31) (esp_cons (Φ := fun d => d = .int last) (es_of (d := .int last) rfl rfl fun _ _ _ => ed_is (by wtm_at "ed") ?e1) fun d hd => esp_cons (Φ := fun d => d = .int 12) (es_of (d := .int 12) rfl rfl fun _ _ _ => by wtm_at "ed") fun d2 hd2 =>
          esp_cons (Φ := fun d => ∃ x, d = .int x ∧ 1 ≤ x ∧ x ≤ 31) (es_I0 (p := fun x => 0 ≤ x ∧ x < 31) (fun _ _ _ => ev_c) (es_draw (fun _ => ev_var rfl) (fun _ => ev_c) (by omega) (by decide) (by decide +kernel)) (fun j hj => ⟨_, rfl, by omega, by omega⟩)) fun d3 hd3 => esp_nil ?e2) ?e3) ?e4) (by omega))) st fun vd dd H5 hdd kp5 st5 hvd => ?_
      case e1 => rw [e30]
      case e2 =>
        obtain ⟨x, rfl, x1, x2⟩ := hd3
        exact ⟨x, by rw [hd, hd2], x1, x2⟩
      case e3 =>
        rintro ds ⟨x, rfl, _⟩
        exact Nat.le_of_ble_eq_true rfl
      case e4 =>
        rintro d ⟨ds, rfl, x, rfl, x1, x2⟩
        exact ⟨last, 12, x, rfl, vlast x1 x2, Int.le_refl _⟩
      have tt := Tabs.kp tt st kp5
      obtain ⟨y, m1, n1, rfl, va, yl⟩ := hdd
      have hv5 : Dp K H5 vd (.tuple [.int y, .int m1, .int n1]) := dp_ex hide_ex _ _ hvd
      have later : ∀ H6 n, Kn a g H5 H6 → StAt H6 a g n → Dp K (hide a g H6) vd (.tuple [.int y, .int m1, .int n1]) := fun H6 n kn s6 => dp_hide s6 rfl (dp_tx (Kn.tx kn st5) _ _ rfl hv5)
      have dok : DateD (.tuple [.int y, .int m1, .int n1]) := ⟨y, m1, n1, rfl, va, yl⟩
      refine q_whenN (a := a) (g := g) (T := TT) (n := i * 100 + 10) (m := i * 100 + 11) (b := false) (etn_or (etn_not (b := true) (etn_callL (m := i * 100 + 10) (fun _ => ev_var rfl) (fun H6 kn s6 => esp_cons (Φ := fun d => d = .tuple [.int y, .int m1, .int n1]) (es_var rfl (later H6 _ kn s6) rfl) fun d hd => esp_nil ⟨d, rfl, by rw [hd]; exact dok⟩) (by omega) fun _ _ _ h => h))
        (etn_not (b := true) (etn_of fun H6 kn s6 => et_B (ev_edB (ed_call (eda_cons (d := .int y) (ed_ixT (i := 0) (ed_var rfl (dp_ex hide_ex _ _ (later H6 _ kn s6))) ev_c rfl rfl) eda_nil) ⟨y, rfl, va.y1, yl, rfl⟩))))) st5 tt (fun h => nomatch h) fun _ H6 kn6 st6 tt6 => ?_
      refine s_forR1 (n := 2) (ea_cons ev_c ea_nil) (by decide) (fun j σ' H' => ∃ u2 u3 u5 : Option V, σ' = [some (.ref l), some (.ref a), u2, u3, some vd, u5] ∧ Kn a g H5 H' ∧ StAt H' a g (i * 100 + 11 + j * 3) ∧ Tabs TT H') (fun H7 e7 => ⟨_, _, _, rfl, kn6.trans (Kn.of e7), st6.ex e7, LamX.Tabs.ext tt6 e7⟩) ?_ ?_
      · rintro j σ' H' hj ⟨u2, u3, u5, rfl, kn, s7, t7⟩
        refine s_whenN (a := a) (g := g) (T := TT) (n := i * 100 + 11 + j * 3) (m := i * 100 + 11 + j * 3 + 3) (b := false) (etn_not (b := true) (etn_callL (m := i * 100 + 11 + j * 3) (fun _ => ev_var rfl) (fun H8 kn8 s8 => esp_cons (Φ := fun d => d = .tuple [.int y, .int m1, .int n1]) (es_var rfl (later H8 _ (kn.trans kn8) s8) rfl) fun d hd => esp_nil ⟨d, rfl, by rw [hd]; exact dok⟩) (by omega) fun _ _ _ h => h)) s7 t7
          (fun h => nomatch h) fun _ H8 kn8 s8 t8 => ?_
        exact ⟨_, _, _, rfl, kn.trans kn8, s8.mono (by omega), t8⟩
      · rintro σ' H' ⟨u2, u3, u5, rfl, kn, s7, t7⟩
        exact ⟨_, _, _, _, rfl, s7.mono (by have : (2 : Int).toNat = 2 := rfl; omega), t7⟩
    · rintro σ' H' ⟨u2, u3, u4, u5, rfl, st, tt⟩
      exact s_ret ev_c fun H5 _ => k H5
end
end K80

/-! part N -/
namespace K80
open PySem PySem.Spec PyProof.Rows L2 Evl Lk LamX
def dd (x : Str) (st : Stmt) : He.DefD := ⟨(x, none), x, x, defArgs st, defBody st, defScope st, [], []⟩
def fnL : List He.DefD := [dd "is_whole" s_is_whole, dd "is_leap" s_is_leap, dd "month_days" s_month_days, dd "year_begin" s_year_begin, dd "day_in_year" s_day_in_year, dd "number_at" s_number_at, dd "is_date" s_is_date, dd "need_date" s_need_date, dd "need_year" s_need_year, dd "number_of" s_number_of, dd "month_and_day" s_month_and_day, dd "date_at" s_date_at, dd "date_of" s_date_of, dd "kind_at" s_kind_at, dd "kind_of" s_kind_of, dd "_law_begun" s__law_begun, dd "_law_mixed" s__law_mixed, dd "_law_draw" s__law_draw, dd "_law_pick" s__law_pick, dd "_law_leap" s__law_leap, dd "_law_month" s__law_month, dd "_law_number" s__law_number, dd "_law_sort" s__law_sort, dd "_law_after" s__law_after, dd "_law_year" s__law_year, dd "_law_date" s__law_date, dd "_law_again_right" s__law_again_right, dd "_law_days_right" s__law_days_right, dd "_law_refused_right" s__law_refused_right, dd "law" s_law, dd "_law_caught" s__law_caught]
def faL : List He.Fa := [.glo "is_whole", .glo "is_leap", .glo "month_days", .glo "year_begin", .glo "day_in_year", .glo "number_at", .glo "is_date", .glo "need_date", .glo "need_year", .glo "number_of", .glo "month_and_day", .glo "date_at", .glo "date_of", .glo "kind_at", .glo "kind_of", .glo "_law_begun", .glo "_law_mixed", .glo "_law_draw", .glo "_law_pick", .glo "_law_leap", .glo "_law_month", .glo "_law_number", .glo "_law_sort", .glo "_law_after", .glo "_law_year", .glo "_law_date", .glo "_law_again_right", .glo "_law_days_right", .glo "_law_refused_right", .glo "law", .glo "_law_caught", .glo "KeptError", .glo "BadDate", .glo "BadNumber", .glo "BadYear", .glo "LENGTHS", .glo "KINDS", .free "isinstance", .free "int", .free "bool", .free "tuple", .free "len", .free "sum", .free "range", .free "abs", .free "min", .free "repr", .free "str", .free "set", .int "LAST_YEAR" (10 ^ 30), .int "ROUND_DAYS" 146097, .exc "BadDate", .exc "BadNumber", .exc "BadYear"]
def tfL : List He.Defn := [("_law_days_right", none), ("_law_refused_right", none)]
/-- the i-th kind's tuple -/
def inner (K : PySem.W.Frag) (i : Nat) : Addr := match K.lookup (He.ga K "KINDS") with
  | some ⟨_, _, .seq its _, _⟩ => (match its.getD i .none with
    | .ref a => a
    | _ => 0)
  | _ => 0
def seqTB (K : PySem.W.Frag) (a : Addr) (vs : List V) : Bool := match K.lookup a with
  | some ⟨.type c, _, .seq its _, _⟩ => decide (c = "tuple") && (decide (its.size ≤ sizeLine) && He.relAll vs its.toList)
  | _ => false
theorem seqTB_ok {K : PySem.W.Frag} {a : Addr} {vs : List V} (h : seqTB K a vs = true) (H : Hp) : SqT K H a vs := by
  unfold seqTB at h
  split at h
  · rename_i c od its n sl q
    simp only [Bool.and_eq_true, decide_eq_true_eq] at h
    obtain ⟨rfl, h2, h3⟩ := h
    exact .inr ⟨_, its, n, q, rfl, rfl, h2, He.relAll_ok h3⟩
  · cases h
def excB (K : PySem.W.Frag) (x : Str) : Bool :=
  He.eqO (PySem.W.findIn K (.ref (He.ga K x)) "__getattribute__") (some (some (.builtin "BaseException.__getattribute__"))) && (He.eqO (PySem.W.findIn K (.ref (He.ga K x)) "__getattr__") (some none) &&
  (decide (PySem.W.subIn K (.ref (He.ga K x)) (.type "BaseException") = some true) && (PySem.W.hasDictIn K (He.ga K x) && (He.eqO (PySem.W.findIn K (.ref (He.ga K x)) "__class__") (some (some (.builtin "object.__class__"))) &&
  (He.eqO (PySem.W.specialIn K (.builtin "object.__class__") "__get__") (some (some (.builtin "getset_descriptor.__get__"))) && (decide (PySem.W.takesIn K (.builtin "object.__class__") = some true) &&
  (decide (PySem.W.mroIn K (He.ga K x) (.type "object") = some true) && (decide (PySem.W.kitOne K (.ref (He.ga K x)) (.ref (He.ga K x)) = some true) && decide (PySem.W.exmOne K (.ref (He.ga K x)) (.ref (He.ga K "KeptError")) = some true)))))))))
theorem excB_ok {K : PySem.W.Frag} {mg : Str → Option Value} {x : Str} (h : excB K x = true) (g : mg x = some (.ref (He.ga K x))) : XiT K mg (He.ga K "KeptError") x (He.ga K x) := by
  unfold excB at h
  simp only [Bool.and_eq_true, decide_eq_true_eq] at h
  obtain ⟨h1, h2, h3, h4, h5, h6, h7, h8, h9, h10⟩ := h
  exact ⟨⟨He.eqO_ok h1, He.eqO_ok h2, h3, h4, He.eqO_ok h5, He.eqO_ok h6, h7, h8⟩, h9, h10, g⟩
def tabA (K : PySem.W.Frag) : Addr := He.tabOf K (He.codeOf K ("_law_days_right", none))
def tabR (K : PySem.W.Frag) : Addr := He.tabOf K (He.codeOf K ("_law_refused_right", none))
def exL (K : PySem.W.Frag) : Bool := excB K "BadDate" && (excB K "BadNumber" && (excB K "BadYear" && (He.tupB K "LENGTHS" (lens.map .int) && (seqTB K (He.ga K "KINDS") ((List.range 28).map fun i => V.ref (inner K i)) &&
  (((List.range 28).all fun (i : Nat) => seqTB K (inner K i) [.int (yearBegin (2001 + (i : Int)) % 7), .str (word (2001 + (i : Int)))]) && decide (tabA K ≠ tabR K))))))
theorem dps_map {α : Type} {K : PySem.W.Frag} {H : Hp} {f : α → V} {g : α → PyData} : ∀ {l : List α}, (∀ x ∈ l, Dp K H (f x) (g x)) → DpAll K H (l.map f) (l.map g)
  | [], _ => .nil
  | x :: l, h => .cons (h x List.mem_cons_self) (dps_map fun y hy => h y (List.mem_cons_of_mem _ hy))
section
variable {P : Program} {w : World} {K : PySem.W.Frag} {mg : Str → Option Value} {base : Heap} {CX : CXT} {k : Nat} {x : Str} {sp : Sp} {f : Addr} {fd : FuncData} {ps ks : List Str}
theorem cl_mk (o : FnOk P w K mg base CX k f fd ps sp) (g : mg x = some (.ref f)) (kp : PySem.W.keepIn K (.ref f) = true) (b : L2.Binds K fd ps []) : Lk.Cl P w K mg base CX k x sp := ⟨_, _, _, o, g, kp, b⟩
theorem cw_mk (o : FnOk P w K mg base CX k f fd ps sp) (g : mg x = some (.ref f)) (kp : PySem.W.keepIn K (.ref f) = true) (b : KBinds K fd ps ks (fun us ws => us ++ ws) (fun vs zs => vs ++ zs)) : Lk.Cw P w K mg base CX k x ks sp := ⟨_, _, _, o, g, kp, b⟩
end
def tT (K : PySem.W.Frag) : List (Addr × Str) := [(tabA K, qd), (tabR K, qr)]
abbrev Lw : PySem.W.OpenLaw := PySem.Challenge.rw_housekept_k80_days_of_all_years
abbrev Rw : PySem.W.OpenRow := PySem.W.OpenLaw.row Lw
abbrev hkL : PySem.W.Hook := He.hookX 5 faL fnL [] tfL exL
def obL (s : PySem.W.SharedT) : He.AlX := He.obsX 5 faL fnL [] tfL exL (HandSHeadRun.getT s)
theorem obL_eq (s : PySem.W.SharedT) : obL s = hkL.obs s.abs := He.obsX_eq (HandSHeadRun.getT_eq s)
def looseL : List Str := (["KeptError", "BadDate", "BadNumber", "BadYear", "LAST_YEAR", "ROUND_DAYS", "LENGTHS", "KINDS", "is_whole", "is_leap", "month_days", "year_begin"] : List Str) ++ (["day_in_year", "number_at", "is_date", "need_date", "need_year", "number_of", "month_and_day", "date_at", "date_of", "kind_at", "kind_of", "_law_begun"] : List Str) ++ (["_law_mixed", "_law_draw", "_law_pick", "_law_leap", "_law_month", "_law_number", "_law_sort", "_law_after", "_law_year", "_law_date", "_law_again_right", "_law_days_right"] : List Str) ++ (["_law_refused_right", "_law_caught"] : List Str)
theorem facts {w : World} {K : PySem.W.Frag} {h : Heap} {mg : Str → Option Value} {f : Addr} (X : K.In h) (G : h.Ns mainGlobals mg) (hfa : mg ("law" : Str) = some (.ref f)) (c : He.SaysX faL fnL [] tfL exL w h K) : LawAtS Lw w K CX0 9 63 "script" mg f h := by
  have cd : He.SaysD faL fnL K := c.t.d
  have mo := c.more
  unfold exL at mo
  simp only [Bool.and_eq_true] at mo
  obtain ⟨x1, x2, x3, x4, x5, x6, x7⟩ := mo
  obtain ⟨fd_is_whole, F_is_whole⟩ := cd.def_ 0 (d := dd "is_whole" s_is_whole) rfl
  have g_is_whole := He.glo_ok X G (cd.fact 0 (f := .glo "is_whole") rfl)
  obtain ⟨fd_is_leap, F_is_leap⟩ := cd.def_ 1 (d := dd "is_leap" s_is_leap) rfl
  have g_is_leap := He.glo_ok X G (cd.fact 1 (f := .glo "is_leap") rfl)
  obtain ⟨fd_month_days, F_month_days⟩ := cd.def_ 2 (d := dd "month_days" s_month_days) rfl
  have g_month_days := He.glo_ok X G (cd.fact 2 (f := .glo "month_days") rfl)
  obtain ⟨fd_year_begin, F_year_begin⟩ := cd.def_ 3 (d := dd "year_begin" s_year_begin) rfl
  have g_year_begin := He.glo_ok X G (cd.fact 3 (f := .glo "year_begin") rfl)
  obtain ⟨fd_day_in_year, F_day_in_year⟩ := cd.def_ 4 (d := dd "day_in_year" s_day_in_year) rfl
  have g_day_in_year := He.glo_ok X G (cd.fact 4 (f := .glo "day_in_year") rfl)
  obtain ⟨fd_number_at, F_number_at⟩ := cd.def_ 5 (d := dd "number_at" s_number_at) rfl
  have g_number_at := He.glo_ok X G (cd.fact 5 (f := .glo "number_at") rfl)
  obtain ⟨fd_is_date, F_is_date⟩ := cd.def_ 6 (d := dd "is_date" s_is_date) rfl
  have g_is_date := He.glo_ok X G (cd.fact 6 (f := .glo "is_date") rfl)
  obtain ⟨fd_need_date, F_need_date⟩ := cd.def_ 7 (d := dd "need_date" s_need_date) rfl
  have g_need_date := He.glo_ok X G (cd.fact 7 (f := .glo "need_date") rfl)
  obtain ⟨fd_need_year, F_need_year⟩ := cd.def_ 8 (d := dd "need_year" s_need_year) rfl
  have g_need_year := He.glo_ok X G (cd.fact 8 (f := .glo "need_year") rfl)
  obtain ⟨fd_number_of, F_number_of⟩ := cd.def_ 9 (d := dd "number_of" s_number_of) rfl
  have g_number_of := He.glo_ok X G (cd.fact 9 (f := .glo "number_of") rfl)
  obtain ⟨fd_month_and_day, F_month_and_day⟩ := cd.def_ 10 (d := dd "month_and_day" s_month_and_day) rfl
  have g_month_and_day := He.glo_ok X G (cd.fact 10 (f := .glo "month_and_day") rfl)
  obtain ⟨fd_date_at, F_date_at⟩ := cd.def_ 11 (d := dd "date_at" s_date_at) rfl
  have g_date_at := He.glo_ok X G (cd.fact 11 (f := .glo "date_at") rfl)
  obtain ⟨fd_date_of, F_date_of⟩ := cd.def_ 12 (d := dd "date_of" s_date_of) rfl
  have g_date_of := He.glo_ok X G (cd.fact 12 (f := .glo "date_of") rfl)
  obtain ⟨fd_kind_at, F_kind_at⟩ := cd.def_ 13 (d := dd "kind_at" s_kind_at) rfl
  have g_kind_at := He.glo_ok X G (cd.fact 13 (f := .glo "kind_at") rfl)
  obtain ⟨fd_kind_of, F_kind_of⟩ := cd.def_ 14 (d := dd "kind_of" s_kind_of) rfl
  have g_kind_of := He.glo_ok X G (cd.fact 14 (f := .glo "kind_of") rfl)
  obtain ⟨fd__law_begun, F__law_begun⟩ := cd.def_ 15 (d := dd "_law_begun" s__law_begun) rfl
  have g__law_begun := He.glo_ok X G (cd.fact 15 (f := .glo "_law_begun") rfl)
  obtain ⟨fd__law_mixed, F__law_mixed⟩ := cd.def_ 16 (d := dd "_law_mixed" s__law_mixed) rfl
  have g__law_mixed := He.glo_ok X G (cd.fact 16 (f := .glo "_law_mixed") rfl)
  obtain ⟨fd__law_draw, F__law_draw⟩ := cd.def_ 17 (d := dd "_law_draw" s__law_draw) rfl
  have g__law_draw := He.glo_ok X G (cd.fact 17 (f := .glo "_law_draw") rfl)
  obtain ⟨fd__law_pick, F__law_pick⟩ := cd.def_ 18 (d := dd "_law_pick" s__law_pick) rfl
  have g__law_pick := He.glo_ok X G (cd.fact 18 (f := .glo "_law_pick") rfl)
  obtain ⟨fd__law_leap, F__law_leap⟩ := cd.def_ 19 (d := dd "_law_leap" s__law_leap) rfl
  have g__law_leap := He.glo_ok X G (cd.fact 19 (f := .glo "_law_leap") rfl)
  obtain ⟨fd__law_month, F__law_month⟩ := cd.def_ 20 (d := dd "_law_month" s__law_month) rfl
  have g__law_month := He.glo_ok X G (cd.fact 20 (f := .glo "_law_month") rfl)
  obtain ⟨fd__law_number, F__law_number⟩ := cd.def_ 21 (d := dd "_law_number" s__law_number) rfl
  have g__law_number := He.glo_ok X G (cd.fact 21 (f := .glo "_law_number") rfl)
  obtain ⟨fd__law_sort, F__law_sort⟩ := cd.def_ 22 (d := dd "_law_sort" s__law_sort) rfl
  have g__law_sort := He.glo_ok X G (cd.fact 22 (f := .glo "_law_sort") rfl)
  obtain ⟨fd__law_after, F__law_after⟩ := cd.def_ 23 (d := dd "_law_after" s__law_after) rfl
  have g__law_after := He.glo_ok X G (cd.fact 23 (f := .glo "_law_after") rfl)
  obtain ⟨fd__law_year, F__law_year⟩ := cd.def_ 24 (d := dd "_law_year" s__law_year) rfl
  have g__law_year := He.glo_ok X G (cd.fact 24 (f := .glo "_law_year") rfl)
  obtain ⟨fd__law_date, F__law_date⟩ := cd.def_ 25 (d := dd "_law_date" s__law_date) rfl
  have g__law_date := He.glo_ok X G (cd.fact 25 (f := .glo "_law_date") rfl)
  obtain ⟨fd__law_again_right, F__law_again_right⟩ := cd.def_ 26 (d := dd "_law_again_right" s__law_again_right) rfl
  have g__law_again_right := He.glo_ok X G (cd.fact 26 (f := .glo "_law_again_right") rfl)
  obtain ⟨fd__law_days_right, F__law_days_right⟩ := cd.def_ 27 (d := dd "_law_days_right" s__law_days_right) rfl
  have g__law_days_right := He.glo_ok X G (cd.fact 27 (f := .glo "_law_days_right") rfl)
  obtain ⟨fd__law_refused_right, F__law_refused_right⟩ := cd.def_ 28 (d := dd "_law_refused_right" s__law_refused_right) rfl
  have g__law_refused_right := He.glo_ok X G (cd.fact 28 (f := .glo "_law_refused_right") rfl)
  obtain ⟨fd_law, F_law⟩ := cd.def_ 29 (d := dd "law" s_law) rfl
  have g_law := He.glo_ok X G (cd.fact 29 (f := .glo "law") rfl)
  obtain ⟨fd__law_caught, F__law_caught⟩ := cd.def_ 30 (d := dd "_law_caught" s__law_caught) rfl
  have g__law_caught := He.glo_ok X G (cd.fact 30 (f := .glo "_law_caught") rfl)
  have g_KeptError := He.glo_ok X G (cd.fact 31 (f := .glo "KeptError") rfl)
  have g_BadDate := He.glo_ok X G (cd.fact 32 (f := .glo "BadDate") rfl)
  have g_BadNumber := He.glo_ok X G (cd.fact 33 (f := .glo "BadNumber") rfl)
  have g_BadYear := He.glo_ok X G (cd.fact 34 (f := .glo "BadYear") rfl)
  have T : Txl K mg := {
    n_isinstance := He.free_ok X G (cd.fact 37 (f := .free "isinstance") rfl)
    n_int := He.free_ok X G (cd.fact 38 (f := .free "int") rfl)
    n_bool := He.free_ok X G (cd.fact 39 (f := .free "bool") rfl)
    n_tuple := He.free_ok X G (cd.fact 40 (f := .free "tuple") rfl)
    n_len := He.free_ok X G (cd.fact 41 (f := .free "len") rfl)
    n_sum := He.free_ok X G (cd.fact 42 (f := .free "sum") rfl)
    n_range := He.free_ok X G (cd.fact 43 (f := .free "range") rfl)
    n_abs := He.free_ok X G (cd.fact 44 (f := .free "abs") rfl)
    n_min := He.free_ok X G (cd.fact 45 (f := .free "min") rfl)
    n_repr := He.free_ok X G (cd.fact 46 (f := .free "repr") rfl)
    n_str := He.free_ok X G (cd.fact 47 (f := .free "str") rfl)
    n_set := He.free_ok X G (cd.fact 48 (f := .free "set") rfl)
    v_LAST_YEAR := by
      obtain ⟨t, e⟩ := He.int_ok X G (cd.fact 49 (f := .int "LAST_YEAR" (10 ^ 30)) rfl)
      exact ⟨_, e, t, rfl⟩
    v_ROUND_DAYS := by
      obtain ⟨t, e⟩ := He.int_ok X G (cd.fact 50 (f := .int "ROUND_DAYS" 146097) rfl)
      exact ⟨_, e, t, rfl⟩
    v_LENGTHS := ⟨_, He.glo_ok X G (cd.fact 35 (f := .glo "LENGTHS") rfl), rfl⟩
    d_LENGTHS := fun H => by
      have z := He.tupB_ok x4 H
      rw [List.map_map] at z
      exact .tup z (dps_ints lens)
    x_BadDate := by
      obtain ⟨y1, y2, y3, y4⟩ := He.exc_ok (cd.fact 51 (f := .exc "BadDate") rfl)
      exact ⟨y1, g_BadDate, y2, y3, y4⟩
    x_BadNumber := by
      obtain ⟨y1, y2, y3, y4⟩ := He.exc_ok (cd.fact 52 (f := .exc "BadNumber") rfl)
      exact ⟨y1, g_BadNumber, y2, y3, y4⟩
    x_BadYear := by
      obtain ⟨y1, y2, y3, y4⟩ := He.exc_ok (cd.fact 53 (f := .exc "BadYear") rfl)
      exact ⟨y1, g_BadYear, y2, y3, y4⟩
    i_BadDate := excB_ok x1 g_BadDate
    v_BadDate := ⟨_, g_BadDate, rfl⟩
    i_BadNumber := excB_ok x2 g_BadNumber
    v_BadNumber := ⟨_, g_BadNumber, rfl⟩
    i_BadYear := excB_ok x3 g_BadYear
    v_BadYear := ⟨_, g_BadYear, rfl⟩
    v_KINDS := ⟨_, He.glo_ok X G (cd.fact 36 (f := .glo "KINDS") rfl), rfl⟩
    d_KINDS := fun H => .tup (seqTB_ok x5 H) (dps_map fun i hi => .tup (seqTB_ok (List.all_eq_true.mp x6 i hi) H) (.cons (.int _) (.cons (.str _) .nil)))
    n_tuple' := He.free_ok X G (cd.fact 40 (f := .free "tuple") rfl) }
  have Gc : Cg K mg := ⟨⟨_, fd__law_caught, F__law_caught, g__law_caught⟩, g_KeptError⟩
  have e0 := hfa.symm.trans g_law
  cases e0
  have mA : (("_law_days_right", none) : He.Defn) ∈ tfL := List.mem_cons_self
  have mR : (("_law_refused_right", none) : He.Defn) ∈ tfL := List.mem_cons_of_mem _ List.mem_cons_self
  have hne : tabA K ≠ tabR K := of_decide_eq_true x7
  refine ⟨fd_law, tfL.map (He.cT K), spLaw K (tT K), ?_, ?_, ?_, fun s u => FunD.bindsA (ps := ["script"]) F_law (fun _ _ _ _ _ _ us hl => match us, hl with | [_], _ => rfl) s [u] rfl, ?_, ?_⟩
  · intro p hp
    obtain ⟨q, hq, rfl⟩ := List.mem_map.mp hp
    exact c.empty q hq
  · intro p hp
    obtain ⟨q, hq, rfl⟩ := List.mem_map.mp hp
    exact c.out q hq
  · intro p hp
    obtain ⟨q, hq, rfl⟩ := List.mem_map.mp hp
    exact PySem.W.codeHd_of_K X (c.hd q hq)
  · intro H a ns hl _ hT hS
    refine ⟨a, ns, rfl, hS, hl, ?_, fun _ => rfl⟩
    intro p hp
    rcases List.mem_cons.mp hp with rfl | hp
    · exact TabS.nil (hT _ (List.mem_map.mpr ⟨_, mA, rfl⟩))
    · rcases List.mem_cons.mp hp with rfl | hp
      · exact TabS.nil (hT _ (List.mem_map.mpr ⟨_, mR, rfl⟩))
      · cases hp
  intro base KB GB TB
  have LA : LamD K mg base (tT K) "_law_days_right" qd := ⟨TB _ (List.mem_map.mpr ⟨_, mA, rfl⟩), List.mem_cons_self, fun p hp e => by
    rcases List.mem_cons.mp hp with rfl | hp
    · rfl
    · rcases List.mem_cons.mp hp with rfl | hp
      · exact absurd e.symm hne
      · cases hp⟩
  have LR : LamD K mg base (tT K) "_law_refused_right" qr := ⟨TB _ (List.mem_map.mpr ⟨_, mR, rfl⟩), List.mem_cons_of_mem _ List.mem_cons_self, fun p hp e => by
    rcases List.mem_cons.mp hp with rfl | hp
    · exact absurd e hne
    · rcases List.mem_cons.mp hp with rfl | hp
      · rfl
      · cases hp⟩
  have c_is_whole := cl_mk (x := "is_whole") (ok_is_whole (P := Lw.prog) (w := w) (base := base) T.toTxt F_is_whole) g_is_whole F_is_whole.kp (F_is_whole.bindsN fun _ _ _ _ _ _ us hl => match us, hl with | [_, _, _], _ => rfl)
  have c_is_leap := cl_mk (x := "is_leap") (ok_is_leap (P := Lw.prog) (w := w) (base := base) F_is_leap) g_is_leap F_is_leap.kp (F_is_leap.bindsN fun _ _ _ _ _ _ us hl => match us, hl with | [_], _ => rfl)
  have c_month_days := cl_mk (x := "month_days") (ok_month_days (P := Lw.prog) (w := w) (base := base) T.toTxt c_is_leap F_month_days) g_month_days F_month_days.kp (F_month_days.bindsN fun _ _ _ _ _ _ us hl => match us, hl with | [_, _], _ => rfl)
  have c_year_begin := cl_mk (x := "year_begin") (ok_year_begin (P := Lw.prog) (w := w) (base := base) F_year_begin) g_year_begin F_year_begin.kp (F_year_begin.bindsN fun _ _ _ _ _ _ us hl => match us, hl with | [_], _ => rfl)
  have c_day_in_year := cl_mk (x := "day_in_year") (ok_day_in_year (P := Lw.prog) (w := w) (base := base) T.toTxt c_month_days F_day_in_year) g_day_in_year F_day_in_year.kp (F_day_in_year.bindsN fun _ _ _ _ _ _ us hl => match us, hl with | [_, _, _], _ => rfl)
  have c_number_at := cl_mk (x := "number_at") (ok_number_at (P := Lw.prog) (w := w) (base := base) c_year_begin c_day_in_year F_number_at) g_number_at F_number_at.kp (F_number_at.bindsN fun _ _ _ _ _ _ us hl => match us, hl with | [_], _ => rfl)
  have c_is_date := cl_mk (x := "is_date") (ok_is_date (P := Lw.prog) (w := w) (base := base) T.toTxt c_is_whole c_month_days F_is_date) g_is_date F_is_date.kp (F_is_date.bindsN fun _ _ _ _ _ _ us hl => match us, hl with | [_], _ => rfl)
  have c_need_date := cl_mk (x := "need_date") (ok_need_date (P := Lw.prog) (w := w) (base := base) T.toTxt c_is_date F_need_date) g_need_date F_need_date.kp (F_need_date.bindsN fun _ _ _ _ _ _ us hl => match us, hl with | [_], _ => rfl)
  have c_need_year := cl_mk (x := "need_year") (ok_need_year (P := Lw.prog) (w := w) (base := base) T.toTxt c_is_whole F_need_year) g_need_year F_need_year.kp (F_need_year.bindsN fun _ _ _ _ _ _ us hl => match us, hl with | [_], _ => rfl)
  have c_number_of := cl_mk (x := "number_of") (ok_number_of (P := Lw.prog) (w := w) (base := base) c_need_date c_number_at F_number_of) g_number_of F_number_of.kp (F_number_of.bindsN fun _ _ _ _ _ _ us hl => match us, hl with | [_], _ => rfl)
  have w_number_of := cw_mk (x := "number_of") (ok_number_of (P := Lw.prog) (w := w) (base := base) c_need_date c_number_at F_number_of) g_number_of F_number_of.kp (kbinds1 F_number_of (p := "date") (fun _ _ _ _ _ _ _ => rfl) fun _ _ _ _ _ _ _ => rfl)
  have c_month_and_day := cl_mk (x := "month_and_day") (ok_month_and_day (P := Lw.prog) (w := w) (base := base) c_month_days F_month_and_day) g_month_and_day F_month_and_day.kp (F_month_and_day.bindsN fun _ _ _ _ _ _ us hl => match us, hl with | [_, _], _ => rfl)
  have c_date_at := cl_mk (x := "date_at") (ok_date_at (P := Lw.prog) (w := w) (base := base) T.toTxt c_year_begin c_month_and_day F_date_at) g_date_at F_date_at.kp (F_date_at.bindsN fun _ _ _ _ _ _ us hl => match us, hl with | [_], _ => rfl)
  have c_date_of := cl_mk (x := "date_of") (ok_date_of (P := Lw.prog) (w := w) (base := base) T.toTxt c_is_whole c_year_begin c_date_at F_date_of) g_date_of F_date_of.kp (F_date_of.bindsN fun _ _ _ _ _ _ us hl => match us, hl with | [_], _ => rfl)
  have w_date_of := cw_mk (x := "date_of") (ok_date_of (P := Lw.prog) (w := w) (base := base) T.toTxt c_is_whole c_year_begin c_date_at F_date_of) g_date_of F_date_of.kp (kbinds1 F_date_of (p := "number") (fun _ _ _ _ _ _ _ => rfl) fun _ _ _ _ _ _ _ => rfl)
  have c_kind_at := cl_mk (x := "kind_at") (ok_kind_at (P := Lw.prog) (w := w) (base := base) c_is_leap c_year_begin F_kind_at) g_kind_at F_kind_at.kp (F_kind_at.bindsN fun _ _ _ _ _ _ us hl => match us, hl with | [_], _ => rfl)
  have c_kind_of := cl_mk (x := "kind_of") (ok_kind_of (P := Lw.prog) (w := w) (base := base) c_need_year c_kind_at F_kind_of) g_kind_of F_kind_of.kp (F_kind_of.bindsN fun _ _ _ _ _ _ us hl => match us, hl with | [_], _ => rfl)
  have w_kind_of := cw_mk (x := "kind_of") (ok_kind_of (P := Lw.prog) (w := w) (base := base) c_need_year c_kind_at F_kind_of) g_kind_of F_kind_of.kp (kbinds1 F_kind_of (p := "year") (fun _ _ _ _ _ _ _ => rfl) fun _ _ _ _ _ _ _ => rfl)
  have c__law_begun := cl_mk (x := "_law_begun") (ok__law_begun (P := Lw.prog) (w := w) (base := base) T.toTxt F__law_begun) g__law_begun F__law_begun.kp (F__law_begun.bindsN fun _ _ _ _ _ _ us hl => match us, hl with | [_], _ => rfl)
  have c__law_mixed := cl_mk (x := "_law_mixed") (ok__law_mixed (P := Lw.prog) (w := w) (base := base) T.toTxt F__law_mixed) g__law_mixed F__law_mixed.kp (F__law_mixed.bindsN fun _ _ _ _ _ _ us hl => match us, hl with | [_], _ => rfl)
  have c__law_draw := cl_mk (x := "_law_draw") (ok__law_draw (P := Lw.prog) (w := w) (base := base) T.toTxt c__law_mixed F__law_draw) g__law_draw F__law_draw.kp (F__law_draw.bindsN fun _ _ _ _ _ _ us hl => match us, hl with | [_, _], _ => rfl)
  have c__law_pick := cl_mk (x := "_law_pick") (ok__law_pick (P := Lw.prog) (w := w) (base := base) T.toTxt c__law_draw F__law_pick) g__law_pick F__law_pick.kp (F__law_pick.bindsN fun _ _ _ _ _ _ us hl => match us, hl with | [_, _], _ => rfl)
  have c__law_leap := cl_mk (x := "_law_leap") (ok__law_leap (P := Lw.prog) (w := w) (base := base) T.toTxt F__law_leap) g__law_leap F__law_leap.kp (F__law_leap.bindsN fun _ _ _ _ _ _ us hl => match us, hl with | [_], _ => rfl)
  have c__law_month := cl_mk (x := "_law_month") (ok__law_month (P := Lw.prog) (w := w) (base := base) c__law_leap F__law_month) g__law_month F__law_month.kp (F__law_month.bindsN fun _ _ _ _ _ _ us hl => match us, hl with | [_, _], _ => rfl)
  have c__law_number := cl_mk (x := "_law_number") (ok__law_number (P := Lw.prog) (w := w) (base := base) F__law_number) g__law_number F__law_number.kp (F__law_number.bindsN fun _ _ _ _ _ _ us hl => match us, hl with | [_], _ => rfl)
  have c__law_sort := cl_mk (x := "_law_sort") (ok__law_sort (P := Lw.prog) (w := w) (base := base) T.toTxt c__law_leap c__law_number F__law_sort) g__law_sort F__law_sort.kp (F__law_sort.bindsN fun _ _ _ _ _ _ us hl => match us, hl with | [_], _ => rfl)
  have c__law_after := cl_mk (x := "_law_after") (ok__law_after (P := Lw.prog) (w := w) (base := base) c__law_month F__law_after) g__law_after F__law_after.kp (F__law_after.bindsN fun _ _ _ _ _ _ us hl => match us, hl with | [_], _ => rfl)
  have c__law_year := cl_mk (x := "_law_year") (ok__law_year (P := Lw.prog) (w := w) (base := base) c__law_draw c__law_pick F__law_year) g__law_year F__law_year.kp (F__law_year.bindsN fun _ _ _ _ _ _ us hl => match us, hl with | [_], _ => rfl)
  have c__law_date := cl_mk (x := "_law_date") (ok__law_date (P := Lw.prog) (w := w) (base := base) T.toTxt c__law_year c__law_month c__law_draw c__law_pick F__law_date) g__law_date F__law_date.kp (F__law_date.bindsN fun _ _ _ _ _ _ us hl => match us, hl with | [_], _ => rfl)
  have c__law_again_right := cl_mk (x := "_law_again_right") (ok__law_again_right (P := Lw.prog) (w := w) (base := base) T c_kind_of w_kind_of c__law_sort F__law_again_right) g__law_again_right F__law_again_right.kp (F__law_again_right.bindsN fun _ _ _ _ _ _ us hl => match us, hl with | [_], _ => rfl)
  have c__law_days_right := cl_mk (x := "_law_days_right") (ok__law_days_right (P := Lw.prog) (w := w) (base := base) T Gc LA c_number_of w_number_of c_date_of w_date_of c__law_number c__law_pick c__law_after rfl F__law_days_right) g__law_days_right F__law_days_right.kp (F__law_days_right.bindsN fun _ _ _ _ _ _ us hl => match us, hl with | [_, _], _ => rfl)
  have c__law_refused_right := cl_mk (x := "_law_refused_right") (ok__law_refused_right (P := Lw.prog) (w := w) (base := base) T Gc LR c_number_of c_date_of c_kind_of c__law_number c__law_month c__law_pick rfl F__law_refused_right) g__law_refused_right F__law_refused_right.kp (F__law_refused_right.bindsN fun _ _ _ _ _ _ us hl => match us, hl with | [_, _], _ => rfl)
  exact ok_law (P := Lw.prog) (w := w) (base := base) T c__law_begun c__law_draw c__law_sort c__law_number c__law_date c_number_of c_date_of c_kind_of c__law_days_right c__law_refused_right c__law_again_right F_law
end K80

/-! part O -/
namespace K80
open PySem PySem.Spec PyProof.Rows L2
theorem run (w : World) : HandSHeadRun.RunEq Rw (PySem.W.view Rw.prog [42]) hkL obL 4000 looseL w := by
  intro os
  kernel_rfl
end K80
open PySem PySem.W PySem.Calls PyProof.Rows
theorem PySem.Challenge.cw_housekept_k80_days_of_all_years_holds : PySem.Challenge.rw_housekept_k80_days_of_all_years.Holds := by
  w_on; o_law
  refine HandSHeadRun.head_any (r := K80.Rw) (q := view K80.Rw.prog [42]) (H := K80.hkL) (ob := K80.obL) (M := 4000) (loose := K80.looseL) (d := HandSHeadRun.topDef K80.Rw.prog 42) (kwd := []) K80.obL_eq
    (by kernel_rfl) (fun s => by kernel_rfl) K80.run (by kernel_rfl) (by kernel_rfl) (by kernel_rfl) (by rfl) (by first | assumption | decide +kernel) (by decide +kernel) ⟨rfl, rfl, rfl, rfl, rfl, by decide +kernel⟩ ?hw ?hc
  case hw => w_witness2
  case hc =>
    refine LamX.walk_ofTsE (l := K80.Lw) (n := 63) (k := 9) (x := "script") (CX := fun _ => L2.CX0) rfl (by decide) (by kernel_rfl) ⟨rfl, by decide, by decide⟩ ?F (fun _ _ _ _ _ z => z)
    intro w mg fa h Y G hmg0
    obtain ⟨K, KX, c⟩ := Y
    have hmg : mg ("law" : PySem.Str) = some (.ref fa) := by
      have e : (HandSHeadRun.topDef K80.Rw.prog 42).name = ("law" : PySem.Str) := by kernel_rfl
      rw [← e]
      exact hmg0
    exact ⟨K, KX, K80.facts KX G hmg c⟩
