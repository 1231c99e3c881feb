import PyProof.Rows.All
import Wide.All
import OpenK.AllK
import Wide.FinOn
import HandS.ForMost
import HandS.Exc
import HandS.TryOnly
import HandS.ExcOwn
import HandS.ExcIs
import HandS.ExcValue
import HandS.WordsExc
import HandS.Lambda
import HandS.IsInst
import HandS.Evl
import HandS.Deep
import HandS.Wide
import HandS.Star
import HandS.RaiseMore
import HandS.Defaults
import HandS.Conv
import HandS.HeadHook4
import HandS.HeadWalk
import HandS.NestedK
import HandS.TupSets
import HandS.Steps
import HandS.TupLe
import HandS.Style
import HandS.SetFor
import HandS.Strs
import PyProof.FactsAll.dict
import HandS.TupAny
import HandS.TupMul
import HandS.SortInts
import HandS.Head0
import HandS.Head1
import HandS.Head2
import HandS.HeadEnd
import HandS.HeadHook1
import HandS.HeadHook2
import KE.KStateDown
import HandS.Iter
import KE.GoesEnum
import HandS.Text
import PySem.Challenge.RW_housekept_k77_buildings_judged
set_option Elab.async false
set_option linter.all false
set_option maxRecDepth 100000
set_option maxHeartbeats 8000000
namespace Mk
open PySem PySem.Spec PyProof.Rows L2
/-- of a class of exceptions -/
def excB (K : PySem.W.Frag) (x : Str) : Bool :=
  He.eqO (PySem.W.findIn K (.ref (He.ga K x)) "__getattribute__") (some (some (.builtin "BaseException.__getattribute__"))) && (He.eqO (PySem.W.findIn K (.ref (He.ga K x)) "__getattr__") (some none) &&
  (decide (PySem.W.subIn K (.ref (He.ga K x)) (.type "BaseException") = some true) && (PySem.W.hasDictIn K (He.ga K x) && (He.eqO (PySem.W.findIn K (.ref (He.ga K x)) "__class__") (some (some (.builtin "object.__class__"))) &&
  (He.eqO (PySem.W.specialIn K (.builtin "object.__class__") "__get__") (some (some (.builtin "getset_descriptor.__get__"))) && (decide (PySem.W.takesIn K (.builtin "object.__class__") = some true) &&
  decide (PySem.W.mroIn K (He.ga K x) (.type "object") = some true)))))))
def kitX (K : PySem.W.Frag) (x y : Str) (b : Bool) : Bool := decide (PySem.W.kitOne K (.ref (He.ga K x)) (.ref (He.ga K y)) = some b)
def kitN (K : PySem.W.Frag) (y : Str) : Bool := decide (PySem.W.kitOne K (.type "NoneType") (.ref (He.ga K y)) = some false)
def exmX (K : PySem.W.Frag) (x y : Str) (b : Bool) : Bool := decide (PySem.W.exmOne K (.ref (He.ga K x)) (.ref (He.ga K y)) = some b)
end Mk
namespace K77
open PySem PySem.Spec PyProof.Rows L2 Mk
def top (i : Nat) : Stmt := PySem.Challenge.pw_housekept_k77_buildings_judged.main.body.getD i (.Pass ⟨0, 0, 0, 0⟩)
abbrev s__law_begun : Stmt := top 28
abbrev s__law_mixed : Stmt := top 29
abbrev s__law_draw : Stmt := top 30
abbrev s__law_pick : Stmt := top 31
abbrev s__law_letters : Stmt := top 34
abbrev s__law_new : Stmt := top 35
abbrev s__law_names : Stmt := top 36
abbrev s__law_house : Stmt := top 37
abbrev s__law_bent : Stmt := top 42
abbrev s_is_name : Stmt := top 9
abbrev s_names_fault : Stmt := top 10
abbrev s_door_fault : Stmt := top 11
abbrev s_doors_fault : Stmt := top 12
abbrev s_is_whole : Stmt := top 8
abbrev s_right_fault : Stmt := top 13
abbrev s_rights_fault : Stmt := top 14
abbrev s_fault_of : Stmt := top 15
abbrev s_is_building : Stmt := top 16
abbrev s__law_caught : Stmt := top 33
abbrev s_need_building : Stmt := top 17
abbrev s_need_door : Stmt := top 18
abbrev s_need_side : Stmt := top 19
abbrev s_door_named : Stmt := top 20
abbrev s_area_at : Stmt := top 21
abbrev s__law_sides_right : Stmt := top 44
abbrev s__law_tells : Stmt := top 32
abbrev s__law_is_named : Stmt := top 38
abbrev s__law_are_named : Stmt := top 39
abbrev s__law_is_doored : Stmt := top 40
abbrev s__law_is_housed : Stmt := top 41
abbrev s_need_free : Stmt := top 23
abbrev s_steps : Stmt := top 24
abbrev s_come_to : Stmt := top 25
abbrev s_joined : Stmt := top 26
abbrev s__law_refused_right : Stmt := top 43
abbrev s_law : Stmt := top 45
abbrev k_LETTERS : PyData := .str "abcdefghijklmnopqrstuvwxyz"
def dd (x : Str) (st : Stmt) : He.DefD := ⟨(x, none), x, x, defArgs st, defBody st, defScope st, [], []⟩
def fnL : List He.DefD := [dd "_law_begun" s__law_begun, dd "_law_mixed" s__law_mixed, dd "_law_draw" s__law_draw, dd "_law_pick" s__law_pick, dd "_law_letters" s__law_letters, dd "_law_new" s__law_new, dd "_law_names" s__law_names, dd "_law_house" s__law_house, dd "_law_bent" s__law_bent, dd "is_name" s_is_name, dd "names_fault" s_names_fault, dd "door_fault" s_door_fault, dd "doors_fault" s_doors_fault, dd "is_whole" s_is_whole, dd "right_fault" s_right_fault, dd "rights_fault" s_rights_fault, dd "fault_of" s_fault_of, dd "is_building" s_is_building, dd "_law_caught" s__law_caught, dd "need_building" s_need_building, dd "need_door" s_need_door, dd "need_side" s_need_side, dd "door_named" s_door_named, dd "area_at" s_area_at, dd "_law_sides_right" s__law_sides_right, dd "_law_tells" s__law_tells, dd "_law_is_named" s__law_is_named, dd "_law_are_named" s__law_are_named, dd "_law_is_doored" s__law_is_doored, dd "_law_is_housed" s__law_is_housed, dd "need_free" s_need_free, dd "steps" s_steps, dd "come_to" s_come_to, dd "joined" s_joined, dd "_law_refused_right" s__law_refused_right, dd "law" s_law]
def faL : List He.Fa := [.glo "_law_begun", .glo "_law_mixed", .glo "_law_draw", .glo "_law_pick", .glo "_law_letters", .glo "_law_new", .glo "_law_names", .glo "_law_house", .glo "_law_bent", .glo "is_name", .glo "names_fault", .glo "door_fault", .glo "doors_fault", .glo "is_whole", .glo "right_fault", .glo "rights_fault", .glo "fault_of", .glo "is_building", .glo "_law_caught", .glo "need_building", .glo "need_door", .glo "need_side", .glo "door_named", .glo "area_at", .glo "_law_sides_right", .glo "_law_tells", .glo "_law_is_named", .glo "_law_are_named", .glo "_law_is_doored", .glo "_law_is_housed", .glo "need_free", .glo "steps", .glo "come_to", .glo "joined", .glo "_law_refused_right", .glo "law", .glo "KeptError", .glo "BadBuilding", .glo "BadDoor", .glo "BadDoors", .glo "BadSide", .str "LETTERS" "abcdefghijklmnopqrstuvwxyz", .free "abs", .free "all", .free "any", .free "bool", .free "enumerate", .free "int", .free "isinstance", .free "len", .free "list", .free "min", .free "range", .free "set", .free "sorted", .free "str", .free "tuple", .exc "BadBuilding", .exc "BadDoor", .exc "BadDoors", .exc "BadSide"]
def tfL : List He.Defn := [("_law_sides_right", none), ("_law_refused_right", none)]
def tT (K : PySem.W.Frag) : List (Addr × Str) := [(He.tabOf K (He.codeOf K ("_law_sides_right", none)), "_law_sides_right.<locals>.<lambda>"), (He.tabOf K (He.codeOf K ("_law_refused_right", none)), "_law_refused_right.<locals>.<lambda>")]
def exL (K : PySem.W.Frag) : Bool := excB K "BadBuilding" && (exmX K "BadBuilding" "KeptError" true && (kitX K "BadBuilding" "BadBuilding" true && (kitX K "BadBuilding" "BadDoor" false && (kitX K "BadBuilding" "BadSide" false && (excB K "BadDoor" && (exmX K "BadDoor" "KeptError" true && (kitX K "BadDoor" "BadBuilding" false && (kitX K "BadDoor" "BadDoor" true && (kitX K "BadDoor" "BadSide" false && (excB K "BadDoors" && (exmX K "BadDoors" "KeptError" true && (kitX K "BadDoors" "BadBuilding" false && (kitX K "BadDoors" "BadDoor" false && (kitX K "BadDoors" "BadSide" false && (excB K "BadSide" && (exmX K "BadSide" "KeptError" true && (kitX K "BadSide" "BadBuilding" false && (kitX K "BadSide" "BadDoor" false && (kitX K "BadSide" "BadSide" true && (kitN K "BadBuilding" && (kitN K "BadDoor" && (kitN K "BadSide" && (decide (((tT K).map (·.1)).Nodup))))))))))))))))))))))))
abbrev Lw : PySem.W.OpenLaw := PySem.Challenge.rw_housekept_k77_buildings_judged
abbrev Rw : PySem.W.OpenRow := PySem.W.OpenLaw.row Lw
abbrev hkL : PySem.W.Hook := He.hookX 5 faL fnL [] tfL exL
def obL (s : PySem.W.SharedT) : He.AlX := He.obsX 5 faL fnL [] tfL exL (HandSHeadRun.getT s)
theorem obL_eq (s : PySem.W.SharedT) : obL s = hkL.obs s.abs := He.obsX_eq (HandSHeadRun.getT_eq s)
def looseL : List Str := (["KeptError", "BadBuilding", "BadDoor", "BadDoors", "BadSide", "LETTERS", "is_whole", "is_name", "names_fault", "door_fault", "doors_fault", "right_fault"] : List Str) ++ (["rights_fault", "fault_of", "is_building", "need_building", "need_door", "need_side", "door_named", "area_at", "need_free", "steps", "come_to", "joined"] : List Str) ++ (["_law_begun", "_law_mixed", "_law_draw", "_law_pick", "_law_tells", "_law_caught", "_law_letters", "_law_new", "_law_names", "_law_house", "_law_is_named", "_law_are_named"] : List Str) ++ (["_law_is_doored", "_law_is_housed", "_law_bent", "_law_refused_right", "_law_sides_right"] : List Str)
theorem run (w : World) : HandSHeadRun.RunEq Rw (PySem.W.view Rw.prog [45]) hkL obL 4000 looseL w := by
  intro os
  kernel_rfl
end K77

/-! part LkExc -/
/-! Lk, part 1: what the laws' texts want beyond the hand layer: calls by keywords alone, an exception caught and kept, isinstance of it, a def that calls a lambda and hands back what it raised. -/
namespace Lk
open PySem PySem.Spec PyProof.Rows L2
section
variable {X : Cx} {CX : CXT} {k : Nat} {f : Addr} {fd : FuncData} {ps ks : List Str} {sp : Sp} {E : XK} {x : Str} {p pos : Pos} {kws : List Keyword} {tk : TA}
  {g : List Value → List Value → List Value} {gV : List V → List V → List V}
/-- f(k = v, ..), nothing by position -/
theorem pe_kwOnly (F : FnOk X.prog X.w X.K X.mg X.base CX k f fd ps sp) (hr : Room k X.A) (hg : Gl X x) (hm : X.mg x = some (.ref f)) (hk : PySem.W.keepIn X.K (.ref f) = true)
    (hb : KBinds X.K fd ps ks g gV) (hx : Passes CX X E) (hkw : PK X kws tk)
    (hall : (backToKw pos (keywordEach kws X.env)).all (·.1.isSome) = true := by rfl)
    (hks : (backToKw pos (keywordEach kws X.env)).filterMap (·.1) = ks := by rfl)
    (hdb : (x == ("__debug__" : Str)) = false := by decide)
    (hpl : ((backTo pos (starEach [] X.env)).any (·.1) || (backToKw pos (keywordEach kws X.env)).any (·.1.isNone)) = false := by rfl) :
    PE X (.Call (.Name x p) [] kws pos) (tCallK sp gV E tNil tk) := by
  constructor
  intro pins s σ H Q I h
  apply wpAny_Call_Name_kw
  apply ld_glob I hg hm _ hdb
  apply PySem.W.callWith_KW0 (h₀ := X.base) I.ok.mod.kin hk hall _ hpl
  apply thn (hkw.run pos pins s σ H _ I h)
  rintro ws s2 ⟨zs, H2, I2, rz, q2⟩
  constructor
  · exact I2.kIn
  · rw [hks]
    exact run_fnk (us := []) (vs := []) F hr hb hx I2 .nil rz q2
end
/-- an exception that was caught, its class, its own dict -/
def ExV (cls : Value) (d : Option Addr) (a : Addr) : HO :=
  .ext fun h => ∃ (oe : Obj) (vs : Array Value), h.get? a = some oe ∧ Zc cls d oe ∧ oe.data = .fields vs
theorem exv_ok {P : Program} {w : World} {H : Hp} {h : Heap} {a : Addr} {cls : Value} {d : Option Addr} {oe : Obj} {vs : Array Value}
    (e : h.get? a = some oe) (z : Zc cls d oe) (dt : oe.data = .fields vs) : ObjOk P w H h a (ExV cls d a) := by
  refine ⟨⟨oe, vs, e, z, dt⟩, ⟨oe, e⟩, ?_⟩
  rintro h1 h2 ⟨o, v, q, r1, r2⟩ kp
  exact ⟨o, v, kp o q, r1, r2⟩
section
variable {X : Cx} {pins : List (Addr × Obj)} {σ : L2.St} {H : Hp} {s : Shared}
/-- an object of ours that nobody tracks, new since the entry, is tracked from now on -/
theorem inv_track {a : Addr} {oe : Obj} {vs : Array Value} {cls : Value} {d : Option Addr} (I : Inv X ((a, oe) :: pins) σ H s)
    (n0 : X.s_0.heap.get? a = none) (np : ∀ p ∈ X.pn ++ pins, p.1 ≠ a) (dt : oe.data = .fields vs) (z : Zc cls d oe) :
    Inv X pins σ (upd H a (ExV cls d a)) s := by
  obtain ⟨ha, na, nL, nF, _⟩ := I.pin (a, oe) (List.mem_append_right _ List.mem_cons_self)
  have ne0 : ∀ b o, X.s_0.heap.get? b = some o → b ≠ a := by
    intro b o e q
    rw [q, n0] at e
    cases e
  have neS : ∀ b u, H b = some u → b ≠ a := by
    intro b u e q
    rw [q, na] at e
    cases e
  have neC : ∀ y c, X.env.cells.lookup y = some c → c ≠ a := by
    intro y c e q
    obtain ⟨v, o, ho, hd⟩ := I.cell y c e
    rw [q, ha] at ho
    cases ho
    rw [dt] at hd
    cases hd
  have ok : HOk X.prog X.w (upd H a (ExV cls d a)) s.heap := I.hok.laidN (fun _ _ q => q) na (exv_ok ha z dt)
  constructor
  · exact I.ok
  · exact I.os
  · exact I.bare
  · constructor
    · exact I.base.keep
    · exact I.base.slot
    · intro b o e n hx
      rw [upd_ne (ne0 b o e)]
      exact I.base.free b o e n hx
    · exact I.base.there
    · intro b xs e
      have q := I.base.tups b xs e
      rw [upd_ne (neS b _ q)]
      exact q
    · intro b o u e
      have q := I.base.frzs b o u e
      rw [upd_ne (neS b _ q)]
      exact q
    · intro b ps e
      obtain ⟨m, q⟩ := I.base.tbls b ps e
      exact ⟨m, by rw [upd_ne (neS b _ q)]; exact q⟩
  · exact I.loc
  · exact I.cell
  · rw [upd_ne (Ne.symm nL)]
    exact I.free
  · intro y c e
    rw [upd_ne (neC y c e)]
    exact I.freeC y c e
  · intro p hp
    obtain ⟨e, n, ne, nf, dd⟩ := I.pin p (by
      rcases List.mem_append.mp hp with q | q
      · exact List.mem_append_left _ q
      · exact List.mem_append_right _ (List.mem_cons_of_mem _ q))
    exact ⟨e, by rw [upd_ne (np p hp)]; exact n, ne, nf, dd⟩
  · exact ok
  · exact I.len
theorem unsuite_pin {a : Addr} {oe : Obj} {pn' : List (Addr × Obj)} (I : Inv (X.suite a ((a, oe) :: (X.pn ++ pins))) pn' σ H s) (ok : X.Ok) : Inv X ((a, oe) :: pins) σ H s := by
  refine ⟨ok, I.os, I.bare, I.base, I.loc, I.cell, I.free, I.freeC, ?_, I.hok, I.len⟩
  intro p hp
  apply I.pin p
  apply List.mem_append_left
  show p ∈ (a, oe) :: (X.pn ++ pins)
  rcases List.mem_append.mp hp with q | q
  · exact List.mem_cons_of_mem _ (List.mem_append_left _ q)
  · rcases List.mem_cons.mp q with q | q
    · rw [q]
      exact List.mem_cons_self
    · exact List.mem_cons_of_mem _ (List.mem_append_right _ q)
end
/-- what «except x as n: y = n» wishes of an exception of the body: slot i is n's, slot j is y's -/
def wKeep (K : PySem.W.Frag) (c : Value) (i j : Nat) (Wout : WX) (D : Ends) : WX := fun cls d σ H =>
  ∃ b, PySem.W.exmOne K cls c = some b ∧
    (b = true → ∀ a, H a = none → D.nx (((σ.set i (some (.ref a))).set j (some (.ref a))).set i none) (upd H a (ExV cls d a))) ∧ (b = false → Wout cls d σ H)
section
variable {X : Cx} {x n y : Str} {c : Value} {i j : Nat} {body : List Stmt} {np pos pos' yp vp sp : Pos} {tb : WX → TS} {Wout : WX}
/-- try: body / except x as n: y = n -/
theorem ps_try_keep (hs : X.stack = X.env :: X.outer) (hf : X.env.frame = some X.env.locals) (hex : X.ex = []) (hN : X.N.Nodup) (hi : X.N[i]? = some n) (hln : X.env.kindOf n = some .local)
    (hj : X.N[j]? = some y) (hy : X.env.scope.names.lookup y = some .local) (hc : Names X x c) (tk : Takes X Wout)
    (hb : ∀ (W : WX) (pn : List (Addr × Obj)) (xe : Value → Shared → Prop), Takes (X.tr pn xe) W → PassesOwn (model X.prog X.w) X.A X.env xe → PSs (X.tr pn xe) body (tb W))
    (hdb : (n == ("__debug__" : Str)) = false := by decide) (hcd : (n == ("__classdict__" : Str)) = false := by decide) :
    PS X (.Try body [.ExceptHandler (some (.Name x np)) (some n) [.Assign [.Name y yp] (.Name n vp) sp] pos'] [] [] pos) (fun D σ H => tb (wKeep X.K c i j Wout D) D σ H) := by
  constructor
  intro pins s σ H D I h
  have ok := I.ok
  have hfr : X.A.frames = some (X.env :: X.outer) := by rw [ok.frames, hs]
  have hloc : Loc X.env.scope n := .inl hln
  refine wpAny_Try_except ?_
  refine wpAny_mono ((hb (wKeep X.K c i j Wout D) (X.pn ++ pins) (fun e s₁ => wpAny (model X.prog X.w) X.A (noteFrame e X.env) (fun _ s₂ => wpAny (model X.prog X.w) X.A (setFlight e none)
    (fun _ s₃ => wpAny (model X.prog X.w) X.A (handleBy e X.env [.ExceptHandler (some (.Name x np)) (some n) [.Assign [.Name y yp] (.Name n vp) sp] pos']) (SP X pins D) X.xe s₃) X.xe s₂) X.xe s₁)
    ?takes PassesOwn.looking).run [] s σ H D (I.toTry _) h) ?ends (fun e s1 he => he)
  case takes =>
    rintro u s' ⟨a, B, sI, pins', σ', H', cls, d, rfl, J', nb, up, sky, na, os, ag, b, hb1, hyes, hno⟩
    have J : Inv X pins σ' H' sI := J'.ofTry ok
    have sky' : Sky B (X.env :: X.outer) a (Zc cls d) X.env.locals s'.heap := by rw [← hs]; exact sky
    show wpAny (model X.prog X.w) X.A (noteFrame (.ref a) X.env) _ _ _
    refine Sky.land Zc.steady hfr hf sky' fun h3 fl3 up3 => ?_
    have J3 : Inv X pins σ' H' { s' with heap := h3 } := J.landed nb fl3.1 (up.trans up3) os ag
    obtain ⟨oe3, vs3, he3, hz3, hd3⟩ := fl3.there
    have nfr : a ∉ frs (X.env :: X.outer) := by
      intro hm
      obtain ⟨_, o', e', hnf⟩ := fl3.2.2.1.mem hm
      rw [he3] at e'
      cases e'
      exact hnf _ hd3
    have nL : a ≠ X.env.locals := by
      intro z
      apply nfr
      exact List.mem_filterMap.mpr ⟨X.env, List.mem_cons_self, by rw [hf, z]⟩
    have nF : a ∉ X.fs := by
      intro hm
      obtain ⟨e, he, q⟩ := List.mem_filterMap.mp hm
      exact nfr (List.mem_filterMap.mpr ⟨e, List.mem_cons_of_mem _ he, q⟩)
    -- it did not stand at the entry
    have nI : sI.heap.get? a = none := by
      cases q : sI.heap.get? a with
      | none => rfl
      | some o =>
        have z := nb a o q (by rw [hs]; exact nfr)
        rw [fl3.2.1] at z
        cases z
    have n0 : X.s_0.heap.get? a = none := by
      cases q : X.s_0.heap.get? a with
      | none => rfl
      | some o =>
        obtain ⟨o', z⟩ := J.base.there a o q (by rw [hex]; exact fun z => nomatch z)
        rw [nI] at z
        cases z
    have npn : ∀ p ∈ X.pn ++ pins, p.1 ≠ a := by
      intro p hp z
      obtain ⟨e, _⟩ := J.pin p hp
      rw [z, nI] at e
      cases e
    have S3 := J3.suite he3 hd3 na nL nF
    refine wpAny_handleBy_cons (codeAny_handlers_test ?_) (by intro q; cases q)
    have LT : PySem.W.Looks (model X.prog X.w) h3 (typeOf (.ref a)) cls := fun A Q E s k q => wpAny_typeOf_ref (k _ _ he3) (by rw [hz3.1]; exact q)
    have LM := PySem.W.exm_one (M := model X.prog X.w) (J3.kIn) LT hb1
    have test : ∀ {Q : Value → Shared → Prop} {E : Value → Shared → Prop}, Q c { s' with heap := h3 } →
        wpAny (model X.prog X.w) (X.A.mark (some (.ref a))) (eval (.Name x np) X.env) Q E { s' with heap := h3 } := by
      intro Q E q
      obtain ⟨hg, hdbg, hm | ⟨hm, hv, hnn⟩⟩ := hc
      · exact ld_glob (X := X.suite a ((a, oe3) :: (X.pn ++ pins))) S3 hg hm q hdbg
      · exact ld_blt (X := X.suite a ((a, oe3) :: (X.pn ++ pins))) S3 hg hm hv q hnn hdbg
    refine test (LM.here ?_)
    cases b with
    | true =>
      refine codeAny_handlers_suite_as ?_
      refine HandSPX.lands_againZ fl3 fun h4 fl4 up4 => ?_
      have J4 : Inv X pins σ' H' { s' with heap := h4 } := J.landed nb fl4.1 ((up.trans up3).trans up4) os ag
      obtain ⟨oe4, vs4, he4, hz4, hd4⟩ := fl4.there
      have S4 := J4.suite he4 hd4 na nL nF
      have hlen : i < σ'.length := by
        rw [J4.len]
        exact (List.getElem?_eq_some_iff.mp hi).1
      refine store_ok (X := X.suite a ((a, oe4) :: (X.pn ++ pins))) (v := .ref a) S4 hN hi hloc rfl (fun s5 S5 => ?_) (.inr hln)
      have hst : PSs (X.suite a ((a, oe4) :: (X.pn ++ pins))) [.Assign [.Name y yp] (.Name n vp) sp] (tAsg (tVar i) (gName j)) :=
        pss_one (ps_asg (pe_var hi (.inl hln) hdb hcd) (pg_name hN hj (.inl hy) (.inr hy)))
      refine wpAny_mono (hst.run [] s5 _ H' { nx := fun σ6 H6 => σ6 = (σ'.set i (some (.ref a))).set j (some (.ref a)) ∧ H6 = H', rt := fun _ _ => False } S5 ⟨.ref a, List.getElem?_set_self hlen, rfl, rfl⟩)
        (fun f s6 hsp => ?_) (fun _ _ z => False.elim z)
      cases f with
      | next =>
        obtain ⟨σ6, H6, S6, e6, eH⟩ := hsp
        subst e6 eH
        refine gone_ok (unsuite_pin (pins := pins) S6 ok) hN hi hln fun s7 J7 => ?_
        exact ⟨_, _, inv_track J7 n0 npn hd4 hz4, hyes rfl a na⟩
      | brk =>
        obtain ⟨σ6, H6, S6, q6⟩ := hsp
        exact False.elim q6
      | cont =>
        obtain ⟨σ6, H6, S6, q6⟩ := hsp
        exact False.elim q6
      | ret u =>
        obtain ⟨v6, σ6, H6, S6, r6, q6⟩ := hsp
        exact False.elim q6
    | false =>
      show wpAny _ X.A (handleBy (.ref a) X.env []) _ _ _
      refine wpAny_handleBy_nil ?_
      obtain ⟨k1, k2, k3, oe, vs, T, oT, ts', he, hz, hd, h1, hr⟩ := id fl3
      unfold PySem.passOn
      refine wpAny_bind (wpAny_field he hd h1 ?_)
      rw [if_neg (show ¬ ((Value.ref T == Value.none) = true) from by simp)]
      have fin : wpAny (model X.prog X.w) X.A (setFlight (.ref a) X.env.frame) (fun _ s4 => wpAny (model X.prog X.w) X.A (throw (.ref a) : Sem Flow) (SP X pins D) X.xe s4) X.xe { s' with heap := h3 } := by
        rw [hf]
        refine HandSPX.setFlight_upZ fl3 fun h4 hh4 up4 => wpAny_throw (tk _ _ ?_)
        exact ⟨a, B, sI, pins, σ', H', cls, d, rfl, J, nb, (up.trans up3).trans up4, .inr (.inr (by rw [hs]; exact hh4)), na, os, ag, hno rfl⟩
      first
        | exact wpAny_bind (wpAny_pure (wpAny_bind fin))
        | exact wpAny_bind fin
  case ends =>
    intro f s1 hsp
    cases f with
    | next =>
      obtain ⟨σ', H', J', q⟩ := hsp
      exact wpAny_execs_nil ⟨σ', H', J'.ofTry ok, q⟩
    | brk =>
      obtain ⟨σ', H', J', q⟩ := hsp
      exact ⟨σ', H', J'.ofTry ok, q⟩
    | cont =>
      obtain ⟨σ', H', J', q⟩ := hsp
      exact ⟨σ', H', J'.ofTry ok, q⟩
    | ret u =>
      obtain ⟨v, σ', H', J', r, q⟩ := hsp
      exact ⟨v, σ', H', J'.ofTry ok, r, q⟩
end
end Lk

/-! part LkCaught -/
namespace Lk
open PySem PySem.Spec PyProof.Rows L2 LamX
/-- isinstance(e, C), e an exception that was kept -/
def rIsEV (K : PySem.W.Frag) : List V → Hp → VK → Prop := fun xs H Q =>
  ∃ (a D : Addr) (c : V) (cv : Value) (b : Bool), xs = [.ref a, c] ∧ H a = some (ExV (.ref D) none a) ∧ ExcC K D ∧ ClsV c cv ∧ PySem.W.kitOne K (.ref D) cv = some b ∧ Q (.bl b) H
theorem call_isEV {X : Cx} : CallR X (.builtin "isinstance") (rIsEV X.K) := by
  intro pins s σ H xs us Q I r h
  obtain ⟨a, D, c, cv, b, rfl, ha, C, hc, e, q⟩ := h
  obtain ⟨u1, u2, rfl, r1, r2⟩ := vals2 r
  cases r1
  have ec := hc.eq r2
  subst ec
  obtain ⟨⟨⟨oc, od, oda, osl⟩, vs, ho, ⟨z1, z2⟩, hd⟩, _, _⟩ := I.hok a _ ha
  dsimp only at z1 z2 hd
  subst z1 z2 hd
  have J : PySem.W.InstAt s.heap a ⟨.ref D, none, .fields vs, osl⟩ D none := ⟨ho, rfl, rfl, trivial⟩
  refine PySem.W.kia_one (PySem.W.handS_kitx_exc C.hg C.hk C.hs C.hd C.ha C.hn C.ht C.hm) I.kIn J e (fun z => nomatch z) ?_
  intro tk
  exact ⟨.bl b, H, I.kept (t' := tk) fun _ _ z => z, rfl, q⟩
/-- what a def «found = None; try: a(); except CS as e: found = e; return found» makes of the lambda's reading -/
def TCaught (K : PySem.W.Frag) (CS : Addr) : (XK → Hp → VK → Prop) → Hp → VK → Prop := fun tl H Q =>
  tl (fun cls d H' => ∃ b, PySem.W.exmOne K cls (.ref CS) = some b ∧ (b = true → ∀ a, H' a = none → Q (.ref a) (upd H' a (ExV cls d a))) ∧ (b = false → False)) H fun _ H1 => Q .non H1
section
variable {X : Cx}
theorem caught_gives {Ng : List Str} {x a e n y q : Str} {sg : Scope} {g CS : Addr} {cdg : Value} {j : Nat} {p1 p2 p3 p4 p5 p6 p7 p8 p9 q1 q2 q3 q4 q5 : Pos}
    (hNg : Ng = [a, y, n]) (hnd : Ng.Nodup)
    (hge : sg.names.lookup e = some .globalImplicit) (hme : X.mg e = some (.ref CS)) (hde : (e == ("__debug__" : Str)) = false)
    (hy : sg.names.lookup y = some .local) (hn : sg.names.lookup n = some .local)
    (hdb : (n == ("__debug__" : Str)) = false) (hcd : (n == ("__classdict__" : Str)) = false)
    (hdb2 : (y == ("__debug__" : Str)) = false) (hcd2 : (y == ("__classdict__" : Str)) = false) :
    GivesTo X Ng x sg g cdg [.Assign [.Name y q1] (.Constant .none j q2) q3,
      .Try [.Expr (.Call (.Name a p1) [] [] p2) p3] [.ExceptHandler (some (.Name e p4)) (some n) [.Assign [.Name y p5] (.Name n p6) p7] p8] [] [] p9,
      .Return (some (.Name y q4)) q5] a q (TCaught X.K CS) := by
  intro f c' s H Q tl act hc h
  have hgl : Gl (cxOf C8.CX0 X.prog X.w X.K X.mg X.base Ng x sg g cdg X.A X.stack s H C8.E0).nox e := hge
  subst hNg
  refine ⟨_, pss_cons (ps_set (i := 1) hnd rfl (.inl hy) pe_non)
    (pss_cons (ps_try_keep (X := (cxOf C8.CX0 X.prog X.w X.K X.mg X.base [a, y, n] x sg g cdg X.A X.stack s H C8.E0).nox) (c := .ref CS) (i := 2) (j := 1)
      (tb := fun W D σ H => ∃ Ech : XK, (∀ cls d σ' H', σ'.length = 3 → Ech cls d H' → W cls d σ' H') ∧ σ[0]? = some (some (.ref f)) ∧ H c' = some (CodeO c' q) ∧ tl Ech H fun _ H1 => D.nx σ H1)
      rfl rfl rfl hnd rfl hn rfl hy ⟨hgl, hde, .inl hme⟩ L2.takes0 ?_ hdb hcd)
    (pss_one (ps_ret (pe_var (i := 1) rfl (.inl hy) hdb2 hcd2)))), ?_⟩
  · intro W pn xe tk _
    have tk' : Takes ((cxOf C8.CX0 X.prog X.w X.K X.mg X.base [a, y, n] x sg g cdg X.A X.stack s H C8.E0).tr pn xe) (fun cls d σ' H' => σ'.length = 3 → W cls d σ' H') := by
      rintro u s' ⟨a', B, sI, pins', σ', H', cls, d, eu, J', nb, up, sky, na, os, ag, w⟩
      exact tk u s' ⟨a', B, sI, pins', σ', H', cls, d, eu, J', nb, up, sky, na, os, ag, w J'.len⟩
    constructor
    intro pins s' σ H' D I h'
    obtain ⟨Ech, hW, h1, h2, h3⟩ := h'
    have hp := act (fun cls d σ' H' => σ'.length = 3 → W cls d σ' H') pn xe Ech p1 p2 tk' (fun cls d σ' H' e hl => hW cls d σ' H' hl e)
    exact (pss_one (ps_expr (pos := p3) hp)).run pins s' σ H' D I ⟨h1, h2, h3⟩
  · refine ⟨fun cls d H' => ∃ b, PySem.W.exmOne X.K cls (.ref CS) = some b ∧ (b = true → ∀ a, H' a = none → Q (.ref a) (upd H' a (ExV cls d a))) ∧ (b = false → False), ?_, rfl, hc, ?_⟩
    · rintro cls d σ' H' hl ⟨b, e1, e2, e3⟩
      refine ⟨b, e1, fun hb a' ha' => ⟨.ref a', ?_, e2 hb a' ha'⟩, fun hb => e3 hb⟩
      match σ', hl with
      | [_, _, _], _ => rfl
    · have e : (fun (_ : V) (H1 : Hp) => Q .non H1) = fun _ H1 => tRet (tVar 1) { nx := fun _ H' => Q .non H', rt := Q } ((L2.start [a, y, n] [V.ref f]).set 1 (some V.non)) H1 := by
        funext _ H1
        apply propext
        constructor
        · intro q
          exact ⟨.non, rfl, q⟩
        · rintro ⟨v, e, q⟩
          have e' : some (some V.non) = some (some v) := e
          cases e'
          exact q
      have h' : tl (fun cls d H' => ∃ b, PySem.W.exmOne X.K cls (.ref CS) = some b ∧ (b = true → ∀ a, H' a = none → Q (.ref a) (upd H' a (ExV cls d a))) ∧ (b = false → False)) H fun _ H1 => Q .non H1 := h
      rw [e] at h'
      exact h'
end
end Lk

/-! part LkVal -/
/-! Lk, part 3: what a reading evaluates to, told by data (PyData) in place of addresses. -/
namespace Lk
open PySem PySem.Spec PyProof.Rows L2 Evl
/-! ### data: the layer's, and the empty dict -/
mutual
inductive Dq (K : PySem.W.Frag) (H : Hp) : V → PyData → Prop
  | non : Dq K H .non .none
  | bl (b : Bool) : Dq K H (.bl b) (.bool b)
  | int (i : Int) : Dq K H (.int i) (.int i)
  | str (x : Str) : Dq K H (.str x) (.str x)
  | lst {a : Addr} {xs : List V} {ds : List PyData} : SqL K H a xs → DqAll K H xs ds → Dq K H (.ref a) (.list ds)
  | tup {a : Addr} {xs : List V} {ds : List PyData} : SqT K H a xs → DqAll K H xs ds → Dq K H (.ref a) (.tuple ds)
  | dct {a : Addr} : H a = some (.dK []) → Dq K H (.ref a) (.dict [])
inductive DqAll (K : PySem.W.Frag) (H : Hp) : List V → List PyData → Prop
  | nil : DqAll K H [] []
  | cons {v : V} {vs : List V} {d : PyData} {ds : List PyData} : Dq K H v d → DqAll K H vs ds → DqAll K H (v :: vs) (d :: ds)
end
/-! ### data in a heap that grows -/
mutual
theorem dp_ex {K : PySem.W.Frag} {H H' : Hp} (e : Ex H H') : ∀ (d : PyData) (v : V), Dq K H v d → Dq K H' v d
  | _, _, .non => .non
  | _, _, .bl b => .bl b
  | _, _, .int i => .int i
  | _, _, .str x => .str x
  | _, _, .lst s a => .lst (ex_l e s) (dps_ex e _ _ a)
  | _, _, .tup s a => .tup (ex_t e s) (dps_ex e _ _ a)
  | _, _, .dct h => .dct (e _ _ h)
theorem dps_ex {K : PySem.W.Frag} {H H' : Hp} (e : Ex H H') : ∀ (ds : List PyData) (vs : List V), DqAll K H vs ds → DqAll K H' vs ds
  | _, _, .nil => .nil
  | _, _, .cons h r => .cons (dp_ex e _ _ h) (dps_ex e _ _ r)
end
section
variable {K : PySem.W.Frag} {H H' : Hp} {v : V} {vs : List V} {d : PyData} {ds : List PyData}
theorem dp_none (h : Dq K H v .none) : v = .non := by cases h; rfl
theorem dp_bool {b : Bool} (h : Dq K H v (.bool b)) : v = .bl b := by cases h; rfl
theorem dp_int {i : Int} (h : Dq K H v (.int i)) : v = .int i := by cases h; rfl
theorem dp_str {x : Str} (h : Dq K H v (.str x)) : v = .str x := by cases h; rfl
theorem dp_tup (h : Dq K H v (.tuple ds)) : ∃ a xs, v = .ref a ∧ SqT K H a xs ∧ DqAll K H xs ds := by
  cases h with
  | tup s a => exact ⟨_, _, rfl, s, a⟩
theorem dp_lst (h : Dq K H v (.list ds)) : ∃ a xs, v = .ref a ∧ SqL K H a xs ∧ DqAll K H xs ds := by
  cases h with
  | lst s a => exact ⟨_, _, rfl, s, a⟩
theorem dps_len : ∀ {vs : List V} {ds : List PyData}, DqAll K H vs ds → vs.length = ds.length
  | [], _, .nil => rfl
  | _ :: _, _, .cons _ r => congrArg Nat.succ (dps_len r)
theorem dps_at : ∀ {vs : List V} {ds : List PyData} {i : Nat} {d : PyData}, DqAll K H vs ds → ds[i]? = some d → ∃ v, vs[i]? = some v ∧ Dq K H v d
  | _, _, _, _, .nil, e => by simp at e
  | _, _, 0, _, .cons h _, e => by
    have e' := Option.some.inj e
    subst e'
    exact ⟨_, rfl, h⟩
  | _, _, i + 1, d, .cons _ r, e => dps_at (i := i) (d := d) r e
theorem dps_ints : ∀ (ns : List Int), DqAll K H (ns.map V.int) (ns.map PyData.int)
  | [] => .nil
  | n :: ns => .cons (.int n) (dps_ints ns)
theorem dps_app : ∀ {xs ys : List V} {ds es : List PyData}, DqAll K H xs ds → DqAll K H ys es → DqAll K H (xs ++ ys) (ds ++ es)
  | _, _, _, _, .nil, b => b
  | _, _, _, _, .cons h r, b => .cons h (dps_app r b)
end
/-- a value's kind -/
def tyN : PyData → String
  | .none => "NoneType"
  | .bool _ => "bool"
  | .int _ => "int"
  | .str _ => "str"
  | .list _ => "list"
  | .tuple _ => "tuple"
  | .dict _ => "dict"
theorem dp_ty {K : PySem.W.Frag} {H : Hp} {v : V} {d : PyData} (h : Dq K H v d) : TyX K H v (.type (tyN d)) := by
  cases h with
  | non => exact .base .non
  | bl b => exact .base (.bl b)
  | int i => exact .base (.int i)
  | str x => exact .base (.str x)
  | lst s a =>
    rcases s with (s | ⟨o, s⟩) | ⟨o, its, n, h1, h2, _⟩
    · exact .base (.lst s)
    · exact .base (.frz s)
    · exact .kList h1 h2
  | tup s a =>
    rcases s with (s | ⟨o, s⟩) | ⟨o, its, n, h1, h2, _⟩
    · exact .base (.tup s)
    · exact .fTuple s
    · exact .kTuple h1 h2
  | dct e => exact .base (.dK e)
/-- data without dicts is the layer's data -/
theorem lay_cons {d : PyData} {ds : List PyData} (h : PyData.canLayAll0 (d :: ds) = true) : PyData.canLay0 d = true ∧ PyData.canLayAll0 ds = true := by
  rw [PyData.canLayAll0] at h
  exact Bool.and_eq_true_iff.mp h
mutual
theorem dq_dp {K : PySem.W.Frag} {H : Hp} : ∀ (d : PyData) (v : V), PyData.canLay0 d = true → Dq K H v d → L2.Dp K H v d
  | _, _, _, .non => .non
  | _, _, _, .bl b => .bl b
  | _, _, _, .int i => .int i
  | _, _, _, .str x => .str x
  | _, _, c, .lst s a => .lst s (dqs_dp _ _ (by rw [PyData.canLay0] at c; exact c) a)
  | _, _, c, .tup s a => .tup s (dqs_dp _ _ (by rw [PyData.canLay0] at c; exact c) a)
  | _, _, c, .dct _ => by
    rw [PyData.canLay0] at c
    cases c
theorem dqs_dp {K : PySem.W.Frag} {H : Hp} : ∀ (ds : List PyData) (vs : List V), PyData.canLayAll0 ds = true → DqAll K H vs ds → L2.DpAll K H vs ds
  | _, _, _, .nil => .nil
  | _, _, c, .cons h r => .cons (dq_dp _ _ (lay_cons c).1 h) (dqs_dp _ _ (lay_cons c).2 r)
end
theorem sh_dp {K : PySem.W.Frag} {H : Hp} {d : PyData} {v : V} (s : SeqAt.shaped d = true) (h : Dq K H v d) : L2.Dp K H v d := dq_dp d v (SeqAt.canLay_of_shaped s) h
/-! ### what evaluates to which data -/
def EvD (K : PySem.W.Frag) (te : TE) (σ : L2.St) (H : Hp) (d : PyData) : Prop := ∀ H1, Ex H H1 → ∀ Q : VK, (∀ v H2, Ex H1 H2 → Dq K H2 v d → Q v H2) → te σ H1 Q
def EvDA (K : PySem.W.Frag) (ta : TA) (σ : L2.St) (H : Hp) (ds : List PyData) : Prop := ∀ H1, Ex H H1 → ∀ Q : List V → Hp → Prop, (∀ vs H2, Ex H1 H2 → DqAll K H2 vs ds → Q vs H2) → ta σ H1 Q
section
variable {K : PySem.W.Frag} {σ : L2.St} {H H' : Hp} {ta tb te tx : TE} {t u : TT} {x y z v : V} {r : R2} {d e : PyData} {ds es : List PyData}
theorem EvD.mono (a : Ex H H') (h : EvD K te σ H d) : EvD K te σ H' d := fun H1 b Q q => h H1 (a.trans b) Q q
theorem EvDA.mono {ta : TA} (a : Ex H H') (h : EvDA K ta σ H ds) : EvDA K ta σ H' ds := fun H1 b Q q => h H1 (a.trans b) Q q
theorem ed_ev (h : Ev te σ H v) (hv : Dq K H v d) : EvD K te σ H d := fun H1 a Q q => h H1 a Q fun H2 b => q v H2 b (dp_ex (a.trans b) _ _ hv)
theorem ed_var {i : Nat} (h : σ[i]? = some (some v)) (hv : Dq K H v d) : EvD K (tVar i) σ H d := ed_ev (ev_var h) hv
theorem ed_cI {i : Int} : EvD K (tC (.int i)) σ H (.int i) := ed_ev ev_c (.int i)
theorem ed_cS {s : Str} : EvD K (tC (.str s)) σ H (.str s) := ed_ev ev_c (.str s)
theorem ed_cN : EvD K (tC .non) σ H .none := ed_ev ev_c .non
theorem ed_cB {b : Bool} : EvD K (tC (.bl b)) σ H (.bool b) := ed_ev ev_c (.bl b)
theorem ev_edI {i : Int} (h : EvD K te σ H (.int i)) : Ev te σ H (.int i) := fun H1 a Q q => h H1 a Q fun v H2 b hv => by
  have e := dp_int hv
  subst e
  exact q H2 b
theorem ev_edB {b : Bool} (h : EvD K te σ H (.bool b)) : Ev te σ H (.bl b) := fun H1 a Q q => h H1 a Q fun v H2 b hv => by
  have e := dp_bool hv
  subst e
  exact q H2 b
theorem ev_edS {s : Str} (h : EvD K te σ H (.str s)) : Ev te σ H (.str s) := fun H1 a Q q => h H1 a Q fun v H2 b hv => by
  have e := dp_str hv
  subst e
  exact q H2 b
/-- arguments -/
theorem eda_nil : EvDA K tNil σ H [] := fun H1 _ _ q => q [] H1 (Ex.refl H1) .nil
theorem eda_cons {tr : TA} (h : EvD K te σ H d) (hr : EvDA K tr σ H ds) : EvDA K (tCons te tr) σ H (d :: ds) := fun H1 a _ q =>
  h H1 a _ fun v H2 b hv => hr H2 (a.trans b) _ fun vs H3 c hvs => q (v :: vs) H3 (b.trans c) (.cons (dp_ex c _ _ hv) hvs)
theorem eda_star {K' : PySem.W.Frag} {tr : TA} (h : EvD K te σ H (.tuple ds)) (hr : EvDA K tr σ H es) (hK : K' = K) : EvDA K (StX.tStar K' te tr) σ H (ds ++ es) := by
  subst hK
  exact fun H1 a _ q =>
  h H1 a _ fun v H2 b hv => by
    obtain ⟨p, xs, rfl, hs, hx⟩ := dp_tup hv
    exact ⟨p, xs, rfl, .inl hs, hr H2 (a.trans b) _ fun vs H3 c hvs => q (xs ++ vs) H3 (b.trans c) (dps_app (dps_ex c _ _ hx) hvs)⟩
/-- displays -/
theorem ed_tup {ta : TA} (h : EvDA K ta σ H ds) (hl : ds.length ≤ 100000 := by first | decide | exact Nat.le_of_ble_eq_true rfl) : EvD K (tTup ta) σ H (.tuple ds) := fun H1 a _ q =>
  h H1 a _ fun vs H2 b hvs => ⟨sz_of (by rw [dps_len hvs]; exact hl), fun p hp => q _ _ (b.trans (Ex.new hp)) (.tup (st_of upd_same) (dps_ex (Ex.new hp) _ _ hvs))⟩
theorem ed_lst {ta : TA} (h : EvDA K ta σ H ds) (hl : ds.length ≤ 100000 := by first | decide | exact Nat.le_of_ble_eq_true rfl) : EvD K (tLst ta) σ H (.list ds) := fun H1 a _ q =>
  h H1 a _ fun vs H2 b hvs => ⟨sz_of (by rw [dps_len hvs]; exact hl), fun p hp => q _ _ (b.trans (Ex.new hp)) (.lst (sq_of upd_same) (dps_ex (Ex.new hp) _ _ hvs))⟩
/-- equal | unlike data -/
theorem ev_eqD (ha : EvD K ta σ H d) (hb : EvD K tb σ H e) (sd : SeqAt.shaped d = true := by rfl) (se : SeqAt.shaped e = true := by rfl) : Ev (tOp (rEqD K) ta tb) σ H (.bl (PyData.eqv d e)) := fun H1 a _ q =>
  ha H1 a _ fun v H2 b hv => hb H2 (a.trans b) _ fun w H3 c hw => ⟨d, e, sh_dp sd (dp_ex c _ _ hv), sh_dp se hw, sd, se, q H3 (b.trans c)⟩
theorem ev_neD (ha : EvD K ta σ H d) (hb : EvD K tb σ H e) (sd : SeqAt.shaped d = true := by rfl) (se : SeqAt.shaped e = true := by rfl) : Ev (tOp (rNeD K) ta tb) σ H (.bl (!PyData.eqv d e)) := fun H1 a _ q =>
  ha H1 a _ fun v H2 b hv => hb H2 (a.trans b) _ fun w H3 c hw => ⟨d, e, sh_dp sd (dp_ex c _ _ hv), sh_dp se hw, sd, se, q H3 (b.trans c)⟩
theorem atI_data {xs : List V} {i : Int} (hx : DqAll K H xs ds) (ha : atI ds i = some d) : ∃ v, atI xs i = some v ∧ Dq K H v d := by
  unfold atI at ha ⊢
  rw [dps_len hx]
  cases q : ixN ds.length i with
  | none =>
    rw [q] at ha
    cases ha
  | some j =>
    rw [q] at ha
    exact dps_at (i := j) hx ha
/-- an item of a tuple | of a list -/
theorem ed_ixT {K' : PySem.W.Frag} {i : Int} (ha : EvD K ta σ H (.tuple ds)) (hb : Ev tb σ H (.int i)) (hi : atI ds i = some d) (hK : K' = K) : EvD K (tOp (rIxT K') ta tb) σ H d := by
  subst hK
  exact fun H1 a _ q =>
  ha H1 a _ fun v H2 b hv => hb H2 (a.trans b) _ fun H3 c => by
    obtain ⟨p, xs, rfl, hs, hx⟩ := dp_tup hv
    obtain ⟨w, hw, dw⟩ := atI_data hx hi
    exact ⟨p, xs, i, w, rfl, rfl, ex_t c hs, hw, q w H3 (b.trans c) (dp_ex c _ _ dw)⟩
theorem ed_ixL {K' : PySem.W.Frag} {i : Int} (ha : EvD K ta σ H (.list ds)) (hb : Ev tb σ H (.int i)) (hi : atI ds i = some d) (hK : K' = K) : EvD K (tOp (rIxL K') ta tb) σ H d := by
  subst hK
  exact fun H1 a _ q =>
  ha H1 a _ fun v H2 b hv => hb H2 (a.trans b) _ fun H3 c => by
    obtain ⟨p, xs, rfl, hs, hx⟩ := dp_lst hv
    obtain ⟨w, hw, dw⟩ := atI_data hx hi
    exact ⟨p, xs, i, w, rfl, rfl, ex_l c hs, hw, q w H3 (b.trans c) (dp_ex c _ _ dw)⟩
/-- isinstance(x, T), T a built-in type -/
theorem ev_isiD {n : String} {b : Bool} (h : EvD K te σ H d) (hb : kitB (tyN d) n = some b) : Ev (tCB (rIsi K) (tCons te (tCons (tC (.ty n)) tNil))) σ H (.bl b) := fun H1 a _ q =>
  h H1 a _ fun v H2 c hv => ⟨v, .ty n, .type (tyN d), .type n, b, rfl, .ty n, dp_ty hv, kit_ty hb, q H2 c⟩
/-- isinstance by kinds -/
def isInt : PyData → Bool
  | .int _ => true
  | .bool _ => true
  | _ => false
def isBool : PyData → Bool
  | .bool _ => true
  | _ => false
def isTup : PyData → Bool
  | .tuple _ => true
  | _ => false
def isLst : PyData → Bool
  | .list _ => true
  | _ => false
def isStr : PyData → Bool
  | .str _ => true
  | _ => false
def isDct : PyData → Bool
  | .dict _ => true
  | _ => false
theorem kit_int (d : PyData) : kitB (tyN d) "int" = some (isInt d) := by
  cases d with
  | none => exact (show kitB "NoneType" "int" = some false by decide +kernel)
  | bool _ => exact (show kitB "bool" "int" = some true by decide +kernel)
  | int _ => exact (show kitB "int" "int" = some true by decide +kernel)
  | str _ => exact (show kitB "str" "int" = some false by decide +kernel)
  | list _ => exact (show kitB "list" "int" = some false by decide +kernel)
  | tuple _ => exact (show kitB "tuple" "int" = some false by decide +kernel)
  | dict _ => exact (show kitB "dict" "int" = some false by decide +kernel)
theorem kit_bool (d : PyData) : kitB (tyN d) "bool" = some (isBool d) := by
  cases d with
  | none => exact (show kitB "NoneType" "bool" = some false by decide +kernel)
  | bool _ => exact (show kitB "bool" "bool" = some true by decide +kernel)
  | int _ => exact (show kitB "int" "bool" = some false by decide +kernel)
  | str _ => exact (show kitB "str" "bool" = some false by decide +kernel)
  | list _ => exact (show kitB "list" "bool" = some false by decide +kernel)
  | tuple _ => exact (show kitB "tuple" "bool" = some false by decide +kernel)
  | dict _ => exact (show kitB "dict" "bool" = some false by decide +kernel)
theorem kit_tup (d : PyData) : kitB (tyN d) "tuple" = some (isTup d) := by
  cases d with
  | none => exact (show kitB "NoneType" "tuple" = some false by decide +kernel)
  | bool _ => exact (show kitB "bool" "tuple" = some false by decide +kernel)
  | int _ => exact (show kitB "int" "tuple" = some false by decide +kernel)
  | str _ => exact (show kitB "str" "tuple" = some false by decide +kernel)
  | list _ => exact (show kitB "list" "tuple" = some false by decide +kernel)
  | tuple _ => exact (show kitB "tuple" "tuple" = some true by decide +kernel)
  | dict _ => exact (show kitB "dict" "tuple" = some false by decide +kernel)
theorem kit_lst (d : PyData) : kitB (tyN d) "list" = some (isLst d) := by
  cases d with
  | none => exact (show kitB "NoneType" "list" = some false by decide +kernel)
  | bool _ => exact (show kitB "bool" "list" = some false by decide +kernel)
  | int _ => exact (show kitB "int" "list" = some false by decide +kernel)
  | str _ => exact (show kitB "str" "list" = some false by decide +kernel)
  | list _ => exact (show kitB "list" "list" = some true by decide +kernel)
  | tuple _ => exact (show kitB "tuple" "list" = some false by decide +kernel)
  | dict _ => exact (show kitB "dict" "list" = some false by decide +kernel)
theorem kit_str (d : PyData) : kitB (tyN d) "str" = some (isStr d) := by
  cases d with
  | none => exact (show kitB "NoneType" "str" = some false by decide +kernel)
  | bool _ => exact (show kitB "bool" "str" = some false by decide +kernel)
  | int _ => exact (show kitB "int" "str" = some false by decide +kernel)
  | str _ => exact (show kitB "str" "str" = some true by decide +kernel)
  | list _ => exact (show kitB "list" "str" = some false by decide +kernel)
  | tuple _ => exact (show kitB "tuple" "str" = some false by decide +kernel)
  | dict _ => exact (show kitB "dict" "str" = some false by decide +kernel)
theorem kit_dct (d : PyData) : kitB (tyN d) "dict" = some (isDct d) := by
  cases d with
  | none => exact (show kitB "NoneType" "dict" = some false by decide +kernel)
  | bool _ => exact (show kitB "bool" "dict" = some false by decide +kernel)
  | int _ => exact (show kitB "int" "dict" = some false by decide +kernel)
  | str _ => exact (show kitB "str" "dict" = some false by decide +kernel)
  | list _ => exact (show kitB "list" "dict" = some false by decide +kernel)
  | tuple _ => exact (show kitB "tuple" "dict" = some false by decide +kernel)
  | dict _ => exact (show kitB "dict" "dict" = some true by decide +kernel)
/-- len of a tuple | of a list -/
theorem ev_lenT (h : EvD K te σ H (.tuple ds)) : Ev (tCB (rLenS K) (tCons te tNil)) σ H (.int (ds.length : Int)) := fun H1 a _ q =>
  h H1 a _ fun v H2 c hv => by
    obtain ⟨p, xs, rfl, hs, hx⟩ := dp_tup hv
    refine ⟨_, xs, rfl, .inr hs, ?_⟩
    rw [dps_len hx]
    exact q H2 c
theorem ev_lenL (h : EvD K te σ H (.list ds)) : Ev (tCB (rLenS K) (tCons te tNil)) σ H (.int (ds.length : Int)) := fun H1 a _ q =>
  h H1 a _ fun v H2 c hv => by
    obtain ⟨p, xs, rfl, hs, hx⟩ := dp_lst hv
    refine ⟨_, xs, rfl, .inl hs, ?_⟩
    rw [dps_len hx]
    exact q H2 c
end
/-! ### statements -/
section
variable {K : PySem.W.Frag} {σ : L2.St} {H : Hp} {te : TE} {D : Ends} {tz : TS} {d : PyData}
end
/-! ### built-ins by names of our own -/
def rAbs : List V → Hp → VK → Prop := fun xs H Q => ∃ i, xs = [.int i] ∧ Q (.int (if i < 0 then -i else i)) H
def rMin : List V → Hp → VK → Prop := fun xs H Q => ∃ i j, xs = [.int i, .int j] ∧ Q (.int (if j < i then j else i)) H
def rIntI : List V → Hp → VK → Prop := fun xs H Q => (∃ i, xs = [.int i] ∧ Q (.int i) H) ∨ ∃ k, xs = [.bl k] ∧ Q (.int (if k then 1 else 0)) H
section
variable {X : Cx}
theorem cl_len : CallR X (.builtin "len") (rLenS X.K) := call_len_seq
theorem cl_abs : CallR X (.builtin "abs") rAbs := call_abs
theorem cl_min (hc : X.calm = true) : CallR X (.builtin "min") rMin := call_min2 hc
theorem cl_int : CallR X (.type "int") rIntI := call_int1
end
section
variable {σ : L2.St} {H : Hp} {ta tb : TE} {i j : Int}
theorem ev_abs (h : Ev ta σ H (.int i)) : Ev (tCB rAbs (tCons ta tNil)) σ H (.int (if i < 0 then -i else i)) := fun H1 a _ q => h H1 a _ fun H2 c => ⟨i, rfl, q H2 c⟩
theorem ev_min (h : Ev ta σ H (.int i)) (g : Ev tb σ H (.int j)) : Ev (tCB rMin (tCons ta (tCons tb tNil))) σ H (.int (if j < i then j else i)) := fun H1 a _ q =>
  h H1 a _ fun H2 c => g H2 (a.trans c) _ fun H3 f => ⟨i, j, rfl, q H3 (c.trans f)⟩
theorem ev_intI (h : Ev ta σ H (.int i)) : Ev (tCB rIntI (tCons ta tNil)) σ H (.int i) := fun H1 a _ q => h H1 a _ fun H2 c => .inl ⟨i, rfl, q H2 c⟩
theorem ev_chain {r r' : R2} {tc : TE} {x y z : V} {b c : Bool} (ha : Ev ta σ H x) (hb : Ev tb σ H y) (hr : RV r x y H (.bl b)) (hc : b = true → Ev tc σ H z) (hr' : b = true → RV r' y z H (.bl c)) : Ev (tChain r r' ta tb tc) σ H (.bl (b && c)) := fun H1 a Q q =>
  ha H1 a _ fun H2 e2 => hb H2 (a.trans e2) _ fun H3 e3 => hr H3 ((a.trans e2).trans e3) _ fun H4 e4 => ⟨b, rfl, by
    cases b with
    | true =>
      show tc σ H4 fun w' H5 => r' y w' H5 Q
      exact hc rfl H4 (((a.trans e2).trans e3).trans e4) _ fun H5 e5 => hr' rfl H5 ((((a.trans e2).trans e3).trans e4).trans e5) Q fun H6 e6 => q H6 ((((e2.trans e3).trans e4).trans e5).trans e6)
    | false =>
      show Q (.bl false) H4
      exact q H4 ((e2.trans e3).trans e4)⟩
end
/-! ### promises of defs that change nothing -/
/-- what a def makes of data: a value, or the class of an error -/
abbrev Rel : Type := List PyData → Except Addr PyData → Prop
def spD (K : PySem.W.Frag) (R : Rel) : Sp := fun vs H Q E => ∃ ds r, DqAll K H vs ds ∧ R ds r ∧
  (∀ d, r = .ok d → ∀ v H', Ex H H' → Dq K H' v d → Q v H') ∧ (∀ C, r = .error C → ∀ H', Ex H H' → E (.ref C) none H')
/-- what a return must come to, a raise -/
def RetD (K : PySem.W.Frag) (r : Except Addr PyData) (Q : VK) (H : Hp) : Prop := ∀ d, r = .ok d → ∀ v H', Ex H H' → Dq K H' v d → Q v H'
def RaiD (r : Except Addr PyData) (E : XK) (H : Hp) : Prop := ∀ C, r = .error C → ∀ H', Ex H H' → E (.ref C) none H'
section
variable {K : PySem.W.Frag} {r : Except Addr PyData} {Q : VK} {E : XK} {H H' : Hp} {D : Ends} {σ : L2.St} {te : TE} {d : PyData}
theorem RetD.mono (e : Ex H H') (h : RetD K r Q H) : RetD K r Q H' := fun d q v H2 e2 hv => h d q v H2 (e.trans e2) hv
theorem RaiD.mono (e : Ex H H') (h : RaiD r E H) : RaiD r E H' := fun C q H2 e2 => h C q H2 (e.trans e2)
end
section
variable {K : PySem.W.Frag} {σ : L2.St} {H : Hp} {ta : TA} {ds : List PyData} {d : PyData} {R : Rel}
theorem ed_call (h : EvDA K ta σ H ds) (hf : R ds (.ok d)) : EvD K (tCall (spD K R) [] E0 ta) σ H d := fun H1 a Q q =>
  h H1 a _ fun vs H2 b hvs => ⟨ds, _, by rw [List.append_nil]; exact hvs, hf, fun d' e v H' c hv => by cases e; exact q v H' (b.trans c) hv, fun C e => nomatch e⟩
end
/-! ### a, b = e1, e2 -/
section
variable {K : PySem.W.Frag} {σ : L2.St} {H : Hp} {ta : TA} {D : Ends} {tz : TS} {i j : Nat} {x y : V} {d e : PyData}
theorem q_par (h : EvA ta σ H [x, y]) (k : ∀ H1, Ex H H1 → tz D ((σ.set i (some x)).set j (some y)) H1) : tSeq (tPar i j ta) tz D σ H := h H (Ex.refl H) _ fun H1 a => ⟨x, y, rfl, k H1 a⟩
end
/-! ### calls that may raise -/
section
variable {K : PySem.W.Frag} {σ : L2.St} {H : Hp} {ta : TA} {ds : List PyData} {R : Rel} {r : Except Addr PyData} {D : Ends} {tz : TS} {E : L2.St → XK}
end
end Lk

/-! part LkCall -/
/-! Lk, part 4: a def of the text, called; the walk's small tactics. -/
namespace Lk
open PySem PySem.Spec PyProof.Rows L2 Evl
/-- the module's def x keeps its promise -/
structure Cl (P : Program) (w : World) (K : PySem.W.Frag) (mg : Str → Option Value) (base : Heap) (CX : CXT) (k : Nat) (x : Str) (sp : Sp) : Prop where
  ex : ∃ (f : Addr) (fd : FuncData) (ps : List Str), FnOk P w K mg base CX k f fd ps sp ∧ mg x = some (.ref f) ∧ PySem.W.keepIn K (.ref f) = true ∧ Binds K fd ps []
/-- the same, its parameters given by names, in their order -/
structure Cw (P : Program) (w : World) (K : PySem.W.Frag) (mg : Str → Option Value) (base : Heap) (CX : CXT) (k : Nat) (x : Str) (ks : List Str) (sp : Sp) : Prop where
  ex : ∃ (f : Addr) (fd : FuncData) (ps : List Str), FnOk P w K mg base CX k f fd ps sp ∧ mg x = some (.ref f) ∧ PySem.W.keepIn K (.ref f) = true ∧ KBinds K fd ps ks (fun us ws => us ++ ws) (fun vs zs => vs ++ zs)
section
variable {X : Cx} {k j : Nat} {x : Str} {ks : List Str} {sp : Sp} {p pos : Pos} {e : Expr} {es : List Expr} {t tk : TA} {kws : List Keyword}
theorem pe_k (c : Cl X.prog X.w X.K X.mg X.base CX0 k x sp) (hr : Room j X.A) (hk : k ≤ j) (hg : Gl X x) (ha : PA X (e :: es) t)
    (hdb : (x == ("__debug__" : Str)) = false := by decide) (he : starEach (e :: es) X.env = (false, eval e X.env) :: starEach es X.env := by rfl)
    (hpl : (backTo pos (starEach es X.env)).any (·.1) = false := by rfl) : PE X (.Call (.Name x p) (e :: es) [] pos) (tCall sp [] E0 t) := by
  obtain ⟨f, fd, ps, F, hm, kp, b⟩ := c.ex
  exact pe_call F (hr.mono hk) hg hm kp b .nil pass0 ha hdb he hpl
/-- of a def that may raise, and does not here -/
theorem pe_kX (c : Cl X.prog X.w X.K X.mg X.base (L2.CX X.prog X.w) k x sp) (hr : Room j X.A) (hk : k ≤ j) (hg : Gl X x) (ha : PA X (e :: es) t)
    (hdb : (x == ("__debug__" : Str)) = false := by decide) (he : starEach (e :: es) X.env = (false, eval e X.env) :: starEach es X.env := by rfl)
    (hpl : (backTo pos (starEach es X.env)).any (·.1) = false := by rfl) : PE X (.Call (.Name x p) (e :: es) [] pos) (tCall sp [] E0 t) := by
  obtain ⟨f, fd, ps, F, hm, kp, b⟩ := c.ex
  exact pe_call F (hr.mono hk) hg hm kp b .nil passL ha hdb he hpl
/-- of a def that may raise -/
theorem pe_kR {W : WX} (tk : Takes X W) (c : Cl X.prog X.w X.K X.mg X.base (L2.CX X.prog X.w) k x sp) (hr : Room j X.A) (hk : k ≤ j) (hg : Gl X x) (ha : PA X (e :: es) t)
    (hdb : (x == ("__debug__" : Str)) = false := by decide) (he : starEach (e :: es) X.env = (false, eval e X.env) :: starEach es X.env := by rfl)
    (hpl : (backTo pos (starEach es X.env)).any (·.1) = false := by rfl) : PE X (.Call (.Name x p) (e :: es) [] pos) (tCallS sp (WE W) t) := by
  obtain ⟨f, fd, ps, F, hm, kp, b⟩ := c.ex
  exact pe_callS F (hr.mono hk) hg hm kp b (fun σ => passAt tk σ) ha hdb he hpl
theorem pe_kwX (c : Cw X.prog X.w X.K X.mg X.base (L2.CX X.prog X.w) k x ks sp) (hr : Room j X.A) (hk : k ≤ j) (hg : Gl X x) (hkw : PK X kws tk)
    (hall : (backToKw pos (keywordEach kws X.env)).all (·.1.isSome) = true := by rfl) (hks : (backToKw pos (keywordEach kws X.env)).filterMap (·.1) = ks := by rfl)
    (hdb : (x == ("__debug__" : Str)) = false := by decide)
    (hpl : ((backTo pos (starEach [] X.env)).any (·.1) || (backToKw pos (keywordEach kws X.env)).any (·.1.isNone)) = false := by rfl) :
    PE X (.Call (.Name x p) [] kws pos) (tCallK sp (fun vs zs => vs ++ zs) E0 tNil tk) := by
  obtain ⟨f, fd, ps, F, hm, kp, b⟩ := c.ex
  exact pe_kwOnly F (hr.mono hk) hg hm kp b passL hkw hall hks hdb hpl
end
section
variable {K : PySem.W.Frag} {σ : L2.St} {H : Hp} {ta : TA} {ds : List PyData} {d : PyData} {R : Rel}
theorem ed_callK (h : EvDA K ta σ H ds) (hf : R ds (.ok d)) : EvD K (tCallK (spD K R) (fun vs zs => vs ++ zs) E0 tNil ta) σ H d := fun H1 a Q q =>
  h H1 a _ fun vs H2 b hvs => ⟨ds, _, hvs, hf, fun d' e v H' c hv => by cases e; exact q v H' (b.trans c) hv, fun C e => nomatch e⟩
end
/-- what stands of an own error's class -/
structure XcT (K : PySem.W.Frag) (mg : Str → Option Value) (x : Str) (C : Addr) : Prop where
  ex : PySem.W.excIn K C [.type "ValueError", .type "Exception", .type "BaseException", .type "object"] "ValueError.__new__" = true
  gl : mg x = some (.ref C)
  kp : PySem.W.keepIn K (.ref C) = true
  sb : PySem.W.subIn K (.ref C) (.type "BaseException") = some true
  ty : PySem.W.typeIn K (.ref C) = some (.type "type")
section
variable {P : Program} {w : World} {K : PySem.W.Frag} {mg : Str → Option Value} {base : Heap} {x qual : Str} {params : Arguments} {body : List Stmt} {scope : Scope} {f : Addr} {fd : FuncData} {N ps : List Str} {k : Nat}
end
/-- one parameter, given by place or by name -/
theorem kbinds1 {K : PySem.W.Frag} {x qual p : Str} {params : Arguments} {body : List Stmt} {scope : Scope} {f : Addr} {fd : FuncData} (F : FunD K x qual params body scope [] [] f fd)
    (h0 : ∀ (kV doc pm : Value) (an : Option Addr) (cdv ct u : Value), bindArgs (PySem.W.fnOf x qual params body scope .none kV doc pm an cdv ct) ⟨[u], []⟩ = pure [(p, u)])
    (h1 : ∀ (kV doc pm : Value) (an : Option Addr) (cdv ct u : Value), bindArgs (PySem.W.fnOf x qual params body scope .none kV doc pm an cdv ct) ⟨[], [(p, u)]⟩ = pure [(p, u)]) :
    KBinds K fd [p] [p] (fun us ws => us ++ ws) (fun vs zs => vs ++ zs) := by
  obtain ⟨oc, od, dV, kV, doc, pm, an, cdv, ct, osl, rfl, lk, hcd, hD, hK⟩ := F.ex
  rcases hD with ⟨_, rfl⟩ | ⟨e, _⟩
  · constructor
    · intro s us ws _ hl
      match us, ws, hl with
      | [], [u], _ => exact .of_eq (h1 kV doc pm an cdv ct u)
      | [u], [], _ => exact .of_eq (h0 kV doc pm an cdv ct u)
      | [], [], hl => cases hl
      | [], _ :: _ :: _, hl => cases hl
      | [_], _ :: _, hl => cases hl
      | _ :: _ :: _, _, hl => cases hl
    · exact fun r q => r.append q
  · exact absurd rfl e
end Lk

/-! part LkComp -/
/-! Lk, part 5: comprehensions told by data; data without lists, which no store touches. -/
namespace Lk
open PySem PySem.Spec PyProof.Rows L2 Evl
/-! ### data of tuples alone -/
mutual
def tupo : PyData → Bool
  | .list _ => false
  | .dict _ => false
  | .tuple ds => tupos ds
  | _ => true
def tupos : List PyData → Bool
  | [] => true
  | d :: ds => tupo d && tupos ds
end
/-- all tuples stand as they stood -/
def Tx (H H' : Hp) : Prop := ∀ a xs, Rd H a (.tup xs) → Rd H' a (.tup xs)
theorem Tx.refl (H : Hp) : Tx H H := fun _ _ h => h
theorem Tx.trans {H H1 H2 : Hp} (a : Tx H H1) (b : Tx H1 H2) : Tx H H2 := fun x xs h => b x xs (a x xs h)
theorem Ex.tx {H H' : Hp} (e : Ex H H') : Tx H H' := fun _ _ h => ex_rd e h
/-- a store into something that is no tuple -/
theorem Tx.put {H : Hp} {l : Addr} {o u : HO} (h : H l = some u) (n1 : ∀ xs, u ≠ .tup xs) (n2 : ∀ q xs, u ≠ .frz q (.tup xs)) : Tx H (upd H l o) := by
  rintro a xs (r | ⟨q, r⟩)
  · refine Or.inl ?_
    rw [upd_ne]
    · exact r
    · rintro rfl
      rw [h] at r
      exact n1 xs (Option.some.inj r)
  · refine Or.inr ⟨q, ?_⟩
    rw [upd_ne]
    · exact r
    · rintro rfl
      rw [h] at r
      exact n2 q xs (Option.some.inj r)
theorem Tx.lst {H : Hp} {l : Addr} {ys : List V} {o : HO} (h : H l = some (.lst ys)) : Tx H (upd H l o) := Tx.put h (fun _ z => nomatch z) fun _ _ z => nomatch z
theorem Tx.dK {H : Hp} {l : Addr} {ys : List (Key × V)} {o : HO} (h : H l = some (.dK ys)) : Tx H (upd H l o) := Tx.put h (fun _ z => nomatch z) fun _ _ z => nomatch z
mutual
theorem dp_tx {K : PySem.W.Frag} {H H' : Hp} (e : Tx H H') : ∀ (d : PyData) (v : V), tupo d = true → Dq K H v d → Dq K H' v d
  | .none, _, _, .non => .non
  | .bool b, _, _, .bl _ => .bl b
  | .int i, _, _, .int _ => .int i
  | .str x, _, _, .str _ => .str x
  | .tuple ds, _, t, .tup s a => .tup (by
      rcases s with s | s
      · exact Or.inl (e _ _ s)
      · exact Or.inr s) (dps_tx e ds _ (by rw [tupo] at t; exact t) a)
  | .dict _, _, t, .dct _ => by
    rw [tupo] at t
    cases t
theorem dps_tx {K : PySem.W.Frag} {H H' : Hp} (e : Tx H H') : ∀ (ds : List PyData) (vs : List V), tupos ds = true → DqAll K H vs ds → DqAll K H' vs ds
  | [], _, _, .nil => .nil
  | d :: ds, _, t, .cons h r => by
    have t' : (tupo d && tupos ds) = true := by rw [tupos] at t; exact t
    obtain ⟨t1, t2⟩ := Bool.and_eq_true_iff.mp t'
    exact .cons (dp_tx e d _ t1 h) (dps_tx e ds _ t2 r)
end
theorem dps_ints_of {K : PySem.W.Frag} {H : Hp} : ∀ {ns : List Int} {vs : List V}, DqAll K H vs (ns.map PyData.int) → vs = ns.map V.int
  | [], _, .nil => rfl
  | n :: ns, _, .cons h r => by
    have e := dp_int h
    subst e
    rw [List.map_cons, dps_ints_of (ns := ns) r]
/-! ### comprehensions -/
section
variable {K : PySem.W.Frag} {σ : L2.St} {H H' : Hp} {te : TE} {t : TT} {f : Nat → Bool} {g : Nat → PyData} {Dl : Addr}
theorem et_yes : EvT tYes σ H true := fun H1 _ _ q => q H1 (Ex.refl H1)
end
end Lk

/-! part LkDraw -/
/-! Lk, part 6: the state of the draws: a dict that holds two lists and two whole numbers. -/
namespace Lk
open PySem PySem.Spec PyProof.Rows L2 Evl
/-! ### a dict by texts -/
section
variable {σ : L2.St} {H : Hp} {td tv : TE} {a : Addr} {v : V} {s : Str} {kvs : List (Key × V)} {D : Ends} {tz : TS}
theorem ev_dget (h : Ev td σ H (.ref a)) (hd : H a = some (.dK kvs)) (hv : valV kvs (.inr s) = some v) : Ev (tDGet td (tC (.str s))) σ H v := fun H1 e Q q =>
  h H1 e _ fun H2 e2 => ⟨a, v, rfl, hv ▸ DGet.k (k := .inr s) (e2 _ _ (e _ _ hd)), q H2 e2⟩
/-- d[k] = v, the value by a run that ends in dput_end -/
theorem r_dput (h : tv σ H fun v H1 => td σ H1 fun x H2 => ∃ a H4, x = .ref a ∧ DPut H2 a (.str s) v H4 ∧ D.nx σ H4) : sDPut td (tC (.str s)) tv D σ H := h
theorem q_dput (h : tv σ H fun v H1 => td σ H1 fun x H2 => ∃ a H4, x = .ref a ∧ DPut H2 a (.str s) v H4 ∧ tz D σ H4) : tSeq (sDPut td (tC (.str s)) tv) tz D σ H := h
theorem dput_end {T : L2.St → Hp → Prop} (ht : Ev td σ H (.ref a)) (hd : H a = some (.dK kvs)) (hl : kvs.length < 1000) (k : ∀ H2, Ex H H2 → T σ (upd H2 a (.dK (putK kvs (.inr s) v)))) :
    td σ H fun x H2 => ∃ a H4, x = .ref a ∧ DPut H2 a (.str s) v H4 ∧ T σ H4 :=
  ht H (Ex.refl H) _ fun H2 e => ⟨a, _, rfl, DPut.k (k := .inr s) (e _ _ hd) (sz_lt (by omega)), k H2 e⟩
end
/-! ### the state -/
def stD (g c : Addr) (r t : Int) : List (Key × V) := [(.inr "great", .ref g), (.inr "cells", .ref c), (.inr "rest", .int r), (.inr "turn", .int t)]
theorem stD_great {g c : Addr} {r t : Int} : valV (stD g c r t) (.inr "great") = some (.ref g) := rfl
theorem stD_cells {g c : Addr} {r t : Int} : valV (stD g c r t) (.inr "cells") = some (.ref c) := rfl
theorem stD_rest {g c : Addr} {r t : Int} : valV (stD g c r t) (.inr "rest") = some (.int r) := rfl
theorem stD_turn {g c : Addr} {r t : Int} : valV (stD g c r t) (.inr "turn") = some (.int t) := rfl
theorem put_rest {g c : Addr} {r t x : Int} : putK (stD g c r t) (.inr "rest") (.int x) = stD g c x t := rfl
theorem put_turn {g c : Addr} {r t x : Int} : putK (stD g c r t) (.inr "turn") (.int x) = stD g c r x := rfl
theorem stD_len {g c : Addr} {r t : Int} : (stD g c r t).length < 1000 := show 4 < 1000 by decide
/-- the moduli of the mixing -/
def primes : List Int := [2147483629, 2147483647, 2147483563, 2147483587]
theorem primes_at (i : Nat) (x : V) (h : (primes.map V.int)[i]? = some x) : ∃ q : Int, x = .int q ∧ 2147483563 ≤ q ∧ q ≤ 2147483647 := by
  rcases i with _ | _ | _ | _ | i
  · cases h; exact ⟨_, rfl, by decide, by decide⟩
  · cases h; exact ⟨_, rfl, by decide, by decide⟩
  · cases h; exact ⟨_, rfl, by decide, by decide⟩
  · cases h; exact ⟨_, rfl, by decide, by decide⟩
  · cases h
structure StD (H : Hp) (a g c : Addr) (gs cs : List Int) (r t : Int) : Prop where
  hd : H a = some (.dK (stD g c r t))
  hg : H g = some (.lst (gs.map V.int))
  hc : H c = some (.lst (cs.map V.int))
  hn : g ≠ c
theorem StD.ag {H : Hp} {a g c : Addr} {gs cs : List Int} {r t : Int} (s : StD H a g c gs cs r t) : a ≠ g := by
  rintro rfl
  have h := s.hd.symm.trans s.hg
  cases h
theorem StD.ac {H : Hp} {a g c : Addr} {gs cs : List Int} {r t : Int} (s : StD H a g c gs cs r t) : a ≠ c := by
  rintro rfl
  have h := s.hd.symm.trans s.hc
  cases h
theorem StD.ex {H H' : Hp} {a g c : Addr} {gs cs : List Int} {r t : Int} (s : StD H a g c gs cs r t) (e : Ex H H') : StD H' a g c gs cs r t := ⟨e _ _ s.hd, e _ _ s.hg, e _ _ s.hc, s.hn⟩
theorem StD.put {H : Hp} {a g c : Addr} {gs cs : List Int} {r t r' t' : Int} (s : StD H a g c gs cs r t) : StD (upd H a (.dK (stD g c r' t'))) a g c gs cs r' t' :=
  ⟨upd_same, by rw [upd_ne s.ag.symm]; exact s.hg, by rw [upd_ne s.ac.symm]; exact s.hc, s.hn⟩
theorem StD.pop {H : Hp} {a g c : Addr} {gs cs gs' : List Int} {r t : Int} (s : StD H a g c gs cs r t) : StD (upd H g (.lst (gs'.map V.int))) a g c gs' cs r t :=
  ⟨by rw [upd_ne s.ag]; exact s.hd, upd_same, by rw [upd_ne s.hn.symm]; exact s.hc, s.hn⟩
/-- the state at a, its list of great ones at g; at most n turns so far -/
def StAt (H : Hp) (a g : Addr) (n : Nat) : Prop := ∃ c gs cs r t, StD H a g c gs cs r t ∧ 0 ≤ t ∧ t ≤ (n : Int)
theorem StAt.ex {H H' : Hp} {a g : Addr} {n : Nat} (s : StAt H a g n) (e : Ex H H') : StAt H' a g n := by
  obtain ⟨c, gs, cs, r, t, s, h⟩ := s
  exact ⟨c, gs, cs, r, t, s.ex e, h⟩
theorem StAt.mono {H : Hp} {a g : Addr} {n m : Nat} (s : StAt H a g n) (e : n ≤ m) : StAt H a g m := by
  obtain ⟨c, gs, cs, r, t, s, h, h'⟩ := s
  exact ⟨c, gs, cs, r, t, s, h, by omega⟩
/-- all but the state stands as it stood -/
def Kp (a g : Addr) (H H' : Hp) : Prop := ∀ b o, H b = some o → b ≠ a → b ≠ g → H' b = some o
theorem Kp.refl {a g : Addr} (H : Hp) : Kp a g H H := fun _ _ h _ _ => h
theorem Kp.trans {a g : Addr} {H H1 H2 : Hp} (x : Kp a g H H1) (y : Kp a g H1 H2) : Kp a g H H2 := fun b o h n m => y b o (x b o h n m) n m
theorem Kp.of {a g : Addr} {H H' : Hp} (e : Ex H H') : Kp a g H H' := fun b o h _ _ => e b o h
theorem Kp.a {a g : Addr} {H : Hp} {o : HO} : Kp a g H (upd H a o) := fun b u h n _ => by rw [upd_ne n]; exact h
theorem Kp.g {a g : Addr} {H : Hp} {o : HO} : Kp a g H (upd H g o) := fun b u h _ n => by rw [upd_ne n]; exact h
/-- the heap without the state -/
def hide (a g : Addr) (H : Hp) : Hp := fun b => if b = a ∨ b = g then none else H b
theorem hide_ex {a g : Addr} {H : Hp} : Ex (hide a g H) H := fun b o h => by
  unfold hide at h
  by_cases q : b = a ∨ b = g
  · rw [if_pos q] at h; cases h
  · rw [if_neg q] at h; exact h
theorem Kp.hide {a g : Addr} {H H' : Hp} (k : Kp a g H H') : Ex (hide a g H) (hide a g H') := fun b o h => by
  unfold Lk.hide at h ⊢
  by_cases q : b = a ∨ b = g
  · rw [if_pos q] at h; cases h
  · rw [if_neg q] at h ⊢
    exact k b o h (fun z => q (.inl z)) fun z => q (.inr z)
theorem hide_tx {a g : Addr} {n : Nat} {H : Hp} (s : StAt H a g n) : Tx H (hide a g H) := by
  obtain ⟨c, gs, cs, r, t, s, _⟩ := s
  rintro b xs h
  have hb : ¬ (b = a ∨ b = g) := by
    rintro (rfl | rfl)
    · rcases h with h | ⟨q, h⟩
      · have := s.hd.symm.trans h; cases this
      · have := s.hd.symm.trans h; cases this
    · rcases h with h | ⟨q, h⟩
      · have := s.hg.symm.trans h; cases this
      · have := s.hg.symm.trans h; cases this
  unfold Rd hide
  rw [if_neg hb]
  exact h
theorem Kp.tx {a g : Addr} {n : Nat} {H H' : Hp} (k : Kp a g H H') (s : StAt H a g n) : Tx H H' := (hide_tx s).trans ((Ex.tx k.hide).trans (Ex.tx hide_ex))
/-! ### what runs along with the state -/
section
variable {K : PySem.W.Frag} {a g : Addr} {σ : L2.St} {H H' : Hp} {ta tb te : TE} {tr : TA} {n m k l : Nat} {Φ Ψ : PyData → Prop} {d : PyData}
end
/-! ### the four helpers' promises -/
/-- draws beyond this number are not told -/
def far : Nat := 1000000000000
section
variable {K : PySem.W.Frag} {a g : Addr} {σ : L2.St} {H H' : Hp} {td te tl : TE} {tr : TA} {n m k l : Nat} {Φ Ψ : PyData → Prop} {room : Int}
end
/-- THE RULE for a def told by a run -/
theorem fn_run {P : Program} {w : World} {K : PySem.W.Frag} {mg : Str → Option Value} {base : Heap} {x qual : Str} {params : Arguments} {body : List Stmt} {scope : Scope} {f : Addr} {fd : FuncData} {N ps : List Str} {k : Nat} {sp : Sp}
    (D : FunD K x qual params body scope [] [] f fd) (S : FnScope N ps scope) (hl : ∀ vs H Q E, sp vs H Q E → vs.length = ps.length)
    (h : ∀ (cdv : Value) (A : Around) (outer : List Env) (s : Shared) (H : Hp) (E : XK), Room k (A.deeper (envOfC qual scope s.heap.objs.size f cdv)) →
      ∃ t, PSs (cxOf CX0 P w K mg base N qual scope f cdv A outer s H E).nox body t ∧ ∀ (vs : List V) (Q : VK), sp vs H Q E → t { nx := fun _ H' => Q .non H', rt := Q } (start N vs) H) :
    FnOk P w K mg base CX0 (k + 1) f fd ps sp := by
  refine D.ok S hl (fun cdv A outer s H vs Q E hr q => ?_)
  obtain ⟨t, h1, h2⟩ := h cdv A outer s H E hr
  exact ⟨t, h1.nox, h2 vs Q q⟩
/-! ### small readings -/
section
variable {K : PySem.W.Frag} {σ : L2.St} {H : Hp} {ta tb : TE} {b : Bool} {t : TT} {Q : VK} {r : R2}
theorem r_if (h : EvT t σ H b) (h1 : b = true → ∀ H1, Ex H H1 → ta σ H1 Q) (h2 : b = false → ∀ H1, Ex H H1 → tb σ H1 Q) : tIf t ta tb σ H Q := h H (Ex.refl H) _ fun H1 e => by
  cases b with
  | true =>
    show ta σ H1 Q
    exact h1 rfl H1 e
  | false =>
    show tb σ H1 Q
    exact h2 rfl H1 e
/-- the pairs of a display whose keys are texts -/
theorem r_pairEv {s : Str} {v : V} {rest : List (TE × TE)} {R : List (V × V) → Hp → Prop} (h : Ev ta σ H v) (k : ∀ H1, Ex H H1 → tPairs rest σ H1 fun ps H3 => R ((.str s, v) :: ps) H3) : tPairs ((tC (.str s), ta) :: rest) σ H R := h H (Ex.refl H) _ k
theorem r_pairEvL {s : Str} {xs : List V} {rest : List (TE × TE)} {R : List (V × V) → Hp → Prop} (h : EvL ta σ H xs) (k : ∀ p H1, H p = none → Ex H H1 → H1 p = some (.lst xs) → tPairs rest σ H1 fun ps H3 => R ((.str s, .ref p) :: ps) H3) : tPairs ((tC (.str s), ta) :: rest) σ H R := h H (Ex.refl H) _ k
/-- xs.pop(0) -/
theorem r_pop0 {g : Addr} {x : V} {xs : List V} (h : Ev ta σ H (.ref g)) (hg : H g = some (.lst (x :: xs))) (k : ∀ H1, Ex H H1 → Q x (upd H1 g (.lst xs))) : tBM K "list" rPopAt ta (tCons (tC (.int 0)) tNil) σ H Q :=
  h H (Ex.refl H) _ fun H1 e => ⟨Or.inl ⟨rfl, x :: xs, sq_of (e _ _ hg)⟩, g, x :: xs, 0, 0, x, rfl, rfl, e _ _ hg, by decide, by decide, (by
    unfold seqIndex?
    simp), rfl, k H1 e⟩
end
theorem dec_vi' (i j : Int) : decide (V.int i = V.int j) = decide (i = j) := by
  by_cases h : i = j
  · subst h; simp
  · rw [decide_eq_false h, decide_eq_false]
    intro q
    exact h (V.int.inj q)
theorem ints_lay : ∀ ns : List Int, PyData.canLayAll0 (ns.map PyData.int) = true
  | [] => by simp [PyData.canLayAll0]
  | n :: ns => by simp [PyData.canLayAll0, PyData.canLay0, ints_lay ns]
theorem ints_depth : ∀ ns : List Int, PyData.depthAll (ns.map PyData.int) ≤ 2
  | [] => by simp [PyData.depthAll]
  | n :: ns => by
    have h1 := ints_depth ns
    simp only [List.map_cons, PyData.depthAll, PyData.depth]
    omega
theorem sh_ints (ns : List Int) : SeqAt.shaped (.list (ns.map PyData.int)) = true := by
  have h1 := ints_depth ns
  have h2 : PyData.depth (.list (ns.map PyData.int)) ≤ 64 := by
    simp only [PyData.depth]
    omega
  unfold SeqAt.shaped
  rw [decide_eq_true h2, PyData.canLay0, ints_lay]
  rfl
end Lk

/-! part LkLam -/
/-! Lk, part 7: defs that hand a lambda to «caught»; what stands through it. -/
namespace Lk
open PySem PySem.Spec PyProof.Rows L2 Evl LamX
/-! ### heaps -/
/-- all but the state and the tables stands -/
def Kn (a g : Addr) (H H' : Hp) : Prop := ∀ b o, H b = some o → b ≠ a → b ≠ g → (∀ ps, o ≠ .tbl ps) → H' b = some o
theorem Kn.refl {a g : Addr} (H : Hp) : Kn a g H H := fun _ _ h _ _ _ => h
theorem Kn.trans {a g : Addr} {H H1 H2 : Hp} (x : Kn a g H H1) (y : Kn a g H1 H2) : Kn a g H H2 := fun b o h n m t => y b o (x b o h n m t) n m t
theorem Kn.kp {a g : Addr} {H H' : Hp} (k : Kp a g H H') : Kn a g H H' := fun b o h n m _ => k b o h n m
theorem Kn.of {a g : Addr} {H H' : Hp} (e : Ex H H') : Kn a g H H' := fun b o h _ _ _ => e b o h
theorem Kn.ext {a g : Addr} {H H' : Hp} (e : ExtN H H') : Kn a g H H' := fun b o h _ _ t => e b o h t
theorem Kn.tx {a g : Addr} {n : Nat} {H H' : Hp} (k : Kn a g H H') (s : StAt H a g n) : Tx H H' := fun b xs h => by
  obtain ⟨c, gs, cs, r, t, s, _⟩ := s
  have hb : b ≠ a := by
    rintro rfl
    rcases h with h | ⟨q, h⟩ <;> exact nomatch s.hd.symm.trans h
  have hg : b ≠ g := by
    rintro rfl
    rcases h with h | ⟨q, h⟩ <;> exact nomatch s.hg.symm.trans h
  rcases h with h | ⟨q, h⟩
  · exact .inl (k b _ h hb hg fun ps z => nomatch z)
  · exact .inr ⟨q, k b _ h hb hg fun ps z => nomatch z⟩
theorem extN_tx {H H' : Hp} (e : ExtN H H') : Tx H H' := fun b xs h => by
  rcases h with h | ⟨q, h⟩
  · exact .inl (e b _ h fun ps z => nomatch z)
  · exact .inr ⟨q, e b _ h fun ps z => nomatch z⟩
theorem StAt.ext {H H' : Hp} {a g : Addr} {n : Nat} (s : StAt H a g n) (e : ExtN H H') : StAt H' a g n := by
  obtain ⟨c, gs, cs, r, t, s, h⟩ := s
  exact ⟨c, gs, cs, r, t, ⟨e _ _ s.hd (fun ps z => nomatch z), e _ _ s.hg (fun ps z => nomatch z), e _ _ s.hc (fun ps z => nomatch z), s.hn⟩, h⟩
mutual
theorem dp_ext {K : PySem.W.Frag} {H H' : Hp} (e : ExtN H H') : ∀ (d : PyData) (v : V), Dq K H v d → Dq K H' v d
  | .none, _, .non => .non
  | .bool b, _, .bl _ => .bl b
  | .int i, _, .int _ => .int i
  | .str x, _, .str _ => .str x
  | .list ds, _, .lst s a => .lst (by
      rcases s with (s | ⟨q, s⟩) | s
      · exact .inl (.inl (e _ _ s fun ps z => nomatch z))
      · exact .inl (.inr ⟨q, e _ _ s fun ps z => nomatch z⟩)
      · exact .inr s) (dps_ext e ds _ a)
  | .tuple ds, _, .tup s a => .tup (by
      rcases s with s | s
      · exact .inl (extN_tx e _ _ s)
      · exact .inr s) (dps_ext e ds _ a)
  | .dict _, _, .dct h => .dct (e _ _ h fun ps z => nomatch z)
theorem dps_ext {K : PySem.W.Frag} {H H' : Hp} (e : ExtN H H') : ∀ (ds : List PyData) (vs : List V), DqAll K H vs ds → DqAll K H' vs ds
  | [], _, .nil => .nil
  | d :: ds, _, .cons h r => .cons (dp_ext e d _ h) (dps_ext e ds _ r)
end
theorem codeO_nd {c : Addr} {q : Str} : (∀ kvs, CodeO c q ≠ .dK kvs) ∧ ∀ xs, CodeO c q ≠ .lst xs := ⟨(fun _ z => nomatch z), (fun _ z => nomatch z)⟩
/-- the tables stand through the draws -/
theorem Tabs.kp {T : List (Addr × Str)} {a g : Addr} {n : Nat} {H H' : Hp} (t : Tabs T H) (s : StAt H a g n) (k : Kp a g H H') : Tabs T H' := fun p hp => by
  obtain ⟨c, gs, cs, r, t', s, _⟩ := s
  obtain ⟨ps, h1, h2, h3⟩ := t p hp
  have ne : ∀ b o, H b = some o → (∀ kvs, o ≠ .dK kvs) → (∀ xs, o ≠ .lst xs) → H' b = some o := fun b o h n1 n2 => k b o h (by
    rintro rfl
    exact n1 _ (Option.some.inj (h.symm.trans s.hd))) (by
    rintro rfl
    exact n2 _ (Option.some.inj (h.symm.trans s.hg)))
  refine ⟨ps, ne _ _ h1 (fun _ z => nomatch z) (fun _ z => nomatch z), h2, fun pos cv hc => ?_⟩
  obtain ⟨c, e1, e2⟩ := h3 pos cv hc
  exact ⟨c, e1, ne _ _ e2 codeO_nd.1 codeO_nd.2⟩
/-! ### a def that makes lambdas -/
/-- what stands of the code object of the def x, of its table -/
structure LamD (K : PySem.W.Frag) (mg : Str → Option Value) (base : Heap) (T : List (Addr × Str)) (x q : Str) : Prop where
  tb : TabB base mg (He.codeOf K (x, none)) (He.tabOf K (He.codeOf K (x, none)))
  mem : (He.tabOf K (He.codeOf K (x, none)), q) ∈ T
  one : ∀ p ∈ T, p.1 = He.tabOf K (He.codeOf K (x, none)) → p.2 = q
/-- the reading of caught(lambda: f(..)), f a def that may raise -/
def tCg (T : List (Addr × Str)) (K : PySem.W.Frag) (CS : Addr) (sp : Sp) (ta : TA) : TE := tLam T (TCaught K CS) fun E => tCallS sp (WE fun cls d _ H => E cls d H) ta
section
variable {X : Cx}
theorem pe_caught {T : List (Addr × Str)} {CS g : Addr} {k : Nat} {pg : Arguments} {bg : List Stmt} {sg : Scope} {fd : FuncData} {x a n y e q xd : Str} {sp : Sp} {ta : TA}
    {params : Arguments} {body : Expr} {scope : Scope} {p lpos pos : Pos} {j : Nat} {p1 p2 p3 p4 p5 p6 p7 p8 p9 q1 q2 q3 q4 q5 : Pos}
    (D : FunD X.K x x pg bg sg [] [] g fd) (hg : Gl X x) (hm : X.mg x = some (.ref g))
    (hbg : bg = [.Assign [.Name y q1] (.Constant .none j q2) q3,
      .Try [.Expr (.Call (.Name a p1) [] [] p2) p3] [.ExceptHandler (some (.Name e p4)) (some n) [.Assign [.Name y p5] (.Name n p6) p7] p8] [] [] p9,
      .Return (some (.Name y q4)) q5])
    (hbp : ∀ (kV doc pm : Value) (an : Option Addr) (cdv ct : Value) (us : List Value), us.length = [a].length → bindArgs (PySem.W.fnOf x x pg bg sg .none kV doc pm an cdv ct) ⟨us, []⟩ = pure ([a].zip us))
    (Sg : FnScope [a, y, n] [a] sg) (hnd : [a, y, n].Nodup) (hva : Vis sg a)
    (hge : sg.names.lookup e = some .globalImplicit) (hme : X.mg e = some (.ref CS)) (hde : (e == ("__debug__" : Str)) = false)
    (hy : sg.names.lookup y = some .local) (hn : sg.names.lookup n = some .local)
    (hdb : (n == ("__debug__" : Str)) = false) (hcd : (n == ("__classdict__" : Str)) = false)
    (hdb2 : (y == ("__debug__" : Str)) = false) (hcd2 : (y == ("__classdict__" : Str)) = false)
    (hdx : (x == ("__debug__" : Str)) = false) (hda : (a == ("__debug__" : Str)) = false) (hca : (a == ("__classdict__" : Str)) = false)
    (LD : LamD X.K X.mg X.base T xd q) (hcode : X.env.code = .ref (He.codeOf X.K (xd, none))) (hq : X.env.qual ++ "<lambda>" = q) (hr : Room (k + 2) X.A) (L : LamS X.env.scope scope) (hdef : defaultsOf params X.env = ([], []))
    (hbind : ∀ (q : Str) (cl : List (Str × Addr)) (pm cv ctv : Value), bindArgs (PySem.W.kla_fn "<lambda>" q params body scope cl pm cv ctv) ⟨[], []⟩ = pure [])
    (hbody : ∀ (A : Around) (outer : List Env) (s : Shared) (H : Hp) (E : XK) (f c' : Addr), Room k (A.deeper (lamEnv X scope s.heap.objs.size f c')) → PE (lamCx X A outer s H E scope f c') body (tCallS sp (WE fun cls d _ H => E cls d H) ta)) :
    PE X (.Call (.Name x p) [.Lambda params body scope lpos] [] pos) (tCg T X.K CS sp ta) := by
  have kp := D.kp
  have hb := D.bindsN hbp
  obtain ⟨oc, od, dV, kV, doc, pm, an, cdv, ct, osl, rfl, lk, hcdx, _, _⟩ := D.ex
  subst hbg hq
  exact pe_lamcall (k := k) (a := a) (Ng := [a, y, n]) hg hm kp lk hcdx hb Sg rfl hva (caught_gives rfl hnd hge hme hde hy hn hdb hcd hdb2 hcd2) LD.tb hcode LD.mem LD.one hr L hdef hbind hbody hdx hda hca
end
section
variable {K : PySem.W.Frag} {T : List (Addr × Str)} {CS C : Addr} {σ : L2.St} {H : Hp} {R : Rel} {ta : TA} {Q : VK} {ds : List PyData}
end
/-! ### a, b, c = a tuple; x in a new list -/
section
variable {K K' : PySem.W.Frag} {σ : L2.St} {H : Hp} {te : TE} {D : Ends} {tz : TS} {i j l : Nat} {d1 d2 d3 : PyData}
end
end Lk

/-! part LkRun -/
/-! Lk, part 8: defs that draw: promises, displays, loops; data in a tuple of data. -/
namespace Lk
open PySem PySem.Spec PyProof.Rows L2 Evl LamX
/-! ### promises -/
section
variable {K : PySem.W.Frag} {a g : Addr} {σ : L2.St} {H H' : Hp} {td te tl : TE} {ta tr : TA} {n m k l c : Nat} {Φ : PyData → Prop} {Ψ : List PyData → Prop} {d : PyData} {ds : List PyData} {A : List PyData → Prop} {Θ : List PyData → PyData → Prop}
end
/-! ### data in a tuple -/
section
variable {X : Cx}
end
section
variable {K K' : PySem.W.Frag} {σ : L2.St} {H : Hp} {ta tb : TE} {d : PyData} {ds : List PyData}
end
/-! ### tests that draw -/
section
variable {K : PySem.W.Frag} {a g : Addr} {σ : L2.St} {H H' : Hp} {td te tl ta tb : TE} {tr : TA} {t u : TT} {n m k l c : Nat} {Φ : PyData → Prop} {T : List (Addr × Str)} {b b2 : Bool} {A : List PyData → Prop} {Θ : List PyData → PyData → Prop}
end
/-! ### tuples joined -/
theorem log2_of {n k c : Nat} (h : n < 2 ^ k) (hk : k ≤ c) (hc : 0 < c) : n.log2 < c := by
  by_cases h0 : n = 0
  · subst h0
    exact Nat.lt_of_le_of_lt (Nat.log2_le_self 0) hc
  · exact Nat.lt_of_lt_of_le ((Nat.log2_lt h0).mpr h) hk
theorem XcT.v {K : PySem.W.Frag} {mg : Str → Option Value} {x : Str} {C : Addr} (h : XcT K mg x C) : ∃ u, mg x = some u ∧ RelV (.ref C) u := ⟨_, h.gl, rfl⟩
/-- what stands of an own class of errors, to be asked of and to be caught by CS -/
structure XiT (K : PySem.W.Frag) (mg : Str → Option Value) (CS : Addr) (x : Str) (C : Addr) : Prop where
  e : ExcC K C
  k : PySem.W.kitOne K (.ref C) (.ref C) = some true
  ex : PySem.W.exmOne K (.ref C) (.ref CS) = some true
  g : mg x = some (.ref C)
theorem XiT.v {K : PySem.W.Frag} {mg : Str → Option Value} {x : Str} {C CS : Addr} (h : XiT K mg CS x C) : ∃ u, mg x = some u ∧ RelV (.ref C) u := ⟨_, h.g, rfl⟩
theorem units1 {k : Nat} {A : Around} (r : Room k A) : A.units + 65 < cLine := by
  have := r.un
  omega
/-! ### shapes of lists -/
/-- a store into an object that was new -/
theorem ExtN.mut {H H' : Hp} {p : Addr} {o : HO} (e : ExtN H H') (hp : H p = none) : ExtN H (upd H' p o) := fun b u h t => by
  rw [upd_ne (ne_of_none h hp)]
  exact e b u h t
theorem Tabs.lst {T : List (Addr × Str)} {H : Hp} {p : Addr} {xs : List V} {o : HO} (t : Tabs T H) (hp : H p = some (.lst xs)) : Tabs T (upd H p o) := fun r hr => by
  obtain ⟨ps, h1, h2, h3⟩ := t r hr
  have ne : ∀ b u, H b = some u → (∀ xs, u ≠ .lst xs) → upd H p o b = some u := fun b u h n => by
    rw [upd_ne]
    · exact h
    · rintro rfl
      exact n _ (Option.some.inj (h.symm.trans hp))
  refine ⟨ps, ne _ _ h1 (fun _ z => nomatch z), h2, fun pos cv hc => ?_⟩
  obtain ⟨c, e1, e2⟩ := h3 pos cv hc
  exact ⟨c, e1, ne _ _ e2 codeO_nd.2⟩
end Lk

/-! part LkSet -/
/-! Lk, part 9: len(set(t)), t a tuple of unlike tuples of whole numbers and texts. -/
namespace Lk
open PySem PySem.Spec PyProof.Rows L2
section
variable {P : Program} {w : World} {A : Around} {E : Value → Shared → Prop} {s : Shared}
/-- the tuple at a holds the keys k -/
abbrev KeyT (P : Program) (w : World) (h : Heap) (k : List Key) (a : Addr) : Prop := IsTupleKey (mixKind P w) h k a
abbrev kh (P : Program) (w : World) (k : List Key) : Int := tupleKeyHash (mixKind P w) k
abbrev Ent : Type := Addr × List Key
def rowK (P : Program) (w : World) (p : Ent) : Int × Value := (kh P w p.2, Value.ref p.1)
/-- the set at a holds the entries L, all unlike -/
structure SetD (P : Program) (w : World) (h : Heap) (a : Addr) (L : List Ent) (o : Obj) (es : Array (Int × Value)) (ep : Nat) (t : SetTable) : Prop where
  at_ : h.get? a = some o
  exact_ : o.ExactSet
  data : o.data = .set es ep t
  rows : es.toList = L.map (rowK P w)
  tab : TabOk t (L.map fun p => kh P w p.2)
  room : L.length * 5 < t.mask * 3
  keys : ∀ p ∈ L, KeyT P w h p.2 p.1
variable {a : Addr} {L : List Ent} {o : Obj} {es : Array (Int × Value)} {ep : Nat} {t : SetTable}
theorem SetD.size {h : Heap} (R : SetD P w h a L o es ep t) : es.size = L.length := by
  rw [← Array.length_toList, R.rows, List.length_map]
theorem SetD.places {h : Heap} (R : SetD P w h a L o es ep t) : t.place.size = L.length := by
  have q := R.tab.sz
  rw [List.length_map] at q
  exact q
theorem fits_of {n : Nat} (hd : t.dummies = #[]) (hs : t.place.size = n) (hm : n ≤ t.mask) : t.fits n = true := by
  unfold SetTable.fits SetTable.fill
  rw [hd, hs, beq_self_eq_true, Bool.true_and, decide_eq_true_eq]
  show n + 0 ≤ t.mask
  omega
theorem SetD.fits {h : Heap} (R : SetD P w h a L o es ep t) : t.fits es.size = true := by
  have q := R.room
  exact fits_of R.tab.dm (R.places.trans R.size.symm) (by rw [R.size]; omega)
theorem SetD.entry {h : Heap} (R : SetD P w h a L o es ep t) {i : Nat} {p : Ent} (hi : L[i]? = some p) : es[i]? = some (rowK P w p) := by
  rw [← Array.getElem?_toList, R.rows, List.getElem?_map, hi, Option.map_some]
/-! ### laying anew -/
/-! ### adding -/
/-! ### set(t) -/
def Keeps (h h' : Heap) : Prop := ∀ b o, h.get? b = some o → h'.get? b = some o
/-- a set, empty and new -/
abbrev newSet (w : World) : Obj := { cls := .type "set", dict := none, data := .set #[] 0 (.fresh 0 0 (!w.params.followText "set-order")) }
end
end Lk

/-! part LkSetB -/
/-! Lk, part 10: the same as a reading. -/
namespace Lk
open PySem PySem.Spec PyProof.Rows L2 Evl
section
variable {X : Cx}
end
end Lk

/-! part LkStr -/
/-! Lk: walks over tuples and texts told by data; all of answers; a tuple beside (). -/
namespace Lk
open PySem PySem.Spec PyProof.Rows L2 Evl
/-! ### t == () -/
def rEqNil (K : PySem.W.Frag) : R2 := fun x y H Q => ∃ a b xs, x = .ref a ∧ y = .ref b ∧ SqT K H a xs ∧ SqT K H b [] ∧ Q (.bl (decide (xs.length = 0))) H
theorem op_eqNil {X : Cx} (hu : X.A.units < cLine) : OpR X (compareOp .Eq) (rEqNil X.K) := by
  rintro pins s σ H x y v u Q I rx ry ⟨a, b, xs, rfl, rfl, ha, hb, q⟩
  cases rx
  cases ry
  obtain ⟨its, r1, p1, _⟩ := I.tuple ha
  obtain ⟨its2, r2, p2, _⟩ := I.tuple hb
  have e2 : its2 = [] := by cases r2; rfl
  subst e2
  refine SeqAt.eq_tupleAt (e := fun _ => true) p1 p2 hu (fun j _ h2 => absurd h2 (by simp)) ?_
  have e : ((List.range (min its.toArray.size ([] : List Value).toArray.size)).all (fun _ => true) && its.toArray.size == ([] : List Value).toArray.size) = decide (xs.length = 0) := by
    rw [r1.length, List.all_eq_true.mpr (fun _ _ => rfl), Bool.true_and, List.size_toArray, List.size_toArray]
    by_cases h : its.length = 0
    · rw [decide_eq_true h, h]
      rfl
    · rw [decide_eq_false h]
      exact beq_eq_false_iff_ne.mpr h
  rw [e]
  exact ⟨.bl _, H, I, rfl, q⟩
section
variable {K K' : PySem.W.Frag} {σ : L2.St} {H : Hp} {ta te tl : TE} {t : TT} {d : PyData} {ds : List PyData}
/-! ### all of a list of answers -/
/-! ### comprehensions over tuples, over texts -/
/-! ### texts -/
/-! ### loops over tuples, lists -/
/-! ### t <= u of whole numbers -/
/-! ### is it a tuple of n items? -/
end
/-! ### data whose texts are short -/
mutual
def smD : PyData → Bool
  | .str x => decide (x.length ≤ 1000)
  | .list ds => smDs ds
  | .tuple ds => smDs ds
  | _ => true
def smDs : List PyData → Bool
  | [] => true
  | d :: ds => smD d && smDs ds
end
theorem RV.is {r : R2} {x y z z' : V} {H : Hp} (h : RV r x y H z) (e : z = z') : RV r x y H z' := by
  rw [← e]
  exact h
end Lk

/-! part LkSl -/
/-! Lk: t[1:] of a tuple told by data; x is None. -/
namespace Lk
open PySem PySem.Spec PyProof.Rows L2 Evl
section
variable {K K' : PySem.W.Frag} {σ : L2.St} {H : Hp} {ta te tl : TE} {t : TT} {d : PyData} {ds : List PyData}
end
end Lk

/-! part LkRev -/
/-! Lk: t[::-1] of a tuple. -/
namespace Lk
open PySem PySem.Spec PyProof.Rows L2 Evl HT
section
variable {prog : Program} {w : World} {A : Around} {E : Value → Shared → Prop} {s : Shared}
end
end Lk

/-! part LkMut -/
/-! Lk: lists that a def makes and writes: the fresh list of a comprehension, walks that leave tuples as they are. -/
namespace Lk
open PySem PySem.Spec PyProof.Rows L2 Evl
section
variable {K K' : PySem.W.Frag} {σ : L2.St} {H : Hp} {te tl : TE} {t : TT} {ds : List PyData} {D : Ends} {tz : TS}
/-- the list at l holds ds; it is no part of the heap H0; tuples of H3 stand -/
def TabAt (K : PySem.W.Frag) (H0 H3 : Hp) (l : Addr) (ds : List PyData) (H' : Hp) : Prop := Ex H0 H' ∧ Tx H3 H' ∧ tupos ds = true ∧ ∃ acc, H' l = some (.lst acc) ∧ DqAll K H' acc ds
theorem TabAt.mono {H0 H3 H' H2 : Hp} {l : Addr} (s : TabAt K H0 H3 l ds H') (e : Ex H' H2) : TabAt K H0 H3 l ds H2 := by
  obtain ⟨a, b, c, acc, d, f⟩ := s
  exact ⟨a.trans e, b.trans (Ex.tx e), c, acc, e l _ d, dps_ex e _ _ f⟩
theorem dps_set {H' : Hp} {v : V} {d : PyData} (dv : Dq K H' v d) : ∀ {ds : List PyData} {xs : List V} {j : Nat}, DqAll K H' xs ds → DqAll K H' (xs.set j v) (ds.set j d)
  | [], _, _, .nil => .nil
  | _ :: _, _, 0, .cons a b => .cons dv b
  | _ :: _, _, j + 1, .cons a b => .cons a (dps_set dv b)
theorem tupos_set {d : PyData} (t : tupo d = true) : ∀ {ds : List PyData} {j : Nat}, tupos ds = true → tupos (ds.set j d) = true
  | [], _, h => h
  | a :: ds, 0, h => by
    rw [tupos] at h
    rw [List.set_cons_zero, tupos, t, (Bool.and_eq_true_iff.mp h).2]
    rfl
  | a :: ds, j + 1, h => by
    rw [tupos] at h
    rw [List.set_cons_succ, tupos, (Bool.and_eq_true_iff.mp h).1, tupos_set t (Bool.and_eq_true_iff.mp h).2]
    rfl
theorem TabAt.set {H0 H3 H' : Hp} {l : Addr} {v : V} {d : PyData} {j : Nat} (s : TabAt K H0 H3 l ds H') (h0 : H0 l = none) (dv : Dq K H' v d) (t : tupo d = true) :
    ∃ acc, H' l = some (.lst acc) ∧ acc.length = ds.length ∧ TabAt K H0 H3 l (ds.set j d) (upd H' l (.lst (acc.set j v))) := by
  obtain ⟨a, b, c, acc, e, f⟩ := s
  refine ⟨acc, e, dps_len f, Ex.mut a h0, b.trans (Tx.lst e), tupos_set t c, _, upd_same, ?_⟩
  exact dps_tx (Tx.lst e) _ _ (tupos_set t c) (dps_set dv f)
end
end Lk

/-! part LkSetC -/
/-! Lk: sorted(set(l)), l a list of whole numbers. -/
namespace Lk
open PySem PySem.Spec PyProof.Rows L2 Evl
section
variable {P : Program} {w : World} {A : Around} {E : Value → Shared → Prop} {s : Shared}
theorem call_set_li {l : Addr} {items : Array Value} (ns : List Int) {Q : Value → Shared → Prop} (hh : A.handled = none) (hl : s.heap.IsList l items) (hit : IntsAre items.toList ns) (hb : ns.length + 1 < scanBound)
    (q : ∀ (h' : Heap) (tk c : Nat), SetR w h' s.heap.objs.size (fun j => decide (j ∈ ns)) c → c ≤ ns.length → Keeps s.heap h' → Q (.ref s.heap.objs.size) { s with heap := h', toks := tk }) : wpAny (model P w) A (call (.type "set") [.ref l]) Q E s := by
  have isz : items.size = ns.length := by rw [← Array.length_toList]; exact IntsAre.length hit
  obtain ⟨c, tl, hmro⟩ := F.called_set.mro
  have hmade := F.called_set.made
  have hsub := F.called_set.sub
  apply wpAny_call
  apply codeAny_of_tree
  show wpAny _ _ (callAny (.type "set") _) _ _ _
  apply wpAny_pure
  refine ⟨Code.quiet_builtin _ (by decide +kernel), codeAny_builtin F.entry_type_call ?_⟩
  rw [Around.under_plain (weight_type_call_type "set" [.ref l] []) rfl]
  have h1 := F.called_set.notType
  have h2 := F.called_set.canCreate
  have hct := F.typeCall_set_1 (.ref l)
  repeat (any_goals (first | assumption | wp_step))
  obtain ⟨S, eS⟩ : ∃ S, S = s.heap.objs.size := ⟨_, rfl⟩
  refine codeAny_mono (code_set_led1 (.ref l) (E := E) (Q₁ := fun obj s₁ => obj = .ref S ∧ s₁ = { s with heap := s.heap.push (newSet w) }) ⟨by rw [eS], rfl⟩) fun r s₁ hr => ?_
  cases r with
  | error e => exact hr
  | ok fl =>
    cases fl with
    | ret obj =>
      obtain ⟨rfl, rfl⟩ := hr
      have atS : (s.heap.push (newSet w)).get? S = some (newSet w) := by
        rw [eS]
        exact Heap.get?_push_size _ rfl
      have hT : Shared.TypeIs { s with heap := s.heap.push (newSet w) } (.ref S) "set" := ⟨_, atS, rfl⟩
      have hli := F.called_set.init.lookup
      have hbi := F.called_set.init.bind (.ref S)
      repeat (any_goals (first | assumption | wp_step))
      refine codeAny_mono (codeAny_call_builtin (R := wants (fun r s₂ => r = .none ∧ ∃ h' tk c, s₂ = { s with heap := h', toks := tk } ∧ SetR w h' S (fun j => decide (j ∈ ns)) c ∧ c ≤ ns.length ∧ Keeps s.heap h') E)
        F.called_set.init.plain F.entry_set_init (check_set_init_1 hT ?_)) fun r₂ s₂ hr₂ => ?_
      · obtain ⟨ol, hol, hcl, nl, hdl⟩ := hl
        obtain ⟨ocls, odict, odata, oslots⟩ := ol
        dsimp only at hcl hdl
        subst hcl hdl
        have hol' : (s.heap.push (newSet w)).get? l = some { cls := .type "list", dict := odict, data := .seq items nl, slots := oslots } := Heap.get?_push_of_some _ hol
        have hsls := F.sub_list_set
        have hslf := F.sub_list_frozenset
        have hne : (Value.type "list" == Value.type "dict") = false := by decide
        have hl1 : (s.heap.push (newSet w)).IsList l items := ⟨_, hol', rfl, nl, rfl⟩
        unfold Builtin.«set.__init__» noKeywords Builtin.Frozenset.updateFrom
        generalize hPI : pyIter = PI
        wp_walk
        subst hPI
        apply wpAny_pyIter_list hl1
        apply wpAny_bind
        apply wpAny_runValue
        have lS : l < S := by
          rw [eS]
          exact Heap.lt_size hol
        obtain ⟨J, eJ⟩ : ∃ J, J = (s.heap.push (newSet w)).objs.size := ⟨_, rfl⟩
        have eJ2 : J = S + 1 := by
          rw [eJ, eS]
          exact Heap.size_push ..
        have SJ : S ∉ [J, l] := by
          rw [eJ2]
          simp only [List.mem_cons, List.not_mem_nil, or_false, not_or]
          exact ⟨Nat.ne_of_lt (Nat.lt_succ_self _), Nat.ne_of_gt lS⟩
        have hv : ∀ (i : Nat) (v : Value), items[i]? = some v → ∃ k t, ns[i]? = some k ∧ v = .int k t := fun i v z => by
          have hi : i < ns.length := by rw [← isz]; exact (Array.getElem?_eq_some_iff.mp z).1
          obtain ⟨t, e⟩ := PyProof.Rows.IntsAre.int_at hit i v (by rw [Array.getElem?_toList]; exact z)
          refine ⟨ns[i], t, List.getElem?_eq_getElem hi, ?_⟩
          rw [e, List.getD_eq_getElem?_getD, List.getElem?_eq_getElem hi]
          rfl
        have hneI : l ≠ (s.heap.push (newSet w)).objs.size := by
          rw [← eJ, eJ2]
          exact Nat.ne_of_lt (Nat.lt_succ_of_lt lS)
        have hh3 : A.in1.in1.in1.handled = none := by simp [hh]
        rw [eJ] at SJ
        apply set_update_ints ((Walks.list hh3 _ l hneI items).toS) S SJ ns isz hb hv (items.size - 0) 0 _ (by omega) (Nat.zero_le _)
          ⟨⟨_, Heap.get?_push_size _ rfl, rfl, rfl⟩, (hl1.push _)⟩ ⟨0, Nat.le_refl 0, setR_new_at (Heap.get?_push_of_some _ atS)⟩
        intro s' c' mv hc' D
        obtain ⟨h', g2, d', tk', os'⟩ := s'
        have eg : g2 = s.gens := mv.gens
        have ed : d' = s.drawn := mv.drawn
        have eo : os' = s.os := mv.os
        subst eg ed eo
        show wpAny _ _ _ _ _ _
        apply wpAny_pure
        show wpAny _ _ (ret Value.none) _ _ _
        apply wpAny_pure
        rw [isz] at hc'
        refine ⟨rfl, h', tk', c', rfl, D, hc', fun b u e => ?_⟩
        have b0 : b < S := by
          rw [eS]
          exact Heap.lt_size e
        refine mv.heap b u ?_ (Heap.get?_push_of_some _ (Heap.get?_push_of_some _ e))
        rw [← eJ, eJ2]
        simp only [List.mem_cons, List.not_mem_nil, or_false, not_or]
        exact ⟨Nat.ne_of_lt b0, Nat.ne_of_lt (Nat.lt_succ_of_lt b0)⟩
      · cases r₂ with
        | error e => exact hr₂
        | ok fl₂ =>
          cases fl₂ with
          | ret r =>
            obtain ⟨rfl, h', tk, c', rfl, D, hc', kp⟩ := hr₂
            subst eS
            repeat (any_goals (first | assumption | wp_step))
            exact q _ _ _ D hc' kp
          | _ => exact hr₂.elim
    | _ => exact hr.elim

end
end Lk

/-! part LkSetE -/
/-! Lk: sorted(set(l)), l a list of whole numbers. -/
namespace Lk
open PySem PySem.Spec PyProof.Rows L2 Evl
/-- sorted(set(l)) -/
def tSortI (K : PySem.W.Frag) (te : TE) : TE := fun σ H Q => te σ H fun x H1 => ∃ (p : Addr) (ns : List Int), x = .ref p ∧ SqL K H1 p (ns.map V.int) ∧ ns.length < 64 ∧ ∀ (out : List Int) (q : Addr), out.Pairwise (· < ·) → (∀ k, k ∈ out ↔ k ∈ ns) → H1 q = none → Q (.ref q) (upd H1 q (.lst (out.map V.int)))
theorem pe_sortI {X : Cx} {a : Expr} {ta : TE} {p p2 q pos : Pos} (hc : X.calm = true) (hg : Gl X "sorted") (hm : X.mg "sorted" = none) (hg2 : Gl X "set") (hm2 : X.mg "set" = none) (ha : PE X a ta)
    (na : starEach [a] X.env = (false, eval a X.env) :: starEach [] X.env := by rfl) : PE X (.Call (.Name "sorted" p) [.Call (.Name "set" p2) [a] [] q] [] pos) (tSortI X.K ta) := by
  constructor
  intro pins s σ H Q I h
  refine Call_ ?_
  apply ld_blt I hg hm PyProof.Rows.boot_sorted
  refine PyProof.Rows.callWith_builtin1 (PyProof.Rows.args_cons ?_ rfl) rfl rfl
  refine Call_ ?_
  apply ld_blt I hg2 hm2 PyProof.Rows.boot_set
  refine PyProof.Rows.callWith_type1 (PyProof.Rows.args_cons (thn (ha.run pins s σ H _ I h) ?_) na) na rfl
  rintro v s1 ⟨x, H1, I1, r1, l, ns, rfl, hq, few, q1⟩
  apply PyProof.Rows.args_nil
  cases r1
  obtain ⟨its, rv, ht, hz⟩ := I1.list hq
  have hd := I1.ok.hd hc
  have hi : IntsAre its.toArray.toList ns := ints_of_vals rv
  refine call_set_li ns hd ht.isList hi (by unfold scanBound; omega) fun h' tk c R hcn kp => ?_
  obtain ⟨s2, e2⟩ : ∃ s2 : Shared, s2 = { s1 with heap := h', toks := tk } := ⟨_, rfl⟩
  have hz2 : h' = s2.heap := by rw [e2]
  have I2 : Inv X pins σ H1 s2 := e2 ▸ I1.kept (t' := tk) kp
  rw [hz2] at R
  rw [← e2]
  apply PyProof.Rows.args_nil
  refine sorted_set R hd (by omega) fun s' p' out c' ns' k g o hp hgt hi' hs hmem hl => ?_
  have hlen : (ns'.map V.int).length ≤ sizeLine := by rw [List.length_map, hl, sizeLine_eq]; omega
  have hn : H1 p' = none := I2.hok.fresh hp
  have J : Inv X pins σ (upd H1 p' (.lst (ns'.map V.int))) { s2 with heap := s'.heap, gens := s'.gens, drawn := s'.drawn, toks := s'.toks } :=
    I2.call (ch := []) (Un.laid k hp hn) (I2.hok.laid k hp ⟨hlen, out.toList, c', vals_of_ints hi', hgt⟩) (by rw [g]; exact I2.bare) (fun _ z => nomatch z)
  have e : s' = { s2 with heap := s'.heap, gens := s'.gens, drawn := s'.drawn, toks := s'.toks } := by
    cases s'
    cases s2
    cases o
    rfl
  rw [e]
  refine ⟨.ref p', _, J, rfl, q1 ns' p' hs (fun k => ?_) hn⟩
  rw [hmem k, decide_eq_true_eq]
end Lk

/-! part LkEq -/
/-! Lk: == and `in` where the one side is of the known shape, the other any data (empty dicts within). -/
namespace Lk
open PySem PySem.Spec PyProof.Rows L2 Evl LamX
open SeqAt
open AutoSeq1 (wpAny_loadPart')
open MeetsSeq
theorem eq_dcl_dict_none (l : Addr) (es : Array DictEntry) (n : Nat) (dd : Option Addr) (sl : Array (Option Value)) :
    Meets (Builtin.«dict.__eq__» ⟨[.ref l, .none], []⟩) (fun _ R s => s.heap.get? l = some { cls := .type "dict", dict := dd, data := .dict es n, slots := sl } ∧ R (.ok (.ret .notImplemented)) s) :=
  .of_wp fun prog w A R s h => by obtain ⟨hp, g, d, tk, os⟩ := s; obtain ⟨hl, h⟩ := h; have f1 := F.sub_NoneType_dict; wp_walk using wpAny_loadPart' hl; exact ⟨_, rfl, h⟩
theorem eq_dcl_dict_bool (l : Addr) (es : Array DictEntry) (n : Nat) (dd : Option Addr) (sl : Array (Option Value)) (b : Bool) :
    Meets (Builtin.«dict.__eq__» ⟨[.ref l, .bool b], []⟩) (fun _ R s => s.heap.get? l = some { cls := .type "dict", dict := dd, data := .dict es n, slots := sl } ∧ R (.ok (.ret .notImplemented)) s) :=
  .of_wp fun prog w A R s h => by obtain ⟨hp, g, d, tk, os⟩ := s; obtain ⟨hl, h⟩ := h; have f1 := F.sub_bool_dict; wp_walk using wpAny_loadPart' hl; exact ⟨_, rfl, h⟩
theorem eq_dcl_dict_int (l : Addr) (es : Array DictEntry) (n : Nat) (dd : Option Addr) (sl : Array (Option Value)) (b : Int) (u : Tok) :
    Meets (Builtin.«dict.__eq__» ⟨[.ref l, .int b u], []⟩) (fun _ R s => s.heap.get? l = some { cls := .type "dict", dict := dd, data := .dict es n, slots := sl } ∧ R (.ok (.ret .notImplemented)) s) :=
  .of_wp fun prog w A R s h => by obtain ⟨hp, g, d, tk, os⟩ := s; obtain ⟨hl, h⟩ := h; have f1 := F.sub_int_dict; wp_walk using wpAny_loadPart' hl; exact ⟨_, rfl, h⟩
theorem eq_dcl_dict_str (l : Addr) (es : Array DictEntry) (n : Nat) (dd : Option Addr) (sl : Array (Option Value)) (b : Str) (u : Tok) :
    Meets (Builtin.«dict.__eq__» ⟨[.ref l, .str b u], []⟩) (fun _ R s => s.heap.get? l = some { cls := .type "dict", dict := dd, data := .dict es n, slots := sl } ∧ R (.ok (.ret .notImplemented)) s) :=
  .of_wp fun prog w A R s h => by obtain ⟨hp, g, d, tk, os⟩ := s; obtain ⟨hl, h⟩ := h; have f1 := F.sub_str_dict; wp_walk using wpAny_loadPart' hl; exact ⟨_, rfl, h⟩
theorem eq_dcl_dict_tuple (l b : Addr) (es : Array DictEntry) (items : Array Value) (n n2 : Nat) (dd dd2 : Option Addr) (sl sl2 : Array (Option Value)) :
    Meets (Builtin.«dict.__eq__» ⟨[.ref l, .ref b], []⟩) (fun _ R s => s.heap.get? l = some { cls := .type "dict", dict := dd, data := .dict es n, slots := sl } ∧ s.heap.get? b = some { cls := .type "tuple", dict := dd2, data := .seq items n2, slots := sl2 } ∧ R (.ok (.ret .notImplemented)) s) :=
  .of_wp fun prog w A R s h => by obtain ⟨hp, g, d, tk, os⟩ := s; obtain ⟨hl, hb, h⟩ := h; have f1 := F.sub_tuple_dict; wp_walk using wpAny_loadPart' hl, wpAny_loadPart' hb; exact ⟨_, rfl, h⟩
theorem eq_dcl_dict_list (l b : Addr) (es : Array DictEntry) (items : Array Value) (n n2 : Nat) (dd dd2 : Option Addr) (sl sl2 : Array (Option Value)) :
    Meets (Builtin.«dict.__eq__» ⟨[.ref l, .ref b], []⟩) (fun _ R s => s.heap.get? l = some { cls := .type "dict", dict := dd, data := .dict es n, slots := sl } ∧ s.heap.get? b = some { cls := .type "list", dict := dd2, data := .seq items n2, slots := sl2 } ∧ R (.ok (.ret .notImplemented)) s) :=
  .of_wp fun prog w A R s h => by obtain ⟨hp, g, d, tk, os⟩ := s; obtain ⟨hl, hb, h⟩ := h; have f1 := F.sub_list_dict; wp_walk using wpAny_loadPart' hl, wpAny_loadPart' hb; exact ⟨_, rfl, h⟩
theorem eq_dcl_tuple_dict (l b : Addr) (es : Array DictEntry) (items : Array Value) (n n2 : Nat) (dd dd2 : Option Addr) (sl sl2 : Array (Option Value)) :
    Meets (Builtin.«tuple.__eq__» ⟨[.ref l, .ref b], []⟩) (fun _ R s => s.heap.get? l = some { cls := .type "tuple", dict := dd, data := .seq items n, slots := sl } ∧ s.heap.get? b = some { cls := .type "dict", dict := dd2, data := .dict es n2, slots := sl2 } ∧ R (.ok (.ret .notImplemented)) s) :=
  .of_wp fun prog w A R s h => by obtain ⟨hp, g, d, tk, os⟩ := s; obtain ⟨hl, hb, h⟩ := h; have f1 := F.sub_dict_tuple; wp_walk using wpAny_loadPart' hl, wpAny_loadPart' hb; exact ⟨_, rfl, h⟩
theorem eq_dcl_list_dict (l b : Addr) (es : Array DictEntry) (items : Array Value) (n n2 : Nat) (dd dd2 : Option Addr) (sl sl2 : Array (Option Value)) :
    Meets (Builtin.«list.__eq__» ⟨[.ref l, .ref b], []⟩) (fun _ R s => s.heap.get? l = some { cls := .type "list", dict := dd, data := .seq items n, slots := sl } ∧ s.heap.get? b = some { cls := .type "dict", dict := dd2, data := .dict es n2, slots := sl2 } ∧ R (.ok (.ret .notImplemented)) s) :=
  .of_wp fun prog w A R s h => by obtain ⟨hp, g, d, tk, os⟩ := s; obtain ⟨hl, hb, h⟩ := h; have f1 := F.sub_dict_list; wp_walk using wpAny_loadPart' hl, wpAny_loadPart' hb; exact ⟨_, rfl, h⟩
theorem eq_dcl_bool_dict (b : Bool) (l : Addr) (c : Value) (es : Array DictEntry) (n : Nat) (dd : Option Addr) (sl : Array (Option Value)) :
    Meets (Builtin.«int.__eq__» ⟨[.bool b, .ref l], []⟩) (fun _ R s => s.heap.get? l = some { cls := c, dict := dd, data := .dict es n, slots := sl } ∧ R (.ok (.ret .notImplemented)) s) :=
  .of_wp fun prog w A R s h => by obtain ⟨hp, g, d, tk, os⟩ := s; obtain ⟨hl, h⟩ := h; wp_walk using wpAny_loadPart' hl, wpAny_load hl; exact ⟨_, rfl, h⟩
theorem eq_dcl_int_dict (b : Int) (u : Tok) (l : Addr) (c : Value) (es : Array DictEntry) (n : Nat) (dd : Option Addr) (sl : Array (Option Value)) :
    Meets (Builtin.«int.__eq__» ⟨[.int b u, .ref l], []⟩) (fun _ R s => s.heap.get? l = some { cls := c, dict := dd, data := .dict es n, slots := sl } ∧ R (.ok (.ret .notImplemented)) s) :=
  .of_wp fun prog w A R s h => by obtain ⟨hp, g, d, tk, os⟩ := s; obtain ⟨hl, h⟩ := h; wp_walk using wpAny_loadPart' hl, wpAny_load hl; exact ⟨_, rfl, h⟩
theorem eq_dcl_str_dict (b : Str) (u : Tok) (l : Addr) (c : Value) (es : Array DictEntry) (n : Nat) (dd : Option Addr) (sl : Array (Option Value)) :
    Meets (Builtin.«str.__eq__» ⟨[.str b u, .ref l], []⟩) (fun _ R s => s.heap.get? l = some { cls := c, dict := dd, data := .dict es n, slots := sl } ∧ R (.ok (.ret .notImplemented)) s) :=
  .of_wp fun prog w A R s h => by obtain ⟨hp, g, d, tk, os⟩ := s; obtain ⟨hl, h⟩ := h; wp_walk using wpAny_loadPart' hl, wpAny_load hl; exact ⟨_, rfl, h⟩
/-- an object that is a dict -/
def IsDc (h : Heap) (a : Addr) : Prop := ∃ o, h.get? a = some o ∧ o.cls = .type "dict" ∧ ∃ es n, o.data = .dict es n
section
variable {A : Around} {s : Shared} {l b : Addr} {items : Array Value}
theorem rc_none_dict (hl : IsDc s.heap l) (hu : A.units < cLine) : RcAt A s .none (.ref l) false := fun prog w E Q h => by
  obtain ⟨⟨cls, dd, data, sl⟩, ho, hc, es, n, hd⟩ := id hl
  simp only at hc hd
  subst hc hd
  exact rc_eq_decline_or (k := false) rfl ⟨_, ho, rfl⟩ (by decide) F.sub_dict_NoneType F.slot_NoneType_eq F.slot_dict_eq_refl
    (fun _ hq => call_gives F.slot_NoneType_eq rfl F.entry_NoneType_eq (F.args_NoneType_eq_2 _ _) (NoneType___eq___none_ref_0 l) hq)
    (fun _ hq => call_meets F.slot_dict_eq_refl ⟨_, ho, rfl⟩ F.entry_dict_eq (F.args_dict_eq_2 _ _) (eq_dcl_dict_none l es n dd sl) ⟨ho, hq⟩)
    (fun _ hq => wpAny_of_eq (rfl : isSame .none (.ref l) = pure false) hq) (.inr hu) h
theorem rc_bool_dict (x : Bool) (hl : IsDc s.heap l) (hu : A.units < cLine) : RcAt A s (.bool x) (.ref l) false := fun prog w E Q h => by
  obtain ⟨⟨cls, dd, data, sl⟩, ho, hc, es, n, hd⟩ := id hl
  simp only at hc hd
  subst hc hd
  exact rc_eq_decline_or (k := false) rfl ⟨_, ho, rfl⟩ (by decide) F.sub_dict_bool F.slot_bool_eq F.slot_dict_eq_refl
    (fun _ hq => call_meets F.slot_bool_eq rfl F.entry_int_eq (F.args_int_eq_2 _ _) (eq_dcl_bool_dict x l (.type "dict") es n dd sl) ⟨ho, hq⟩)
    (fun _ hq => call_meets F.slot_dict_eq_refl ⟨_, ho, rfl⟩ F.entry_dict_eq (F.args_dict_eq_2 _ _) (eq_dcl_dict_bool l es n dd sl x) ⟨ho, hq⟩)
    (fun _ hq => wpAny_of_eq (rfl : isSame (.bool x) (.ref l) = pure false) hq) (.inr hu) h
theorem rc_int_dict (x : Int) (u : Tok) (hl : IsDc s.heap l) (hu : A.units < cLine) : RcAt A s (.int x u) (.ref l) false := fun prog w E Q h => by
  obtain ⟨⟨cls, dd, data, sl⟩, ho, hc, es, n, hd⟩ := id hl
  simp only at hc hd
  subst hc hd
  exact rc_eq_decline_or (k := false) (typeIs_int s x u) ⟨_, ho, rfl⟩ (by decide) F.sub_dict_int F.slot_int_eq F.slot_dict_eq_refl
    (fun _ hq => call_meets F.slot_int_eq (typeIs_int s x u) F.entry_int_eq (F.args_int_eq_2 _ _) (eq_dcl_int_dict x u l (.type "dict") es n dd sl) ⟨ho, hq⟩)
    (fun _ hq => call_meets F.slot_dict_eq_refl ⟨_, ho, rfl⟩ F.entry_dict_eq (F.args_dict_eq_2 _ _) (eq_dcl_dict_int l es n dd sl x u) ⟨ho, hq⟩)
    (fun _ hq => wpAny_of_eq (rfl : isSame (.int x u) (.ref l) = pure false) hq) (.inr hu) h
theorem rc_str_dict (x : Str) (u : Tok) (hl : IsDc s.heap l) (hu : A.units < cLine) : RcAt A s (.str x u) (.ref l) false := fun prog w E Q h => by
  obtain ⟨⟨cls, dd, data, sl⟩, ho, hc, es, n, hd⟩ := id hl
  simp only at hc hd
  subst hc hd
  exact rc_eq_decline_or (k := false) (typeIs_str s x u) ⟨_, ho, rfl⟩ (by decide) F.sub_dict_str F.slot_str_eq F.slot_dict_eq_refl
    (fun _ hq => call_meets F.slot_str_eq (typeIs_str s x u) F.entry_str_eq (F.args_str_eq_2 _ _) (eq_dcl_str_dict x u l (.type "dict") es n dd sl) ⟨ho, hq⟩)
    (fun _ hq => call_meets F.slot_dict_eq_refl ⟨_, ho, rfl⟩ F.entry_dict_eq (F.args_dict_eq_2 _ _) (eq_dcl_dict_str l es n dd sl x u) ⟨ho, hq⟩)
    (fun _ hq => wpAny_of_eq (rfl : isSame (.str x u) (.ref l) = pure false) hq) (.inr hu) h
theorem ne_tuple_dict (hl : s.heap.IsTuple l items) (hb : IsDc s.heap b) : l ≠ b := fun e => by
  subst e
  obtain ⟨o, ho, hc, _⟩ := hl
  obtain ⟨o2, ho2, hc2, _⟩ := hb
  rw [ho] at ho2
  cases ho2
  rw [hc] at hc2
  exact absurd hc2 (by simp)
theorem ne_list_dict (hl : s.heap.IsList l items) (hb : IsDc s.heap b) : l ≠ b := fun e => by
  subst e
  obtain ⟨o, ho, hc, _⟩ := hl
  obtain ⟨o2, ho2, hc2, _⟩ := hb
  rw [ho] at ho2
  cases ho2
  rw [hc] at hc2
  exact absurd hc2 (by simp)
theorem rc_tuple_dict (hl : s.heap.IsTuple l items) (hb : IsDc s.heap b) (hu : A.units < cLine) : RcAt A s (.ref l) (.ref b) false := fun prog w E Q h => by
  have hne := ne_tuple_dict hl hb
  obtain ⟨⟨cls, dd, data, sl⟩, ho, hc, n, hd⟩ := id hl
  obtain ⟨⟨cls2, dd2, data2, sl2⟩, ho2, hc2, es, n2, hd2⟩ := id hb
  simp only at hc hd hc2 hd2
  subst hc hd hc2 hd2
  exact (rc_eq_decline_or (k := false) ⟨_, ho, rfl⟩ ⟨_, ho2, rfl⟩ (by decide) F.sub_dict_tuple F.slot_tuple_eq F.slot_dict_eq_refl
    (fun _ hq => call_meets F.slot_tuple_eq ⟨_, ho, rfl⟩ F.entry_tuple_eq (F.args_tuple_eq_2 _ _) (eq_dcl_tuple_dict l b es items n n2 dd dd2 sl sl2) ⟨ho, ho2, hq⟩)
    (fun _ hq => call_meets F.slot_dict_eq_refl ⟨_, ho2, rfl⟩ F.entry_dict_eq (F.args_dict_eq_2 _ _) (eq_dcl_dict_tuple b l es items n2 n dd2 dd sl2 sl) ⟨ho2, ho, hq⟩)
    (fun _ hq => wpAny_isSame_ref_other' hne ho ho2 (by simp) hq) (.inr hu) h)
theorem rc_list_dict (hl : s.heap.IsList l items) (hb : IsDc s.heap b) (hu : A.units < cLine) : RcAt A s (.ref l) (.ref b) false := fun prog w E Q h => by
  have hne := ne_list_dict hl hb
  obtain ⟨⟨cls, dd, data, sl⟩, ho, hc, n, hd⟩ := id hl
  obtain ⟨⟨cls2, dd2, data2, sl2⟩, ho2, hc2, es, n2, hd2⟩ := id hb
  simp only at hc hd hc2 hd2
  subst hc hd hc2 hd2
  exact (rc_eq_decline_or (k := false) ⟨_, ho, rfl⟩ ⟨_, ho2, rfl⟩ (by decide) F.sub_dict_list F.slot_list_eq F.slot_dict_eq_refl
    (fun _ hq => call_meets F.slot_list_eq ⟨_, ho, rfl⟩ F.entry_list_eq (F.args_list_eq_2 _ _) (eq_dcl_list_dict l b es items n n2 dd dd2 sl sl2) ⟨ho, ho2, hq⟩)
    (fun _ hq => call_meets F.slot_dict_eq_refl ⟨_, ho2, rfl⟩ F.entry_dict_eq (F.args_dict_eq_2 _ _) (eq_dcl_dict_list b l es items n2 n dd2 dd sl2 sl) ⟨ho2, ho, hq⟩)
    (fun _ hq => wpAny_isSame_ref_other' hne ho ho2 (by simp) hq) (.inr hu) h)
theorem eq_none_dict (hl : IsDc s.heap l) (hu : A.units < cLine) : EqAt A s .none (.ref l) false := fun prog w E Q hq => by
  unfold eqBool
  refine wpAny_holding ?_
  refine wpAny_ite_split (fun hab => absurd (eq_of_beq hab) nofun) (fun _ => ?_)
  exact wpAny_bind (rc_none_dict hl hu prog w E _ (wpAny_truthy_bool hq))
theorem eq_bool_dict (x : Bool) (hl : IsDc s.heap l) (hu : A.units < cLine) : EqAt A s (.bool x) (.ref l) false := fun prog w E Q hq => by
  unfold eqBool
  refine wpAny_holding ?_
  refine wpAny_ite_split (fun hab => absurd (eq_of_beq hab) nofun) (fun _ => ?_)
  exact wpAny_bind (rc_bool_dict x hl hu prog w E _ (wpAny_truthy_bool hq))
theorem eq_int_dict (x : Int) (u : Tok) (hl : IsDc s.heap l) (hu : A.units < cLine) : EqAt A s (.int x u) (.ref l) false := fun prog w E Q hq => by
  unfold eqBool
  refine wpAny_holding ?_
  refine wpAny_ite_split (fun hab => absurd (eq_of_beq hab) nofun) (fun _ => ?_)
  exact wpAny_bind (rc_int_dict x u hl hu prog w E _ (wpAny_truthy_bool hq))
theorem eq_str_dict (x : Str) (u : Tok) (hl : IsDc s.heap l) (hu : A.units < cLine) : EqAt A s (.str x u) (.ref l) false := fun prog w E Q hq => by
  unfold eqBool
  refine wpAny_holding ?_
  refine wpAny_ite_split (fun hab => absurd (eq_of_beq hab) nofun) (fun _ => ?_)
  exact wpAny_bind (rc_str_dict x u hl hu prog w E _ (wpAny_truthy_bool hq))
end
/-! ### data with empty dicts within, as it lies in the heap -/
mutual
inductive Rdq (h : Heap) : Value → PyData → Prop
  | none : Rdq h .none .none
  | bool (b : Bool) : Rdq h (.bool b) (.bool b)
  | int (i : Int) (t : Tok) : Rdq h (.int i t) (.int i)
  | str (x : Str) (t : Tok) : Rdq h (.str x t) (.str x)
  | list {a : Addr} {vs : Array Value} {xs : List PyData} : h.IsList a vs → RdqAll h vs.toList xs → Rdq h (.ref a) (.list xs)
  | tuple {a : Addr} {vs : Array Value} {xs : List PyData} : h.IsTuple a vs → RdqAll h vs.toList xs → Rdq h (.ref a) (.tuple xs)
  | dict {a : Addr} {kvs : List (PyData × PyData)} : IsDc h a → Rdq h (.ref a) (.dict kvs)
inductive RdqAll (h : Heap) : List Value → List PyData → Prop
  | nil : RdqAll h [] []
  | cons {v : Value} {vs : List Value} {d : PyData} {ds : List PyData} : Rdq h v d → RdqAll h vs ds → RdqAll h (v :: vs) (d :: ds)
end
theorem rdqAll_len {h : Heap} : ∀ {vs : List Value} {ds : List PyData}, RdqAll h vs ds → vs.length = ds.length
  | _, _, .nil => rfl
  | _, _, .cons _ t => congrArg (· + 1) (rdqAll_len t)
theorem isList_inj {h : Heap} {l : Addr} {xs ys : Array Value} (a : h.IsList l xs) (b : h.IsList l ys) : xs = ys := by
  obtain ⟨o, ho, _, n, hd⟩ := a
  obtain ⟨o2, ho2, _, n2, hd2⟩ := b
  rw [ho] at ho2
  cases ho2
  rw [hd] at hd2
  cases hd2
  rfl
theorem isTuple_inj {h : Heap} {l : Addr} {xs ys : Array Value} (a : h.IsTuple l xs) (b : h.IsTuple l ys) : xs = ys := by
  obtain ⟨o, ho, _, n, hd⟩ := a
  obtain ⟨o2, ho2, _, n2, hd2⟩ := b
  rw [ho] at ho2
  cases ho2
  rw [hd] at hd2
  cases hd2
  rfl
mutual
theorem rdq_unique {s : Shared} : ∀ (d e : PyData) (v : Value) , d.canLay0 = true → Rdq s.heap v d → Rdq s.heap v e → d = e
  | .none, _, _, _, ra, rb => by cases ra; cases rb; rfl
  | .bool _, _, _, _, ra, rb => by cases ra; cases rb; rfl
  | .int _, _, _, _, ra, rb => by cases ra; cases rb; rfl
  | .str _, _, _, _, ra, rb => by cases ra; cases rb; rfl
  | .list xs, _, _, c, ra, rb => by
    cases ra with
    | list k1 k2 =>
      cases rb with
      | list j1 j2 => 
        obtain rfl := isList_inj k1 j1
        rw [rdqAll_unique xs _ _ c k2 j2]
      | tuple j1 j2 => exact (ne_of_list_tuple k1 j1 rfl).elim
      | dict j => exact (ne_list_dict k1 j rfl).elim
  | .tuple xs, _, _, c, ra, rb => by
    cases ra with
    | tuple k1 k2 =>
      cases rb with
      | tuple j1 j2 => 
        obtain rfl := isTuple_inj k1 j1
        rw [rdqAll_unique xs _ _ c k2 j2]
      | list j1 j2 => exact (ne_of_list_tuple j1 k1 rfl).elim
      | dict j => exact (ne_tuple_dict k1 j rfl).elim
  | .dict _, _, _, c, _, _ => nomatch c
theorem rdqAll_unique {s : Shared} : ∀ (ds es : List PyData) (vs : List Value), PyData.canLayAll0 ds = true → RdqAll s.heap vs ds → RdqAll s.heap vs es → ds = es
  | [], _, _, _, ra, rb => by cases ra; cases rb; rfl
  | d :: ds, _, _, c, ra, rb => by
    have c' : d.canLay0 = true ∧ PyData.canLayAll0 ds = true := by simpa [PyData.canLayAll0] using c
    cases ra with
    | cons k1 k2 =>
      cases rb with
      | cons j1 j2 => rw [rdq_unique d _ _ c'.1 k1 j1, rdqAll_unique ds _ _ c'.2 k2 j2]
end
mutual
theorem eqAt_rdq : ∀ (da db : PyData) (A : Around) (s : Shared) (a b : Value), Rdq s.heap a da → Rdq s.heap b db → da.canLay0 = true → A.units + min da.depth db.depth < cLine → EqAt A s a b (PyData.eqv da db)
  | .none, _, A, s, _, _, ra, rb, _, hu => by
    cases ra
    cases rb with
    | none => exact EqAt.same _
    | bool y => exact EqAt.none_bool y
    | int y u => exact EqAt.none_int y u
    | str y u => exact EqAt.none_str y u
    | list k1 k2 => exact EqAt.none_list k1 (room_here hu)
    | tuple k1 k2 => exact EqAt.none_tuple k1 (room_here hu)
    | dict k1 => exact eq_none_dict k1 (room_here hu)
  | .bool x, _, A, s, _, _, ra, rb, _, hu => by
    cases ra
    cases rb with
    | none => exact EqAt.bool_none x
    | bool y => exact EqAt.bool_bool x y
    | int y u => exact EqAt.bool_int x y u
    | str y u => exact EqAt.bool_str x y u
    | list k1 k2 => exact EqAt.bool_list x k1 (room_here hu)
    | tuple k1 k2 => exact EqAt.bool_tuple x k1 (room_here hu)
    | dict k1 => exact eq_bool_dict x k1 (room_here hu)
  | .int x, _, A, s, _, _, ra, rb, _, hu => by
    cases ra with
    | int _ t =>
      cases rb with
      | none => exact EqAt.int_none x t
      | bool y => exact EqAt.int_bool x t y
      | int y u => exact EqAt.int_int x t y u
      | str y u => exact EqAt.int_str x t y u
      | list k1 k2 => exact EqAt.int_list x t k1 (room_here hu)
      | tuple k1 k2 => exact EqAt.int_tuple x t k1 (room_here hu)
      | dict k1 => exact eq_int_dict x t k1 (room_here hu)
  | .str x, _, A, s, _, _, ra, rb, _, hu => by
    cases ra with
    | str _ t =>
      cases rb with
      | none => exact EqAt.str_none x t
      | bool y => exact EqAt.str_bool x t y
      | int y u => exact EqAt.str_int x t y u
      | str y u => exact EqAt.str_str x t y u
      | list k1 k2 => exact EqAt.str_list x t k1 (room_here hu)
      | tuple k1 k2 => exact EqAt.str_tuple x t k1 (room_here hu)
      | dict k1 => exact eq_str_dict x t k1 (room_here hu)
  | .list xs, db, A, s, _, _, ra, rb, ha, hu => by
    cases ra with
    | @list l vs _ hl h4 =>
      cases rb with
      | none => exact EqAt.list_none hl (room_here hu)
      | bool y => exact EqAt.list_bool y hl (room_here hu)
      | int y u => exact EqAt.list_int y u hl (room_here hu)
      | str y u => exact EqAt.list_str y u hl (room_here hu)
      | tuple k1 k2 => exact EqAt.list_tuple hl k1 (room_here hu)
      | dict k1 => exact .of_refs (ne_list_dict hl k1) (rc_list_dict hl k1 (room_here hu))
      | @list l' vs' ys hl' k4 =>
        have n1 : vs.size = xs.length := by simpa using rdqAll_len h4
        have n2 : vs'.size = ys.length := by simpa using rdqAll_len k4
        show EqAt A s (.ref l) (.ref l') (PyData.eqvAll xs ys)
        by_cases hll : l = l'
        · subst hll
          have e : PyData.list xs = PyData.list ys := rdq_unique (.list xs) (.list ys) _ ha (.list hl h4) (.list hl' k4)
          injection e with e
          subst e
          rw [eqvAll_refl xs ha]
          exact EqAt.same _
        · by_cases hsz : vs.size = vs'.size
          · rw [← eqvAll_same_length (by omega : xs.length = ys.length), ← n1]
            refine EqAt.of_refs hll (RcAt.lists hl hl' hsz (room_here hu) fun j j1 j2 => ?_)
            have := eqAt_rdqAll xs ys A.in1 s vs.toList vs'.toList h4 k4 ha (room_in hu) j (by simpa using j1) (by simpa using j2)
            simpa using this
          · rw [eqvAll_other_length (by omega : xs.length ≠ ys.length)]
            exact EqAt.of_refs hll (RcAt.lists_lengths hl hl' (by simpa using hsz) (room_here hu))
  | .tuple xs, db, A, s, _, _, ra, rb, ha, hu => by
    cases ra with
    | @tuple l vs _ hl h4 =>
      cases rb with
      | none => exact EqAt.tuple_none hl (room_here hu)
      | bool y => exact EqAt.tuple_bool y hl (room_here hu)
      | int y u => exact EqAt.tuple_int y u hl (room_here hu)
      | str y u => exact EqAt.tuple_str y u hl (room_here hu)
      | list k1 k2 => exact EqAt.tuple_list hl k1 (room_here hu)
      | dict k1 => exact .of_refs (ne_tuple_dict hl k1) (rc_tuple_dict hl k1 (room_here hu))
      | @tuple l' vs' ys hl' k4 =>
        have n1 : vs.size = xs.length := by simpa using rdqAll_len h4
        have n2 : vs'.size = ys.length := by simpa using rdqAll_len k4
        show EqAt A s (.ref l) (.ref l') (PyData.eqvAll xs ys)
        by_cases hll : l = l'
        · subst hll
          have e : PyData.tuple xs = PyData.tuple ys := rdq_unique (.tuple xs) (.tuple ys) _ ha (.tuple hl h4) (.tuple hl' k4)
          injection e with e
          subst e
          rw [eqvAll_refl xs ha]
          exact EqAt.same _
        · rw [← eqvAll_eq xs ys, ← n1, ← n2]
          refine EqAt.of_refs hll (RcAt.tuples hl hl' (room_here hu) fun j j1 j2 => ?_)
          have := eqAt_rdqAll xs ys A.in1 s vs.toList vs'.toList h4 k4 ha (room_in hu) j (by simpa using j1) (by simpa using j2)
          simpa using this
  | .dict _, _, _, _, _, _, _, _, ha, _ => nomatch ha
theorem eqAt_rdqAll : ∀ (xs ys : List PyData) (A : Around) (s : Shared) (vs ws : List Value), RdqAll s.heap vs xs → RdqAll s.heap ws ys → PyData.canLayAll0 xs = true →
    A.units + min (PyData.depthAll xs) (PyData.depthAll ys) < cLine → ∀ j (h1 : j < vs.length) (h2 : j < ws.length), EqAt A s vs[j] ws[j] (pairEq xs ys j)
  | [], _, _, _, _, _, ra, _, _, _, j, h1, _ => by cases ra; exact absurd h1 (Nat.not_lt_zero _)
  | _ :: _, [], _, _, _, _, _, rb, _, _, j, _, h2 => by cases rb; exact absurd h2 (Nat.not_lt_zero _)
  | x :: xs, y :: ys, A, s, _, _, ra, rb, ha, hu, j, h1, h2 => by
    have ha' : x.canLay0 = true ∧ PyData.canLayAll0 xs = true := by simpa [PyData.canLayAll0] using ha
    cases ra with
    | cons r rs =>
      cases rb with
      | cons r' rs' =>
        cases j with
        | zero => exact eqAt_rdq x y A s _ _ r r' ha'.1 (room_head hu)
        | succ j => exact eqAt_rdqAll xs ys A s _ _ rs rs' ha'.2 (room_tail hu) j (Nat.lt_of_succ_lt_succ h1) (Nat.lt_of_succ_lt_succ h2)
end
/-! ### the hand layer's data is read so -/
section
variable {X : Cx} {pins : List (Addr × Obj)} {σ : L2.St} {H : Hp} {s : Shared}
theorem isDc_of (I : Inv X pins σ H s) {a : Addr} {kvs : List (Key × V)} (h : H a = some (.dK kvs)) : IsDc s.heap a := by
  obtain ⟨_, _, vs, _, o, es, ep, ho, hx, hd, _⟩ := (show ObjOk X.prog X.w H s.heap a (.dK kvs) from I.hok a _ h)
  exact ⟨o, ho, hx.1, es, ep, hd⟩
mutual
theorem dq_rdq (I : Inv X pins σ H s) : ∀ (d : PyData) (v : V) (u : Value), Dq X.K H v d → RelV v u → Rdq s.heap u d
  | .none, _, _, h, r => by
    cases h
    cases r
    exact .none
  | .bool b, _, _, h, r => by
    cases h
    cases r
    exact .bool b
  | .int i, _, _, h, r => by
    cases h
    obtain ⟨t, rfl⟩ := r
    exact .int i t
  | .str x, _, _, h, r => by
    cases h
    obtain ⟨t, rfl⟩ := r
    exact .str x t
  | .list ds, _, _, h, r => by
    cases h with
    | lst hs ha =>
      cases r
      obtain ⟨its, rv, p, _⟩ := I.list hs
      exact .list p.isList (dqs_rdq I ds _ its ha rv)
  | .tuple ds, _, _, h, r => by
    cases h with
    | tup hs ha =>
      cases r
      obtain ⟨its, rv, p, _⟩ := I.tuple hs
      exact .tuple p (dqs_rdq I ds _ its ha rv)
  | .dict _, _, _, h, r => by
    cases h with
    | dct h =>
      cases r
      exact .dict (isDc_of I h)
theorem dqs_rdq (I : Inv X pins σ H s) : ∀ (ds : List PyData) (vs : List V) (us : List Value), DqAll X.K H vs ds → Vals vs us → RdqAll s.heap us ds
  | [], _, _, h, r => by
    cases h
    cases r
    exact .nil
  | d :: ds, _, _, h, r => by
    cases h with
    | cons h1 h2 =>
      cases r with
      | cons r1 r2 => exact .cons (dq_rdq I d _ _ h1 r1) (dqs_rdq I ds _ _ h2 r2)
end
end
end Lk

/-! part LkEqB -/
/-! Lk: `in` of a list or tuple of the known shape, for any data. -/
namespace Lk
open PySem PySem.Spec PyProof.Rows L2 Evl LamX
open SeqAt
open MeetsSeq
mutual
theorem reads_rdq {h : Heap} : ∀ (d : PyData) (v : Value) (as : List Addr), d.canLay0 = true → Reads h v d as → Rdq h v d
  | .none, _, _, _, r => by cases r; exact .none
  | .bool _, _, _, _, r => by cases r; exact .bool _
  | .int _, _, _, _, r => by cases r; exact .int _ _
  | .str _, _, _, _, r => by cases r; exact .str _ _
  | .list xs, _, _, c, r => by
    cases r with
    | list h1 h2 h3 h4 => exact .list ⟨_, h1, h2, _, h3⟩ (readsAll_rdq xs _ _ c h4)
  | .tuple xs, _, _, c, r => by
    cases r with
    | tuple h1 h2 h3 h4 => exact .tuple ⟨_, h1, h2, _, h3⟩ (readsAll_rdq xs _ _ c h4)
  | .dict _, _, _, c, _ => nomatch c
theorem readsAll_rdq {h : Heap} : ∀ (ds : List PyData) (vs : List Value) (as : List Addr), PyData.canLayAll0 ds = true → ReadsAll h vs ds as → RdqAll h vs ds
  | [], _, _, _, r => by cases r; exact .nil
  | d :: ds, _, _, c, r => by
    have c' : d.canLay0 = true ∧ PyData.canLayAll0 ds = true := by simpa [PyData.canLayAll0] using c
    cases r with
    | cons r1 r2 => exact .cons (reads_rdq d _ _ c'.1 r1) (readsAll_rdq ds _ _ c'.2 r2)
end
section
variable {prog : Program} {w : World} {A : Around} {E : Value → Shared → Prop} {s : Shared}
theorem items_any {vs : Array Value} {xs : List PyData} {as : List Addr} {x : Value} {d : PyData} (rs : ReadsAll s.heap vs.toList xs as) (rx : Rdq s.heap x d) (hxs : PyData.canLayAll0 xs = true)
    (hu : A.units + 1 + PyData.depthAll xs < cLine) : ∀ y, y ∈ vs → EqAt A.in1 s y x (PyData.eqv (readOf s.heap y) d) := fun y hy => by
  obtain ⟨dy, cs, ry, hcy, hle⟩ := readsAll_mem xs _ _ hxs rs y (by simpa using hy)
  rw [readOf_eq hcy ry]
  refine eqAt_rdq dy d A.in1 s y x (reads_rdq dy y _ hcy ry) rx hcy ?_
  show A.units + 1 + min dy.depth d.depth < cLine
  omega
theorem in_list_any {c x : Value} {xs : List PyData} {d : PyData} {as : List Addr} {Q : Value → Shared → Prop} (rc : Reads s.heap c (.list xs) as) (rx : Rdq s.heap x d) (hxs : PyData.canLayAll0 xs = true)
    (hu : A.units + 1 + PyData.depthAll xs < cLine) (h : Q (.bool (xs.any fun y => PyData.eqv y d)) s) : wpAny (model prog w) A (compareOp .In x c) Q E s := by
  cases rc with
  | list h1 h2 h3 h4 => exact in_listAt _ ⟨_, h1, h2, _, h3⟩ (items_any h4 rx hxs hu) (by rw [any_by_data h4 hxs]; exact h)
theorem notIn_list_any {c x : Value} {xs : List PyData} {d : PyData} {as : List Addr} {Q : Value → Shared → Prop} (rc : Reads s.heap c (.list xs) as) (rx : Rdq s.heap x d) (hxs : PyData.canLayAll0 xs = true)
    (hu : A.units + 1 + PyData.depthAll xs < cLine) (h : Q (.bool (!xs.any fun y => PyData.eqv y d)) s) : wpAny (model prog w) A (compareOp .NotIn x c) Q E s := by
  cases rc with
  | list h1 h2 h3 h4 => exact notIn_listAt _ ⟨_, h1, h2, _, h3⟩ (items_any h4 rx hxs hu) (by rw [any_by_data h4 hxs]; exact h)
theorem in_tuple_any {c x : Value} {xs : List PyData} {d : PyData} {as : List Addr} {Q : Value → Shared → Prop} (rc : Reads s.heap c (.tuple xs) as) (rx : Rdq s.heap x d) (hxs : PyData.canLayAll0 xs = true)
    (hu : A.units + 1 + PyData.depthAll xs < cLine) (h : Q (.bool (xs.any fun y => PyData.eqv y d)) s) : wpAny (model prog w) A (compareOp .In x c) Q E s := by
  cases rc with
  | tuple h1 h2 h3 h4 => exact in_tupleAt _ ⟨_, h1, h2, _, h3⟩ (items_any h4 rx hxs hu) (by rw [any_by_data h4 hxs]; exact h)
theorem notIn_tuple_any {c x : Value} {xs : List PyData} {d : PyData} {as : List Addr} {Q : Value → Shared → Prop} (rc : Reads s.heap c (.tuple xs) as) (rx : Rdq s.heap x d) (hxs : PyData.canLayAll0 xs = true)
    (hu : A.units + 1 + PyData.depthAll xs < cLine) (h : Q (.bool (!xs.any fun y => PyData.eqv y d)) s) : wpAny (model prog w) A (compareOp .NotIn x c) Q E s := by
  cases rc with
  | tuple h1 h2 h3 h4 => exact notIn_tupleAt _ ⟨_, h1, h2, _, h3⟩ (items_any h4 rx hxs hu) (by rw [any_by_data h4 hxs]; exact h)
end
section
variable {X : Cx}
/-- `in` of a list of the known shape; neg: `not in` -/
def rInA (K : PySem.W.Frag) (neg : Bool) : R2 := fun x y H Q => ∃ d ds, Dq K H x d ∧ Dq K H y (.list ds) ∧ SeqAt.shaped (.list ds) = true ∧ Q (.bl (if neg then !(ds.any fun z => PyData.eqv z d) else ds.any fun z => PyData.eqv z d)) H
def rInTA (K : PySem.W.Frag) (neg : Bool) : R2 := fun x y H Q => ∃ d ds, Dq K H x d ∧ Dq K H y (.tuple ds) ∧ SeqAt.shaped (.tuple ds) = true ∧ Q (.bl (if neg then !(ds.any fun z => PyData.eqv z d) else ds.any fun z => PyData.eqv z d)) H
theorem room_any {ds : List PyData} (sd : SeqAt.shaped (.list ds) = true) {A : Around} (hu : A.units + 65 < cLine) : A.units + 1 + PyData.depthAll ds < cLine := by
  have h : (PyData.list ds).depth ≤ 64 := SeqAt.depth_of_shaped sd
  have e : (PyData.list ds).depth = PyData.depthAll ds + 1 := by simp [PyData.depth]
  omega
theorem op_inA (hu : X.A.units + 65 < cLine) : OpR X (compareOp .In) (rInA X.K false) := by
  rintro pins s σ H x y v u Q I rx ry ⟨d, ds, hd, he, se, q⟩
  obtain ⟨bs, r2⟩ := L2.Dp.reads I (.list ds) y u (sh_dp se he) ry
  refine in_list_any r2 (dq_rdq I d x v hd rx) (SeqAt.canLay_of_shaped se) (room_any se hu) ?_
  exact ⟨.bl _, H, I, rfl, q⟩
theorem op_notInA (hu : X.A.units + 65 < cLine) : OpR X (compareOp .NotIn) (rInA X.K true) := by
  rintro pins s σ H x y v u Q I rx ry ⟨d, ds, hd, he, se, q⟩
  obtain ⟨bs, r2⟩ := L2.Dp.reads I (.list ds) y u (sh_dp se he) ry
  refine notIn_list_any r2 (dq_rdq I d x v hd rx) (SeqAt.canLay_of_shaped se) (room_any se hu) ?_
  exact ⟨.bl _, H, I, rfl, q⟩
theorem op_inTA (hu : X.A.units + 65 < cLine) : OpR X (compareOp .In) (rInTA X.K false) := by
  rintro pins s σ H x y v u Q I rx ry ⟨d, ds, hd, he, se, q⟩
  obtain ⟨bs, r2⟩ := L2.Dp.reads I (.tuple ds) y u (sh_dp se he) ry
  refine in_tuple_any r2 (dq_rdq I d x v hd rx) (SeqAt.canLay_of_shaped se) (room_any (ds := ds) se hu) ?_
  exact ⟨.bl _, H, I, rfl, q⟩
theorem op_notInTA (hu : X.A.units + 65 < cLine) : OpR X (compareOp .NotIn) (rInTA X.K true) := by
  rintro pins s σ H x y v u Q I rx ry ⟨d, ds, hd, he, se, q⟩
  obtain ⟨bs, r2⟩ := L2.Dp.reads I (.tuple ds) y u (sh_dp se he) ry
  refine notIn_tuple_any r2 (dq_rdq I d x v hd rx) (SeqAt.canLay_of_shaped se) (room_any (ds := ds) se hu) ?_
  exact ⟨.bl _, H, I, rfl, q⟩
/-! ### a text times a number -/
def repS (a : Str) (k : Nat) : Str := ⟨((List.replicate k a.cps.toList).flatten).toArray⟩
theorem foldl_arr : ∀ (l : List (Array Nat)) (acc : Array Nat), l.foldl (· ++ ·) acc = acc ++ ((l.map Array.toList).flatten).toArray
  | [], acc => by simp
  | x :: xs, acc => by
    rw [List.foldl_cons, foldl_arr xs, List.map_cons, List.flatten_cons]
    apply Array.ext'
    simp
theorem repS_eq (a : Str) (k : Nat) : (⟨(List.replicate k a.cps).foldl (· ++ ·) #[]⟩ : Str) = repS a k := by
  rw [foldl_arr]
  unfold repS
  congr 1
  rw [List.map_replicate]
  apply Array.ext'
  simp
theorem repS_size (a : Str) (k : Nat) : (repS a k).cps.size = k * a.cps.size := by
  show ((List.replicate k a.cps.toList).flatten).toArray.size = _
  rw [List.size_toArray]
  induction k with
  | zero => simp
  | succ n ih =>
    rw [List.replicate_succ, List.flatten_cons, List.length_append, ih, Nat.succ_mul]
    simp
    omega
def rRepS : R2 := fun x y H Q => ∃ a k, x = .str a ∧ y = .int k ∧ 2 ≤ k ∧ k ≤ 1000 ∧ 1 ≤ a.cps.size ∧ a.cps.size ≤ 1000 ∧ Q (.str (repS a k.toNat)) H
theorem op_repS : OpR X (binaryOp .Mult) rRepS := by
  rintro pins s σ H x y v u Q I rx ry ⟨a, k, rfl, rfl, h1, h2, h3, h4, q⟩
  obtain ⟨t, rfl⟩ := rx
  obtain ⟨t', rfl⟩ := ry
  have hl : a.length = a.cps.size := rfl
  have hm : a.cps.size * k.toNat ≤ 1000 * 1000 := Nat.mul_le_mul h4 (by omega)
  have hz := PySem.sizeLine_eq
  refine P.mul_str ?_ ?_ ?_ ?_
  · rw [decide_eq_false (by omega : ¬ k < -(2 ^ 63 : Int)), decide_eq_false (by omega : ¬ k ≥ 2 ^ 63)]
    rfl
  · intro _ _
    rw [hl]
    have : (1000 : Int) ≤ (2 ^ 63 - 1) / k := by
      rw [Int.le_ediv_iff_mul_le (by omega)]
      omega
    omega
  · intro _ _
    rw [hl]
    exact decide_eq_false (by omega)
  · rw [if_neg (by omega : ¬ k < 1), if_neg (by rw [hl]; intro z; rw [Bool.or_eq_true, beq_iff_eq, beq_iff_eq] at z; omega), repS_eq]
    refine ⟨?_, ⟨.str (repS a k.toNat), H, I.tok _, ⟨_, rfl⟩, q⟩⟩
    first
      | exact decide_eq_false (by rw [repS_size]; rw [Nat.mul_comm]; omega)
      | (show (repS a k.toNat).cps.size ≤ _; rw [repS_size, Nat.mul_comm]; omega)
end
end Lk

/-! part Mk1 -/
/-! Mk, part 1: states of plain values beside the abstract heap. -/
namespace Mk
open PySem PySem.Spec PyProof.Rows L2 Evl Lk LamX
/-- what a slot holds: data that no store touches, a list of one's own, the state of the draws, an exception that was caught -/
inductive O where
  | dat (d : PyData)
  | lst (ds : List PyData)
  | dct (kvs : List (Key × PyData))
  | st
  | exc (C : Addr)
  | xs (es : List (Option Addr))
/-- a def's slots, the number of draws so far, the slots that are lent -/
structure S where
  env : List (Option O)
  n : Nat
  bor : List Nat
/-- what an expression comes to: a thing, or what stands in a slot -/
inductive Rs where
  | val (o : O)
  | slot (i : Nat)
abbrev Ad : Type := Addr → Prop
def nol : Ad := fun _ => False
def alt (R fp : Ad) : Ad := fun a => R a ∨ fp a
def Wf (R : Ad) (fps : Nat → Ad) : Ad := fun a => R a ∨ ∃ i, fps i a
/-- the heap without what is owned, without tables -/
noncomputable def hid (W : Ad) (H : Hp) : Hp := fun a => open Classical in if W a ∨ ∃ ps, H a = some (.tbl ps) then none else H a
theorem hid_some {W : Ad} {H : Hp} {a : Addr} {o : HO} : hid W H a = some o ↔ (H a = some o ∧ ¬ W a ∧ ∀ ps, o ≠ .tbl ps) := by
  unfold hid
  constructor
  · intro h
    by_cases q : W a ∨ ∃ ps, H a = some (.tbl ps)
    · rw [if_pos q] at h; cases h
    · rw [if_neg q] at h
      exact ⟨h, fun z => q (.inl z), fun ps z => q (.inr ⟨ps, by rw [h, z]⟩)⟩
  · rintro ⟨h, w, t⟩
    rw [if_neg]
    · exact h
    · rintro (z | ⟨ps, z⟩)
      · exact w z
      · rw [h] at z
        exact t ps (Option.some.inj z)
theorem hid_ex {W : Ad} {H : Hp} : Ex (hid W H) H := fun a o h => (hid_some.mp h).1
/-- what is not owned stands as it stood -/
def Gr (W : Ad) (H : Hp) (W' : Ad) (H' : Hp) : Prop := Ex (hid W H) (hid W' H')
theorem Gr.refl {W : Ad} {H : Hp} : Gr W H W H := Ex.refl _
theorem Gr.trans {W W1 W2 : Ad} {H H1 H2 : Hp} (a : Gr W H W1 H1) (b : Gr W1 H1 W2 H2) : Gr W H W2 H2 := Ex.trans a b
theorem gr_of {W W' : Ad} {H H' : Hp} (k : ∀ a o, H a = some o → ¬ W a → (∀ ps, o ≠ .tbl ps) → H' a = some o) (w : ∀ a o, H a = some o → ¬ W a → ¬ W' a) : Gr W H W' H' := fun a o h => by
  obtain ⟨h1, h2, h3⟩ := hid_some.mp h
  exact hid_some.mpr ⟨k a o h1 h2 h3, w a o h1 h2, h3⟩
theorem gr_ex {W W' : Ad} {H H' : Hp} (e : Ex H H') (w : ∀ a o, H a = some o → ¬ W a → ¬ W' a) : Gr W H W' H' := gr_of (fun a o h _ _ => e a o h) w
theorem gr_sub {W W' : Ad} {H : Hp} (w : ∀ a, W' a → W a) : Gr W H W' H := gr_of (fun _ _ h _ _ => h) fun a _ _ n z => n (w a z)
/-- the state of the draws at a, its lists at g and c, at most n draws so far -/
def StA (H : Hp) (a g c : Addr) (n : Nat) : Prop := ∃ gs cs r t, StD H a g c gs cs r t ∧ 0 ≤ t ∧ t ≤ (n : Int)
theorem StA.mono {H : Hp} {a g c : Addr} {n m : Nat} (s : StA H a g c n) (e : n ≤ m) : StA H a g c m := by
  obtain ⟨gs, cs, r, t, s, h, h'⟩ := s
  exact ⟨gs, cs, r, t, s, h, by omega⟩
theorem StA.keep {H H' : Hp} {a g c : Addr} {n : Nat} (s : StA H a g c n) (ka : H' a = H a) (kg : H' g = H g) (kc : H' c = H c) : StA H' a g c n := by
  obtain ⟨gs, cs, r, t, s, h, h'⟩ := s
  exact ⟨gs, cs, r, t, ⟨ka.trans s.hd, kg.trans s.hg, kc.trans s.hc, s.hn⟩, h, h'⟩
/-- a dict's pairs -/
inductive KvAll (K : PySem.W.Frag) (F : Hp) : List (Key × V) → List (Key × PyData) → Prop
  | nil : KvAll K F [] []
  | cons {k : Key} {v : V} {d : PyData} {kv : List (Key × V)} {kvs : List (Key × PyData)} : Dq K F v d → KvAll K F kv kvs → KvAll K F ((k, v) :: kv) ((k, d) :: kvs)
theorem kv_ex {K : PySem.W.Frag} {F F' : Hp} (e : Ex F F') {kv : List (Key × V)} {kvs : List (Key × PyData)} (h : KvAll K F kv kvs) : KvAll K F' kv kvs := by
  induction h with
  | nil => exact .nil
  | cons h _ ih => exact .cons (dp_ex e _ _ h) ih
/-- what was caught, one behind another: errors, or None -/
inductive XAll (F : Hp) : List V → List (Option Addr) → Prop
  | nil : XAll F [] []
  | non {vs : List V} {es : List (Option Addr)} : XAll F vs es → XAll F (.non :: vs) (none :: es)
  | exc {a C : Addr} {vs : List V} {es : List (Option Addr)} : F a = some (ExV (.ref C) none a) → XAll F vs es → XAll F (.ref a :: vs) (some C :: es)
theorem xall_ex {F F' : Hp} (e : Ex F F') {vs : List V} {es : List (Option Addr)} (h : XAll F vs es) : XAll F' vs es := by
  induction h with
  | nil => exact .nil
  | non _ ih => exact .non ih
  | exc h _ ih => exact .exc (e _ _ h) ih
theorem xall_app {F : Hp} {vs ws : List V} {es fs : List (Option Addr)} (h : XAll F vs es) (g : XAll F ws fs) : XAll F (vs ++ ws) (es ++ fs) := by
  induction h with
  | nil => exact g
  | non _ ih => exact .non ih
  | exc h _ ih => exact .exc h ih
theorem xall_len {F : Hp} {vs : List V} {es : List (Option Addr)} (h : XAll F vs es) : vs.length = es.length := by
  induction h with
  | nil => rfl
  | non _ ih => exact congrArg Nat.succ ih
  | exc _ _ ih => exact congrArg Nat.succ ih
/-- the thing o stands at v, its own objects at fp -/
inductive At (K : PySem.W.Frag) (F H : Hp) (n : Nat) : V → O → Ad → Prop
  | dat {v : V} {d : PyData} {fp : Ad} (h : Dq K F v d) (e : ∀ a, ¬ fp a) : At K F H n v (.dat d) fp
  | lst {a : Addr} {vs : List V} {ds : List PyData} {fp : Ad} (h : H a = some (.lst vs)) (hd : DqAll K F vs ds) (e : ∀ b, fp b ↔ b = a) : At K F H n (.ref a) (.lst ds) fp
  | dct {a : Addr} {kv : List (Key × V)} {kvs : List (Key × PyData)} {fp : Ad} (h : H a = some (.dK kv)) (hd : KvAll K F kv kvs) (e : ∀ b, fp b ↔ b = a) : At K F H n (.ref a) (.dct kvs) fp
  | st {a g c : Addr} {fp : Ad} (h : StA H a g c n) (e : ∀ b, fp b ↔ (b = a ∨ b = g ∨ b = c)) : At K F H n (.ref a) .st fp
  | exc {a C : Addr} {fp : Ad} (h : F a = some (ExV (.ref C) none a)) (e : ∀ b, ¬ fp b) : At K F H n (.ref a) (.exc C) fp
  | xs {a : Addr} {vs : List V} {es : List (Option Addr)} {fp : Ad} (h : H a = some (.lst vs)) (hd : XAll F vs es) (e : ∀ b, fp b ↔ b = a) : At K F H n (.ref a) (.xs es) fp
section
variable {K : PySem.W.Frag} {F F' H H' : Hp} {n m : Nat} {v : V} {o : O} {fp fp' : Ad}
theorem At.keep (h : At K F H n v o fp) (e : Ex F F') (k : ∀ a, fp a → H' a = H a) (l : n ≤ m) : At K F' H' m v o fp := by
  cases h with
  | dat h z => exact .dat (dp_ex e _ _ h) z
  | lst h hd z => exact .lst ((k _ ((z _).mpr rfl)).trans h) (dps_ex e _ _ hd) z
  | dct h hd z => exact .dct ((k _ ((z _).mpr rfl)).trans h) (kv_ex e hd) z
  | st h z => exact .st ((h.keep (k _ ((z _).mpr (.inl rfl))) (k _ ((z _).mpr (.inr (.inl rfl)))) (k _ ((z _).mpr (.inr (.inr rfl))))).mono l) z
  | exc h z => exact .exc (e _ _ h) z
  | xs h hd z => exact .xs ((k _ ((z _).mpr rfl)).trans h) (xall_ex e hd) z
theorem At.live (h : At K F H n v o fp) {a : Addr} (q : fp a) : Mut (H a) := by
  cases h with
  | dat h z => exact (z a q).elim
  | lst h hd z =>
    rw [z] at q
    subst q
    rw [h]; exact trivial
  | dct h hd z =>
    rw [z] at q
    subst q
    rw [h]; exact trivial
  | st h z =>
    obtain ⟨gs, cs, r, t, s, _⟩ := h
    rcases (z a).mp q with e | e | e
    · subst e; rw [s.hd]; exact trivial
    · subst e; rw [s.hg]; exact trivial
    · subst e; rw [s.hc]; exact trivial
  | exc h z => exact (z a q).elim
  | xs h hd z =>
    rw [z] at q
    subst q
    rw [h]; exact trivial
theorem At.fpc (h : At K F H n v o fp) (e : ∀ a, fp' a ↔ fp a) : At K F H n v o fp' := by
  cases h with
  | dat h z => exact .dat h fun a q => z a ((e a).mp q)
  | lst h hd z => exact .lst h hd fun b => (e b).trans (z b)
  | dct h hd z => exact .dct h hd fun b => (e b).trans (z b)
  | st h z => exact .st h fun b => (e b).trans (z b)
  | exc h z => exact .exc h fun a q => z a ((e a).mp q)
  | xs h hd z => exact .xs h hd fun b => (e b).trans (z b)
end
/-- THE INVARIANT: the slots hold the things of s; R: what others own -/
structure Iv (K : PySem.W.Frag) (T : List (Addr × Str)) (σ0 σ : L2.St) (H : Hp) (s : S) (R : Ad) (fps : Nat → Ad) : Prop where
  len : σ.length = s.env.length
  at_ : ∀ i o, s.env[i]? = some (some o) → ∃ v, σ[i]? = some (some v) ∧ At K (hid (Wf R fps) H) H s.n v o (fps i)
  emp : ∀ i, (∀ o, s.env[i]? ≠ some (some o)) → ∀ a, ¬ fps i a
  dis : ∀ i j a, fps i a → fps j a → i = j
  disR : ∀ i a, fps i a → ¬ R a
  liv : ∀ a, R a → Mut (H a)
  tab : Tabs T H
  bor : ∀ i ∈ s.bor, σ[i]? = σ0[i]?
section
variable {K : PySem.W.Frag} {T : List (Addr × Str)} {σ0 σ : L2.St} {H H' : Hp} {s : S} {R R' fp : Ad} {fps : Nat → Ad}
theorem Iv.live (I : Iv K T σ0 σ H s R fps) {a : Addr} (h : Wf R fps a) : Mut (H a) := by
  rcases h with h | ⟨i, h⟩
  · exact I.liv a h
  · by_cases q : ∃ o, s.env[i]? = some (some o)
    · obtain ⟨o, q⟩ := q
      obtain ⟨v, _, x⟩ := I.at_ i o q
      exact x.live h
    · exact (I.emp i (fun o z => q ⟨o, z⟩) a h).elim
theorem Iv.fresh (I : Iv K T σ0 σ H s R fps) {p : Addr} (h : H p = none) : ¬ Wf R fps p := fun z => by
  have e := I.live z
  rw [h] at e
  exact e
/-- the heap goes on: nothing of ours is touched -/
theorem Iv.step (I : Iv K T σ0 σ H s R fps) (g : Gr (Wf R fps) H (Wf R' fps) H') (k : ∀ i a, fps i a → H' a = H a) (d : ∀ i a, fps i a → ¬ R' a)
    (l : ∀ a, R' a → Mut (H' a)) (t : Tabs T H') : Iv K T σ0 σ H' s R' fps where
  len := I.len
  at_ := fun i o e => by
    obtain ⟨v, h1, h2⟩ := I.at_ i o e
    exact ⟨v, h1, h2.keep g (fun a q => k i a q) (Nat.le_refl _)⟩
  emp := I.emp
  dis := I.dis
  disR := d
  liv := l
  tab := t
  bor := I.bor
/-- some of the others' things are given up -/
theorem Iv.drop (I : Iv K T σ0 σ H s R fps) (h : ∀ a, R' a → R a) : Iv K T σ0 σ H s R' fps :=
  I.step (gr_sub fun a z => z.imp (h a) id) (fun _ _ _ => rfl) (fun i a q z => I.disR i a q (h a z)) (fun a z => I.liv a (h a z)) I.tab
theorem Iv.slotv (I : Iv K T σ0 σ H s R fps) {i : Nat} {o : O} {v : V} (e : s.env[i]? = some (some o)) (h : σ[i]? = some (some v)) : At K (hid (Wf R fps) H) H s.n v o (fps i) := by
  obtain ⟨w, h1, h2⟩ := I.at_ i o e
  rw [h] at h1
  cases h1
  exact h2
end
theorem tabs_new {T : List (Addr × Str)} {H : Hp} {p : Addr} {o : HO} (t : Tabs T H) (hp : H p = none) : Tabs T (upd H p o) := t.ext (Ex.new hp)
end Mk

/-! part Mk2 -/
/-! Mk, part 2: readings that run along with states of plain values. -/
namespace Mk
open PySem PySem.Spec PyProof.Rows L2 Evl Lk LamX
abbrev XM : Type := Addr → S → Prop
abbrev ME : Type := S → (Rs → S → Prop) → XM → Prop
abbrev MD : Type := S → (PyData → S → Prop) → XM → Prop
abbrev MT : Type := S → (Bool → S → Prop) → XM → Prop
abbrev MA : Type := S → (List Rs → S → Prop) → XM → Prop
inductive RAt (K : PySem.W.Frag) (F H : Hp) (n : Nat) (σ : L2.St) : V → Rs → Ad → Prop
  | val {v : V} {o : O} {fp : Ad} (h : At K F H n v o fp) : RAt K F H n σ v (.val o) fp
  | slot {v : V} {i : Nat} {fp : Ad} (h : σ[i]? = some (some v)) (e : ∀ a, ¬ fp a) : RAt K F H n σ v (.slot i) fp
theorem RAt.keep {K : PySem.W.Frag} {F F' H H' : Hp} {n m : Nat} {σ : L2.St} {v : V} {r : Rs} {fp : Ad} (h : RAt K F H n σ v r fp) (e : Ex F F') (k : ∀ a, fp a → H' a = H a) (l : n ≤ m) : RAt K F' H' m σ v r fp := by
  cases h with
  | val h => exact .val (h.keep e k l)
  | slot h z => exact .slot h z
/-- from one state to a later one -/
structure Go (K : PySem.W.Frag) (T : List (Addr × Str)) (σ0 : L2.St) (H : Hp) (s : S) (R : Ad) (fps : Nat → Ad) (σ' : L2.St) (H' : Hp) (s' : S) (R' : Ad) (fps' : Nat → Ad) : Prop where
  iv : Iv K T σ0 σ' H' s' R' fps'
  kp : ∀ a, R a → H' a = H a
  gr : Gr (Wf R fps) H (Wf R' fps') H'
  bo : s'.bor = s.bor
  le : s.n ≤ s'.n
  sb : ∀ a, R a → R' a
section
variable {K : PySem.W.Frag} {T : List (Addr × Str)} {σ0 σ σ1 σ2 : L2.St} {H H1 H2 : Hp} {s s1 s2 : S} {R R1 R2 fp : Ad} {fps fps1 fps2 : Nat → Ad}
theorem Go.refl (I : Iv K T σ0 σ H s R fps) : Go K T σ0 H s R fps σ H s R fps := ⟨I, fun _ _ => rfl, Gr.refl, rfl, Nat.le_refl _, fun _ h => h⟩
theorem Go.trans (a : Go K T σ0 H s R fps σ1 H1 s1 R1 fps1) (b : Go K T σ0 H1 s1 R1 fps1 σ2 H2 s2 R2 fps2) : Go K T σ0 H s R fps σ2 H2 s2 R2 fps2 :=
  ⟨b.iv, fun x h => (b.kp x (a.sb x h)).trans (a.kp x h), a.gr.trans b.gr, b.bo.trans a.bo, Nat.le_trans a.le b.le, fun x h => b.sb x (a.sb x h)⟩
theorem Go.drop (a : Go K T σ0 H s R fps σ1 H1 s1 R1 fps1) (h1 : ∀ x, R x → R2 x) (h2 : ∀ x, R2 x → R1 x) : Go K T σ0 H s R fps σ1 H1 s1 R2 fps1 :=
  ⟨a.iv.drop h2, a.kp, a.gr.trans (gr_sub fun x z => z.imp (h2 x) id), a.bo, a.le, h1⟩
end
section
variable (K : PySem.W.Frag) (T : List (Addr × Str)) (W : WX)
/-- what is wished of the ways out by an error -/
def XOk (σ0 σ : L2.St) (H : Hp) (s : S) (R : Ad) (fps : Nat → Ad) (X : XM) : Prop := ∀ C H' s' fps', Go K T σ0 H s R fps σ H' s' R fps' → X C s' → W (.ref C) none σ H'
def SimE (te : TE) (m : ME) : Prop := ∀ σ0 σ H s R fps, Iv K T σ0 σ H s R fps → ∀ Qm Xm, m s Qm Xm → XOk K T W σ0 σ H s R fps Xm → ∀ Q : VK,
  (∀ v H' s' r fp fps', Go K T σ0 H s R fps σ H' s' (alt R fp) fps' → RAt K (hid (Wf (alt R fp) fps') H') H' s'.n σ v r fp → (∀ a, fp a → ¬ R a) → Qm r s' → Q v H') → te σ H Q
def SimD (te : TE) (m : MD) : Prop := ∀ σ0 σ H s R fps, Iv K T σ0 σ H s R fps → ∀ Qm Xm, m s Qm Xm → XOk K T W σ0 σ H s R fps Xm → ∀ Q : VK,
  (∀ v H' s' d fps', Go K T σ0 H s R fps σ H' s' R fps' → Dq K (hid (Wf R fps') H') v d → Qm d s' → Q v H') → te σ H Q
def SimT (te : TT) (m : MT) : Prop := ∀ σ0 σ H s R fps, Iv K T σ0 σ H s R fps → ∀ Qm Xm, m s Qm Xm → XOk K T W σ0 σ H s R fps Xm → ∀ Q : Bool → Hp → Prop,
  (∀ b H' s' fps', Go K T σ0 H s R fps σ H' s' R fps' → Qm b s' → Q b H') → te σ H Q
/-- arguments, each with its own things -/
inductive RAts (F H : Hp) (n : Nat) (σ : L2.St) : List V → List Rs → List Ad → Prop
  | nil : RAts F H n σ [] [] []
  | cons {v : V} {r : Rs} {fp : Ad} {vs : List V} {rs : List Rs} {l : List Ad} : RAt K F H n σ v r fp → RAts F H n σ vs rs l → RAts F H n σ (v :: vs) (r :: rs) (fp :: l)
def AnyF (l : List Ad) : Ad := fun a => ∃ f ∈ l, f a
def Apart : List Ad → Prop
  | [] => True
  | f :: l => (∀ a, f a → ¬ AnyF l a) ∧ Apart l
def SimA (ta : TA) (m : MA) : Prop := ∀ σ0 σ H s R fps, Iv K T σ0 σ H s R fps → ∀ Qm Xm, m s Qm Xm → XOk K T W σ0 σ H s R fps Xm → ∀ Q : List V → Hp → Prop,
  (∀ vs H' s' rs l fps', Go K T σ0 H s R fps σ H' s' (alt R (AnyF l)) fps' → RAts K (hid (Wf (alt R (AnyF l)) fps') H') H' s'.n σ vs rs l → Apart l → (∀ a, AnyF l a → ¬ R a) → Qm rs s' → Q vs H') → ta σ H Q
end
section
variable {K : PySem.W.Frag} {T : List (Addr × Str)} {W : WX} {σ0 σ σ1 : L2.St} {H H1 : Hp} {s s1 : S} {R R1 : Ad} {fps fps1 : Nat → Ad} {X : XM}
/-- the wish goes on with the run -/
theorem XOk.go (x : XOk K T W σ0 σ H s R fps X) (g : Go K T σ0 H s R fps σ H1 s1 R1 fps1) : XOk K T W σ0 σ H1 s1 R1 fps1 X := fun C H' s' fps' g' h =>
  x C H' s' fps' ((g.trans g').drop (fun _ z => z) g.sb) h
theorem Go.alt0 {fp : Ad} (g : Go K T σ0 H s R fps σ1 H1 s1 R fps1) (h : ∀ a, ¬ fp a) : Go K T σ0 H s R fps σ1 H1 s1 (alt R fp) fps1 := by
  have e : alt R fp = R := funext fun a => propext ⟨fun z => z.elim id fun q => (h a q).elim, fun z => .inl z⟩
  rw [e]; exact g
theorem alt_nol (R : Ad) : alt R nol = R := funext fun a => propext ⟨fun z => z.elim id fun q => q.elim, fun z => .inl z⟩
end
/-! ### what is read of a result -/
def rdO : O → Option PyData
  | .dat d => some d
  | .lst ds => some (.list ds)
  | .dct [] => some (.dict [])
  | _ => none
def rd (s : S) : Rs → Option PyData
  | .val o => rdO o
  | .slot i => match s.env[i]? with
    | some (some o) => rdO o
    | _ => none
def rds (s : S) : List Rs → Option (List PyData)
  | [] => some []
  | r :: rs => match rd s r, rds s rs with
    | some d, some ds => some (d :: ds)
    | _, _ => none
/-- data whose items no store touches -/
inductive VAt (K : PySem.W.Frag) (F H : Hp) : V → PyData → Prop
  | dq {v : V} {d : PyData} : Dq K F v d → VAt K F H v d
  | lst {a : Addr} {vs : List V} {ds : List PyData} : H a = some (.lst vs) → DqAll K F vs ds → VAt K F H (.ref a) (.list ds)
  | dct0 {a : Addr} : H a = some (.dK []) → VAt K F H (.ref a) (.dict [])
inductive VAts (K : PySem.W.Frag) (F H : Hp) : List V → List PyData → Prop
  | nil : VAts K F H [] []
  | cons {v : V} {d : PyData} {vs : List V} {ds : List PyData} : VAt K F H v d → VAts K F H vs ds → VAts K F H (v :: vs) (d :: ds)
section
variable {K : PySem.W.Frag} {T : List (Addr × Str)} {σ0 σ : L2.St} {F H H' : Hp} {n : Nat} {s : S} {R fp : Ad} {fps : Nat → Ad} {v : V} {d : PyData} {ds : List PyData}
theorem VAt.full (h : VAt K F H v d) (e : Ex F H) : Dq K H v d := by
  cases h with
  | dq h => exact dp_ex e _ _ h
  | lst h hd => exact .lst (sq_of h) (dps_ex e _ _ hd)
  | dct0 h => exact .dct h
theorem VAt.list (h : VAt K F H v (.list ds)) (e : Ex F H) : ∃ a xs, v = .ref a ∧ SqL K H a xs ∧ DqAll K F xs ds := by
  cases h with
  | dq h =>
    obtain ⟨a, xs, rfl, h1, h2⟩ := dp_lst h
    exact ⟨a, xs, rfl, ex_l e h1, h2⟩
  | lst h hd => exact ⟨_, _, rfl, sq_of h, hd⟩
theorem VAt.tuple (h : VAt K F H v (.tuple ds)) (e : Ex F H) : ∃ a xs, v = .ref a ∧ SqT K H a xs ∧ DqAll K F xs ds := by
  cases h with
  | dq h =>
    obtain ⟨a, xs, rfl, h1, h2⟩ := dp_tup h
    exact ⟨a, xs, rfl, ex_t e h1, h2⟩
theorem VAt.int {i : Int} (h : VAt K F H v (.int i)) : v = .int i := by
  cases h with
  | dq h => exact dp_int h
theorem VAt.str {i : Str} (h : VAt K F H v (.str i)) : v = .str i := by
  cases h with
  | dq h => exact dp_str h
theorem VAt.bool {i : Bool} (h : VAt K F H v (.bool i)) : v = .bl i := by
  cases h with
  | dq h => exact dp_bool h
theorem VAt.none (h : VAt K F H v .none) : v = .non := by
  cases h with
  | dq h => exact dp_none h
theorem vat_o {o : O} (h : At K F H n v o fp) (e : rdO o = some d) : VAt K F H v d := by
  cases h with
  | dat h _ => cases e; exact .dq h
  | lst h hd _ => cases e; exact .lst h hd
  | dct h hd _ =>
    cases hd with
    | nil => cases e; exact .dct0 h
    | cons _ _ => cases e
  | st _ _ => cases e
  | exc _ _ => cases e
  | xs _ _ _ => cases e
theorem rd_at {r : Rs} (I : Iv K T σ0 σ H s R fps) (h : RAt K (hid (Wf R fps) H) H n σ v r fp) (e : rd s r = some d) : VAt K (hid (Wf R fps) H) H v d := by
  cases h with
  | val h => exact vat_o h e
  | slot h hz =>
    rename_i i
    have e' : (match s.env[i]? with
      | some (some o) => rdO o
      | _ => Option.none) = some d := e
    cases q : s.env[i]? with
    | none => rw [q] at e'; cases e'
    | some x =>
      cases x with
      | none => rw [q] at e'; cases e'
      | some o =>
        rw [q] at e'
        exact vat_o (I.slotv q h) e'
theorem rds_at {vs : List V} {rs : List Rs} {l : List Ad} (I : Iv K T σ0 σ H s R fps) (h : RAts K (hid (Wf R fps) H) H n σ vs rs l) : ∀ {ds : List PyData}, rds s rs = some ds → VAts K (hid (Wf R fps) H) H vs ds := by
  induction h with
  | nil =>
    intro ds e
    cases e
    exact .nil
  | cons h _ ih =>
    intro ds e
    unfold rds at e
    split at e
    · rename_i d ds' q1 q2
      cases e
      exact .cons (rd_at I h q1) (ih q2)
    · cases e
end
/-! ### what an operation comes to -/
inductive Res (K : PySem.W.Frag) (F H : Hp) : V → Hp → O → Prop
  | dat {v : V} {d : PyData} : Dq K F v d → Res K F H v H (.dat d)
  | tup {p : Addr} {vs : List V} {ds : List PyData} : H p = none → DqAll K F vs ds → Res K F H (.ref p) (upd H p (.tup vs)) (.dat (.tuple ds))
  | lst {p : Addr} {vs : List V} {ds : List PyData} : H p = none → DqAll K F vs ds → Res K F H (.ref p) (upd H p (.lst vs)) (.lst ds)
  | dct {p : Addr} {kv : List (Key × V)} {kvs : List (Key × PyData)} : H p = none → KvAll K F kv kvs → Res K F H (.ref p) (upd H p (.dK kv)) (.dct kvs)
/-- rr does on values what f does on data -/
def PSim (K : PySem.W.Frag) (rr : List V → Hp → VK → Prop) (f : List PyData → (O → Prop) → Prop) : Prop := ∀ F H vs ds Qo Q, Ex F H → VAts K F H vs ds → f ds Qo →
  (∀ v H' o, Res K F H v H' o → Qo o → Q v H') → rr vs H Q
section
variable {K : PySem.W.Frag} {T : List (Addr × Str)} {W : WX} {σ0 σ : L2.St} {H H' : Hp} {n : Nat} {s : S} {R fp : Ad} {fps : Nat → Ad} {v : V} {o : O}
/-- behind such an operation, with things of others at R -/
theorem res_go (I : Iv K T σ0 σ H s R fps) (r : Res K (hid (Wf R fps) H) H v H' o) : ∃ fp, Go K T σ0 H s R fps σ H' s (alt R fp) fps ∧ At K (hid (Wf (alt R fp) fps) H') H' s.n v o fp ∧ ∀ a, fp a → H a = none := by
  cases r with
  | dat h =>
    refine ⟨nol, (Go.refl I).alt0 (fun _ z => z), ?_, fun _ z => z.elim⟩
    rw [alt_nol]
    exact .dat h fun _ z => z
  | tup hp h =>
    rename_i p vs ds
    have hW := I.fresh hp
    have g : Gr (Wf R fps) H (Wf R fps) (upd H p (.tup vs)) := gr_ex (Ex.new hp) (fun _ _ _ n => n)
    refine ⟨nol, Go.alt0 ⟨I.step g (fun i a q => upd_ne fun z => hW (.inr ⟨i, z ▸ q⟩)) I.disR (fun a q => ?_) (tabs_new I.tab hp), fun a q => upd_ne fun z => hW (.inl (z ▸ q)), g, rfl, Nat.le_refl _, fun _ z => z⟩ (fun _ z => z), ?_, fun _ z => z.elim⟩
    · have e := I.liv a q
      rw [upd_ne (show a ≠ p from fun z => hW (.inl (z ▸ q)))]
      exact e
    · rw [alt_nol]
      exact .dat (.tup (st_of (hid_some.mpr ⟨upd_same, hW, fun _ z => nomatch z⟩)) (dps_ex g _ _ h)) fun _ z => z
  | lst hp h =>
    rename_i p vs ds
    have hW := I.fresh hp
    have g : Gr (Wf R fps) H (Wf (alt R fun a => a = p) fps) (upd H p (.lst vs)) := gr_ex (Ex.new hp) (fun a u e n z => by
      rcases z with (z | z) | z
      · exact n (.inl z)
      · rw [z, hp] at e; cases e
      · exact n (.inr z))
    refine ⟨fun a => a = p, ⟨I.step g (fun i a q => upd_ne fun z => hW (.inr ⟨i, z ▸ q⟩)) (fun i a q z => ?_) (fun a q => ?_) (tabs_new I.tab hp), fun a q => upd_ne fun z => hW (.inl (z ▸ q)), g, rfl, Nat.le_refl _, fun _ z => .inl z⟩, ?_, fun a z => by rw [z]; exact hp⟩
    · rcases z with z | z
      · exact I.disR i a q z
      · exact hW (.inr ⟨i, z ▸ q⟩)
    · rcases q with q | q
      · have e := I.liv a q
        rw [upd_ne (show a ≠ p from fun z => hW (.inl (z ▸ q)))]
        exact e
      · rw [q, upd_same]
        exact trivial
    · exact .lst upd_same (dps_ex g _ _ h) fun _ => Iff.rfl
  | dct hp h =>
    rename_i p kv kvs
    have hW := I.fresh hp
    have g : Gr (Wf R fps) H (Wf (alt R fun a => a = p) fps) (upd H p (.dK kv)) := gr_ex (Ex.new hp) (fun a u e n z => by
      rcases z with (z | z) | z
      · exact n (.inl z)
      · rw [z, hp] at e; cases e
      · exact n (.inr z))
    refine ⟨fun a => a = p, ⟨I.step g (fun i a q => upd_ne fun z => hW (.inr ⟨i, z ▸ q⟩)) (fun i a q z => ?_) (fun a q => ?_) (tabs_new I.tab hp), fun a q => upd_ne fun z => hW (.inl (z ▸ q)), g, rfl, Nat.le_refl _, fun _ z => .inl z⟩, ?_, fun a z => by rw [z]; exact hp⟩
    · rcases z with z | z
      · exact I.disR i a q z
      · exact hW (.inr ⟨i, z ▸ q⟩)
    · rcases q with q | q
      · have e := I.liv a q
        rw [upd_ne (show a ≠ p from fun z => hW (.inl (z ▸ q)))]
        exact e
      · rw [q, upd_same]
        exact trivial
    · exact .dct upd_same (kv_ex g h) fun _ => Iff.rfl
/-- a call on values that were read -/
def mCB (f : List PyData → (O → Prop) → Prop) (m : MA) : ME := fun s Q X => m s (fun rs s1 => match rds s1 rs with
  | some ds => f ds fun o => Q (.val o) s1
  | none => False) X
theorem sim_cb {rr : List V → Hp → VK → Prop} {f : List PyData → (O → Prop) → Prop} {ta : TA} {m : MA} (hr : PSim K rr f) (ha : SimA K T W ta m) : SimE K T W (tCB rr ta) (mCB f m) := by
  intro σ0 σ H s R fps I Qm Xm hm hx Q hQ
  refine ha σ0 σ H s R fps I _ Xm hm hx _ fun vs H1 s1 rs l fps1 g hrs ap nR q => ?_
  split at q
  · rename_i ds e
    refine hr _ H1 vs ds _ Q hid_ex (rds_at g.iv hrs e) q fun v H2 o r qo => ?_
    obtain ⟨fp, g2, ho, hn⟩ := res_go g.iv r
    have nA : ∀ a, fp a → ¬ R a ∧ ¬ AnyF l a := fun a z => by
      have hf := hn a z
      constructor
      · intro y
        have e := g.iv.liv a (.inl y)
        rw [hf] at e; exact e
      · intro y
        have e := g.iv.liv a (.inr y)
        rw [hf] at e; exact e
    have g3 := (g.trans g2).drop (R2 := alt R fp) (fun _ z => .inl z) (fun a z => z.imp (fun y => .inl y) id)
    refine hQ v H2 s1 (.val o) fp fps1 g3 (.val (ho.keep (gr_sub fun a z => z.imp (fun y => y.imp (fun w => .inl w) id) id) (fun _ _ => rfl) (Nat.le_refl _))) (fun a z => (nA a z).1) qo
  · exact q.elim
end
/-! ### arguments -/
def mNil : MA := fun s Q _ => Q [] s
def mCons (m : ME) (r : MA) : MA := fun s Q X => m s (fun x s1 => r s1 (fun xs s2 => Q (x :: xs) s2) X) X
section
variable {K : PySem.W.Frag} {T : List (Addr × Str)} {W : WX}
theorem RAts.keep {F F' H H' : Hp} {n m : Nat} {σ : L2.St} {vs : List V} {rs : List Rs} {l : List Ad} (h : RAts K F H n σ vs rs l) (e : Ex F F') (k : ∀ a, AnyF l a → H' a = H a) (le : n ≤ m) : RAts K F' H' m σ vs rs l := by
  induction h with
  | nil => exact .nil
  | cons h _ ih => exact .cons (h.keep e (fun a q => k a ⟨_, List.mem_cons_self, q⟩) le) (ih fun a ⟨f, hf, q⟩ => k a ⟨f, List.mem_cons_of_mem _ hf, q⟩)
theorem anyF_cons {f : Ad} {l : List Ad} : AnyF (f :: l) = alt f (AnyF l) := funext fun a => propext ⟨fun ⟨g, hg, q⟩ => by
  rcases List.mem_cons.mp hg with rfl | hg
  · exact .inl q
  · exact .inr ⟨g, hg, q⟩, fun z => by
  rcases z with z | ⟨g, hg, q⟩
  · exact ⟨f, List.mem_cons_self, z⟩
  · exact ⟨g, List.mem_cons_of_mem _ hg, q⟩⟩
theorem alt_assoc (A B C : Ad) : alt (alt A B) C = alt A (alt B C) := funext fun a => propext or_assoc
theorem sim_nil : SimA K T W tNil mNil := by
  intro σ0 σ H s R fps I Qm Xm hm hx Q hQ
  refine hQ [] H s [] [] fps ((Go.refl I).alt0 ?_) .nil trivial ?_ hm
  · rintro a ⟨f, hf, _⟩; cases hf
  · rintro a ⟨f, hf, _⟩; cases hf
theorem sim_cons {te : TE} {ta : TA} {m : ME} {r : MA} (h : SimE K T W te m) (hr : SimA K T W ta r) : SimA K T W (tCons te ta) (mCons m r) := by
  intro σ0 σ H s R fps I Qm Xm hm hx Q hQ
  refine h σ0 σ H s R fps I _ Xm hm hx _ fun v H1 s1 x fp fps1 g hv nR q => ?_
  refine hr σ0 σ H1 s1 _ fps1 g.iv _ Xm q (hx.go g) _ fun vs H2 s2 xs l fps2 g2 hvs ap nR2 q2 => ?_
  have e : alt (alt R fp) (AnyF l) = alt R (AnyF (fp :: l)) := by rw [anyF_cons, alt_assoc]
  have g3 := g.trans g2
  rw [e] at g3 hvs
  refine hQ (v :: vs) H2 s2 (x :: xs) (fp :: l) fps2 g3 (.cons ?_ hvs) ⟨fun a q z => nR2 a z (.inr q), ap⟩ (fun a z y => ?_) q2
  · have g2' := g2.gr
    rw [e] at g2'
    exact hv.keep g2' (fun a q => g2.kp a (.inr q)) g2.le
  · rw [anyF_cons] at z
    rcases z with z | z
    · exact nR a z y
    · exact nR2 a z (.inl y)
end
end Mk

/-! part Mk3 -/
/-! Mk, part 3: slots written, data frozen, tests, statements. -/
namespace Mk
open PySem PySem.Spec PyProof.Rows L2 Evl Lk LamX
def fset (fps : Nat → Ad) (i : Nat) (f : Ad) : Nat → Ad := fun j => if j = i then f else fps j
theorem fset_same {fps : Nat → Ad} {i : Nat} {f : Ad} : fset fps i f i = f := if_pos rfl
theorem fset_ne {fps : Nat → Ad} {i j : Nat} {f : Ad} (h : j ≠ i) : fset fps i f j = fps j := if_neg h
section
variable {K : PySem.W.Frag} {T : List (Addr × Str)} {σ0 σ : L2.St} {H H' : Hp} {s : S} {R R' fp fp' : Ad} {fps : Nat → Ad}
/-- slot i gets another thing -/
theorem Iv.put {i : Nat} {v' : V} {o' : O} {n' : Nat} (I : Iv K T σ0 σ H s R fps) (hi : i < σ.length) (hR : ∀ a, R' a → R a) (g : Gr (Wf R fps) H (Wf R' (fset fps i fp')) H') (k : ∀ j a, j ≠ i → fps j a → H' a = H a)
    (kR : ∀ a, R' a → H' a = H a) (t : Tabs T H') (le : s.n ≤ n') (at' : At K (hid (Wf R' (fset fps i fp')) H') H' n' v' o' fp') (d1 : ∀ a, fp' a → ¬ R' a) (d2 : ∀ j a, j ≠ i → fp' a → ¬ fps j a) (b : i ∈ s.bor → σ[i]? = some (some v')) :
    Iv K T σ0 (σ.set i (some v')) H' ⟨s.env.set i (some o'), n', s.bor⟩ R' (fset fps i fp') where
  len := by rw [List.length_set, List.length_set]; exact I.len
  at_ := fun j o e => by
    by_cases q : j = i
    · subst q
      rw [List.getElem?_set_self (by rw [← I.len]; exact hi)] at e
      have e1 := Option.some.inj (Option.some.inj e)
      subst e1
      exact ⟨v', List.getElem?_set_self hi, by rw [fset_same]; exact at'⟩
    · rw [List.getElem?_set_ne (Ne.symm q)] at e
      obtain ⟨v, h1, h2⟩ := I.at_ j o e
      exact ⟨v, by rw [List.getElem?_set_ne (Ne.symm q)]; exact h1, by rw [fset_ne q]; exact h2.keep g (fun a z => k j a q z) le⟩
  emp := fun j h a z => by
    by_cases q : j = i
    · subst q
      exact h o' (List.getElem?_set_self (by rw [← I.len]; exact hi))
    · rw [fset_ne q] at z
      exact I.emp j (fun o e => h o (by rw [List.getElem?_set_ne (Ne.symm q)]; exact e)) a z
  dis := fun j l a z y => by
    by_cases q : j = i
    · by_cases r : l = i
      · rw [q, r]
      · rw [q, fset_same] at z
        rw [fset_ne r] at y
        exact (d2 l a r z y).elim
    · by_cases r : l = i
      · rw [r, fset_same] at y
        rw [fset_ne q] at z
        exact (d2 j a q y z).elim
      · rw [fset_ne q] at z
        rw [fset_ne r] at y
        exact I.dis j l a z y
  disR := fun j a z => by
    by_cases q : j = i
    · rw [q, fset_same] at z
      exact d1 a z
    · rw [fset_ne q] at z
      exact fun y => I.disR j a z (hR a y)
  liv := fun a z => by
    rw [kR a z]
    exact I.liv a (hR a z)
  tab := t
  bor := fun j hj => by
    by_cases q : j = i
    · subst q
      rw [List.getElem?_set_self hi, ← b hj]
      exact I.bor j hj
    · rw [List.getElem?_set_ne (Ne.symm q)]
      exact I.bor j hj
theorem set_same {σ : L2.St} {i : Nat} {v : V} (h : σ[i]? = some (some v)) : σ.set i (some v) = σ := by
  apply List.ext_getElem?
  intro j
  by_cases q : j = i
  · subst q
    rw [List.getElem?_set_self (List.getElem?_eq_some_iff.mp h).1, h]
  · rw [List.getElem?_set_ne (Ne.symm q)]
theorem lt_of_slot {σ : L2.St} {i : Nat} {v : V} (h : σ[i]? = some (some v)) : i < σ.length := (List.getElem?_eq_some_iff.mp h).1
theorem wf_fset {R : Ad} {fps : Nat → Ad} {i : Nat} {f : Ad} {a : Addr} (h : Wf R (fset fps i f) a) : R a ∨ f a ∨ ∃ j, j ≠ i ∧ fps j a := by
  rcases h with h | ⟨j, h⟩
  · exact .inl h
  · by_cases q : j = i
    · rw [q, fset_same] at h
      exact .inr (.inl h)
    · rw [fset_ne q] at h
      exact .inr (.inr ⟨j, q, h⟩)
end
/-! ### data for good -/
def frz (s : S) : Rs → Option (PyData × S)
  | .val o => match rdO o with
    | some d => some (d, s)
    | none => none
  | .slot i => match s.env[i]? with
    | some (some (.dat d)) => some (d, s)
    | some (some (.lst ds)) => some (.list ds, ⟨s.env.set i (some (.dat (.list ds))), s.n, s.bor⟩)
    | _ => none
section
variable {K : PySem.W.Frag} {T : List (Addr × Str)} {W : WX} {σ0 σ : L2.St} {H H' H0 : Hp} {s s' s0 : S} {R R' fp fp' : Ad} {fps fps0 : Nat → Ad} {v : V} {d : PyData} {r : Rs}
theorem frz_o {n : Nat} {o : O} (I : Iv K T σ0 σ H s (alt R fp) fps) (h : At K (hid (Wf (alt R fp) fps) H) H n v o fp) (nR : ∀ a, fp a → ¬ R a) (e : rdO o = some d) :
    Dq K (hid (Wf R fps) H) v d := by
  have g : Gr (Wf (alt R fp) fps) H (Wf R fps) H := gr_sub fun a z => z.imp .inl id
  cases h with
  | dat h _ => cases e; exact dp_ex g _ _ h
  | lst h hd z =>
    cases e
    refine .lst (sq_of (hid_some.mpr ⟨h, ?_, fun _ z => nomatch z⟩)) (dps_ex g _ _ hd)
    rintro (y | ⟨j, y⟩)
    · exact nR _ ((z _).mpr rfl) y
    · exact I.disR j _ y (.inr ((z _).mpr rfl))
  | dct h hd z =>
    cases hd with
    | cons _ _ => cases e
    | nil =>
      cases e
      refine .dct (hid_some.mpr ⟨h, ?_, fun _ z => nomatch z⟩)
      rintro (y | ⟨j, y⟩)
      · exact nR _ ((z _).mpr rfl) y
      · exact I.disR j _ y (.inr ((z _).mpr rfl))
  | st _ _ => cases e
  | exc _ _ => cases e
  | xs _ _ _ => cases e
theorem frz_go (I : Iv K T σ0 σ H s (alt R fp) fps) (h : RAt K (hid (Wf (alt R fp) fps) H) H s.n σ v r fp) (nR : ∀ a, fp a → ¬ R a) (e : frz s r = some (d, s')) :
    ∃ fps', Iv K T σ0 σ H s' R fps' ∧ Gr (Wf (alt R fp) fps) H (Wf R fps') H ∧ Dq K (hid (Wf R fps') H) v d ∧ s'.bor = s.bor ∧ s'.n = s.n := by
  have g : Gr (Wf (alt R fp) fps) H (Wf R fps) H := gr_sub fun a z => z.imp .inl id
  cases h with
  | val h =>
    rename_i o
    have e' : (match rdO o with | some d => some (d, s) | none => none) = some (d, s') := e
    cases q : rdO o with
    | none => rw [q] at e'; cases e'
    | some d1 =>
      rw [q] at e'
      cases e'
      exact ⟨fps, I.drop fun a z => .inl z, g, frz_o I h nR q, rfl, rfl⟩
  | slot h hz =>
    rename_i i
    have ef : alt R fp = R := funext fun a => propext ⟨fun z => z.elim id fun q => (hz a q).elim, .inl⟩
    rw [ef] at I g ⊢
    have e' : (match s.env[i]? with
      | some (some (.dat d)) => some (d, s)
      | some (some (.lst ds)) => some (.list ds, ⟨s.env.set i (some (.dat (.list ds))), s.n, s.bor⟩)
      | _ => none) = some (d, s') := e
    cases q : s.env[i]? with
    | none => rw [q] at e'; cases e'
    | some x =>
      cases x with
      | none => rw [q] at e'; cases e'
      | some o =>
        have ha := I.slotv q h
        cases o with
        | dat d1 =>
          rw [q] at e'
          cases e'
          cases ha with
          | dat ha _ => exact ⟨fps, I, Gr.refl, ha, rfl, rfl⟩
        | lst ds =>
          rw [q] at e'
          cases e'
          cases ha with
          | lst ha hd z =>
            rename_i a vs
            have g2 : Gr (Wf R fps) H (Wf R (fset fps i nol)) H := gr_sub fun b y => by
              rcases wf_fset y with y | y | ⟨j, _, y⟩
              · exact .inl y
              · exact y.elim
              · exact .inr ⟨j, y⟩
            have hq : Dq K (hid (Wf R (fset fps i nol)) H) (.ref a) (.list ds) := by
              refine .lst (sq_of (hid_some.mpr ⟨ha, fun y => ?_, fun _ z => nomatch z⟩)) (dps_ex g2 _ _ hd)
              rcases wf_fset y with y | y | ⟨j, hj, y⟩
              · exact I.disR i a ((z a).mpr rfl) y
              · exact y
              · exact hj (I.dis j i a y ((z a).mpr rfl))
            have P := I.put (R' := R) (H' := H) (fp' := nol) (v' := .ref a) (o' := .dat (.list ds)) (n' := s.n) (lt_of_slot h) (fun _ z => z) g2 (fun _ _ _ _ => rfl) (fun _ _ => rfl) I.tab (Nat.le_refl _) (.dat hq fun _ z => z) (fun _ z => z.elim) (fun _ _ _ z => z.elim) (fun _ => h)
            rw [set_same h] at P
            exact ⟨_, P, g2, hq, rfl, rfl⟩
        | dct kvs => rw [q] at e'; cases e'
        | st => rw [q] at e'; cases e'
        | exc C => rw [q] at e'; cases e'
        | xs es => rw [q] at e'; cases e'
def mD (m : ME) : MD := fun s Q X => m s (fun r s1 => match frz s1 r with
  | some (d, s2) => Q d s2
  | none => False) X
theorem sim_d {te : TE} {m : ME} (h : SimE K T W te m) : SimD K T W te (mD m) := by
  intro σ0 σ H s R fps I Qm Xm hm hx Q hQ
  refine h σ0 σ H s R fps I _ Xm hm hx _ fun v H1 s1 r fp fps1 g hr nR q => ?_
  split at q
  · rename_i d s2 e
    obtain ⟨fps2, I2, g2, hd, hb, hn⟩ := frz_go g.iv hr nR e
    exact hQ v H1 s2 d fps2 ⟨I2, g.kp, g.gr.trans g2, hb.trans g.bo, Nat.le_trans g.le (Nat.le_of_eq hn.symm), fun _ z => z⟩ hd q
  · exact q.elim
theorem d_sim {te : TE} {m : MD} (h : SimD K T W te m) : SimE K T W te fun s Q X => m s (fun d s1 => Q (.val (.dat d)) s1) X := by
  intro σ0 σ H s R fps I Qm Xm hm hx Q hQ
  refine h σ0 σ H s R fps I _ Xm hm hx _ fun v H1 s1 d fps1 g hd q => ?_
  refine hQ v H1 s1 _ nol fps1 (g.alt0 fun _ z => z) (.val (.dat ?_ fun _ z => z)) (fun _ z => z.elim) q
  rw [alt_nol]; exact hd
end
/-! ### names, constants -/
def mVar (i : Nat) : ME := fun s Q _ => match s.env[i]? with
  | some (some (.dat d)) => Q (.val (.dat d)) s
  | some (some (.exc C)) => Q (.val (.exc C)) s
  | some (some _) => Q (.slot i) s
  | _ => False
def mC (d : PyData) : ME := fun s Q _ => Q (.val (.dat d)) s
section
variable {K : PySem.W.Frag} {T : List (Addr × Str)} {W : WX}
theorem sim_var {i : Nat} : SimE K T W (tVar i) (mVar i) := by
  intro σ0 σ H s R fps I Qm Xm hm hx Q hQ
  unfold mVar at hm
  have fin : ∀ v o, σ[i]? = some (some v) → At K (hid (Wf R fps) H) H s.n v o nol → Qm (.val o) s → tVar i σ H Q := fun v o e h q =>
    ⟨v, e, hQ v H s (.val o) nol fps ((Go.refl I).alt0 fun _ z => z) (.val (by rw [alt_nol]; exact h)) (fun _ z => z.elim) q⟩
  have fin2 : ∀ o, s.env[i]? = some (some o) → Qm (.slot i) s → tVar i σ H Q := fun o q hm => by
    obtain ⟨v, e, h⟩ := I.at_ i _ q
    exact ⟨v, e, hQ v H s (.slot i) nol fps ((Go.refl I).alt0 fun _ z => z) (.slot e fun _ z => z) (fun _ z => z.elim) hm⟩
  split at hm
  · rename_i d q
    obtain ⟨v, e, h⟩ := I.at_ i _ q
    cases h with
    | dat h _ => exact fin v _ e (.dat h fun _ z => z) hm
  · rename_i C q
    obtain ⟨v, e, h⟩ := I.at_ i _ q
    cases h with
    | exc h _ => exact fin _ _ e (.exc h fun _ z => z) hm
  · rename_i o q1 q2 q
    exact fin2 o q hm
  · exact hm.elim
/-- a constant that stands in any heap -/
theorem sim_c {v : V} {d : PyData} (h : ∀ F, Dq K F v d) : SimE K T W (tC v) (mC d) := by
  intro σ0 σ H s R fps I Qm Xm hm hx Q hQ
  exact hQ v H s _ nol fps ((Go.refl I).alt0 fun _ z => z) (.val (.dat (h _) fun _ z => z)) (fun _ z => z.elim) hm
/-! ### tests -/
/-- an expression whose value is True or False, as a test -/
def mB (m : ME) : MT := fun s Q X => m s (fun r s1 => match r with
  | .val (.dat (.bool b)) => Q b s1
  | _ => False) X
theorem sim_b {te : TE} {m : ME} (h : SimE K T W te m) : SimT K T W (tB te) (mB m) := by
  intro σ0 σ H s R fps I Qm Xm hm hx Q hQ
  refine h σ0 σ H s R fps I _ Xm hm hx _ fun v H1 s1 r fp fps1 g hr nR q => ?_
  split at q
  · rename_i b
    cases hr with
    | val ho =>
      cases ho with
      | dat hd _ =>
        cases dp_bool hd
        exact ⟨b, rfl, hQ b H1 s1 fps1 (g.drop (fun _ z => z) fun _ z => .inl z) q⟩
  · exact q.elim
theorem sim_test {te : TE} {m : ME} (h : SimE K T W te m) : SimT K T W (tTest te) (mB m) := sim_b h
def mAnd (a b : MT) : MT := fun s Q X => a s (fun c s1 => if c = true then b s1 Q X else Q false s1) X
def mOr (a b : MT) : MT := fun s Q X => a s (fun c s1 => if c = true then Q true s1 else b s1 Q X) X
def mNot (a : MT) : MT := fun s Q X => a s (fun c s1 => Q (!c) s1) X
theorem sim_and {t u : TT} {a b : MT} (h : SimT K T W t a) (h2 : SimT K T W u b) : SimT K T W (tAnd t u) (mAnd a b) := by
  intro σ0 σ H s R fps I Qm Xm hm hx Q hQ
  refine h σ0 σ H s R fps I _ Xm hm hx _ fun c H1 s1 fps1 g q => ?_
  cases c with
  | true => exact h2 σ0 σ H1 s1 R fps1 g.iv Qm Xm q (hx.go g) Q fun b H2 s2 fps2 g2 => hQ b H2 s2 fps2 (g.trans g2)
  | false => exact hQ false H1 s1 fps1 g q
theorem sim_or {t u : TT} {a b : MT} (h : SimT K T W t a) (h2 : SimT K T W u b) : SimT K T W (tOr t u) (mOr a b) := by
  intro σ0 σ H s R fps I Qm Xm hm hx Q hQ
  refine h σ0 σ H s R fps I _ Xm hm hx _ fun c H1 s1 fps1 g q => ?_
  cases c with
  | true => exact hQ true H1 s1 fps1 g q
  | false => exact h2 σ0 σ H1 s1 R fps1 g.iv Qm Xm q (hx.go g) Q fun b H2 s2 fps2 g2 => hQ b H2 s2 fps2 (g.trans g2)
theorem sim_not {t : TT} {a : MT} (h : SimT K T W t a) : SimT K T W (tNot t) (mNot a) := by
  intro σ0 σ H s R fps I Qm Xm hm hx Q hQ
  exact h σ0 σ H s R fps I _ Xm hm hx _ fun c H1 s1 fps1 g q => hQ (!c) H1 s1 fps1 g q
/-- .. as values -/
def mAndV (a : MT) (b : ME) : ME := fun s Q X => a s (fun c s1 => if c = true then b s1 Q X else Q (.val (.dat (.bool false))) s1) X
def mOrV (a : MT) (b : ME) : ME := fun s Q X => a s (fun c s1 => if c = true then Q (.val (.dat (.bool true))) s1 else b s1 Q X) X
theorem out_e {σ0 σ : L2.St} {H H1 : Hp} {s s1 : S} {R : Ad} {fps fps1 : Nat → Ad} {Qm : Rs → S → Prop} {Q : VK} {v : V} {d : PyData} (g : Go K T σ0 H s R fps σ H1 s1 R fps1) (hd : ∀ F, Dq K F v d)
    (hQ : ∀ v H' s' r fp fps', Go K T σ0 H s R fps σ H' s' (alt R fp) fps' → RAt K (hid (Wf (alt R fp) fps') H') H' s'.n σ v r fp → (∀ a, fp a → ¬ R a) → Qm r s' → Q v H') (q : Qm (.val (.dat d)) s1) : Q v H1 :=
  hQ v H1 s1 _ nol fps1 (g.alt0 fun _ z => z) (.val (.dat (hd _) fun _ z => z)) (fun _ z => z.elim) q
theorem sim_andV {ta tb : TE} {a b : ME} (h : SimE K T W ta a) (h2 : SimE K T W tb b) : SimE K T W (tAndV ta tb) (mAndV (mB a) b) := by
  intro σ0 σ H s R fps I Qm Xm hm hx Q hQ
  refine sim_b h σ0 σ H s R fps I _ Xm hm hx (fun c H1 => if c = true then tb σ H1 Q else Q (.bl false) H1) fun c H1 s1 fps1 g q => ?_
  cases c with
  | true => exact h2 σ0 σ H1 s1 R fps1 g.iv Qm Xm q (hx.go g) Q fun v H2 s2 r fp fps2 g2 => hQ v H2 s2 r fp fps2 (g.trans g2)
  | false => exact out_e g (fun _ => .bl false) hQ q
def mNotV (a : MT) : ME := fun s Q X => a s (fun c s1 => Q (.val (.dat (.bool (!c)))) s1) X
theorem sim_notV {ta : TE} {a : ME} (h : SimE K T W ta a) : SimE K T W (tNotV ta) (mNotV (mB a)) := by
  intro σ0 σ H s R fps I Qm Xm hm hx Q hQ
  exact sim_b h σ0 σ H s R fps I _ Xm hm hx (fun c H1 => Q (.bl (!c)) H1) fun c H1 s1 fps1 g q => out_e g (fun _ => .bl (!c)) hQ q
def mIfE (c : MT) (a b : ME) : ME := fun s Q X => c s (fun k s1 => if k = true then a s1 Q X else b s1 Q X) X
theorem sim_ifE {t : TT} {ta tb : TE} {c : MT} {a b : ME} (h : SimT K T W t c) (h1 : SimE K T W ta a) (h2 : SimE K T W tb b) : SimE K T W (tIf t ta tb) (mIfE c a b) := by
  intro σ0 σ H s R fps I Qm Xm hm hx Q hQ
  refine h σ0 σ H s R fps I _ Xm hm hx _ fun k H1 s1 fps1 g q => ?_
  cases k with
  | true => exact h1 σ0 σ H1 s1 R fps1 g.iv Qm Xm q (hx.go g) Q fun v H2 s2 r fp fps2 g2 => hQ v H2 s2 r fp fps2 (g.trans g2)
  | false => exact h2 σ0 σ H1 s1 R fps1 g.iv Qm Xm q (hx.go g) Q fun v H2 s2 r fp fps2 g2 => hQ v H2 s2 r fp fps2 (g.trans g2)
end
/-! ### statements -/
structure SK where
  nx : S → Prop
  rt : O → S → Prop
  bk : S → Prop
  ct : S → Prop
  er : XM
abbrev MS : Type := S → SK → Prop
section
variable (K : PySem.W.Frag) (T : List (Addr × Str)) (W : WX)
structure DOk (σ0 : L2.St) (H : Hp) (s : S) (R : Ad) (fps : Nat → Ad) (D : Ends) (k : SK) : Prop where
  nx : ∀ σ' H' s' fps', Go K T σ0 H s R fps σ' H' s' R fps' → k.nx s' → D.nx σ' H'
  rt : ∀ σ' H' s' v o fp fps', Go K T σ0 H s R fps σ' H' s' (alt R fp) fps' → At K (hid (Wf (alt R fp) fps') H') H' s'.n v o fp → (∀ a, fp a → ¬ R a) → k.rt o s' → D.rt v H'
  bk : ∀ σ' H' s' fps', Go K T σ0 H s R fps σ' H' s' R fps' → k.bk s' → D.bk σ' H'
  ct : ∀ σ' H' s' fps', Go K T σ0 H s R fps σ' H' s' R fps' → k.ct s' → D.ct σ' H'
  er : ∀ C σ' H' s' fps', Go K T σ0 H s R fps σ' H' s' R fps' → k.er C s' → W (.ref C) none σ' H'
def SimS (ts : TS) (m : MS) : Prop := ∀ σ0 σ H s R fps, Iv K T σ0 σ H s R fps → ∀ D k, m s k → DOk K T W σ0 H s R fps D k → ts D σ H
end
section
variable {K : PySem.W.Frag} {T : List (Addr × Str)} {W : WX} {σ0 σ σ1 : L2.St} {H H1 : Hp} {s s1 : S} {R : Ad} {fps fps1 : Nat → Ad} {D : Ends} {k : SK}
theorem DOk.go (x : DOk K T W σ0 H s R fps D k) (g : Go K T σ0 H s R fps σ1 H1 s1 R fps1) : DOk K T W σ0 H1 s1 R fps1 D k where
  nx := fun σ' H' s' fps' g' => x.nx σ' H' s' fps' (g.trans g')
  rt := fun σ' H' s' v o fp fps' g' => x.rt σ' H' s' v o fp fps' (g.trans g')
  bk := fun σ' H' s' fps' g' => x.bk σ' H' s' fps' (g.trans g')
  ct := fun σ' H' s' fps' g' => x.ct σ' H' s' fps' (g.trans g')
  er := fun C σ' H' s' fps' g' => x.er C σ' H' s' fps' (g.trans g')
theorem DOk.xok (x : DOk K T W σ0 H s R fps D k) : XOk K T W σ0 σ H s R fps k.er := fun C H' s' fps' g h => x.er C σ H' s' fps' g h
def mNext : MS := fun s k => k.nx s
def mSeq (a b : MS) : MS := fun s k => a s { k with nx := fun s1 => b s1 k }
theorem sim_next : SimS K T W tNext mNext := fun σ0 σ H s R fps I D k h x => x.nx σ H s fps (Go.refl I) h
theorem sim_seq {ta tb : TS} {a b : MS} (h : SimS K T W ta a) (h2 : SimS K T W tb b) : SimS K T W (tSeq ta tb) (mSeq a b) := fun σ0 σ H s R fps I D k hm x =>
  h σ0 σ H s R fps I _ _ hm ⟨fun σ' H' s' fps' g q => h2 σ0 σ' H' s' R fps' g.iv D k q (x.go g), x.rt, x.bk, x.ct, x.er⟩
def mIf (c : MT) (a b : MS) : MS := fun s k => c s (fun q s1 => if q = true then a s1 k else b s1 k) k.er
theorem sim_if {t : TT} {ta tb : TS} {c : MT} {a b : MS} (h : SimT K T W t c) (h1 : SimS K T W ta a) (h2 : SimS K T W tb b) : SimS K T W (tIfS t ta tb) (mIf c a b) := fun σ0 σ H s R fps I D k hm x =>
  h σ0 σ H s R fps I _ k.er hm x.xok _ fun q H1 s1 fps1 g hq => by
    cases q with
    | true => exact h1 σ0 σ H1 s1 R fps1 g.iv D k hq (x.go g)
    | false => exact h2 σ0 σ H1 s1 R fps1 g.iv D k hq (x.go g)
def mBreak : MS := fun s k => k.bk s
def mCont : MS := fun s k => k.ct s
def mDrop (m : ME) : MS := fun s k => m s (fun _ s1 => k.nx s1) k.er
theorem sim_drop {te : TE} {m : ME} (h : SimE K T W te m) : SimS K T W (tDrop te) (mDrop m) := fun σ0 σ H s R fps I D k hm x =>
  h σ0 σ H s R fps I _ k.er hm x.xok _ fun v H1 s1 r fp fps1 g _ _ q => x.nx σ H1 s1 fps1 (g.drop (fun _ z => z) fun _ z => .inl z) q
/-- what is handed on: a thing of one's own goes along -/
def mov (s : S) : Rs → Option (O × S)
  | .val o => some (o, s)
  | .slot i => match s.env[i]? with
    | some (some (.dct kvs)) => some (.dct kvs, ⟨s.env.set i none, s.n, s.bor⟩)
    | _ => match frz s (.slot i) with
      | some (d, s1) => some (.dat d, s1)
      | none => none
theorem mov_dct {i : Nat} {v : V} {kvs : List (Key × PyData)} {fp : Ad} (I : Iv K T σ0 σ H s (alt R fp) fps) (h : σ[i]? = some (some v)) (hz : ∀ a, ¬ fp a) (q : s.env[i]? = some (some (.dct kvs))) :
    ∃ fp' fps', Iv K T σ0 σ H ⟨s.env.set i none, s.n, s.bor⟩ (alt R fp') fps' ∧ Gr (Wf (alt R fp) fps) H (Wf (alt R fp') fps') H ∧ At K (hid (Wf (alt R fp') fps') H) H s.n v (.dct kvs) fp' ∧ (∀ a, fp' a → ¬ R a) ∧ s.bor = s.bor ∧ s.n = s.n := by
  have ha := I.slotv q h
  have W : ∀ a, Wf (alt R (fps i)) (fset fps i nol) a → Wf (alt R fp) fps a := fun a z => by
    rcases wf_fset z with (z | z) | z | ⟨j, _, z⟩
    · exact .inl (.inl z)
    · exact .inr ⟨i, z⟩
    · exact z.elim
    · exact .inr ⟨j, z⟩
  have g : Gr (Wf (alt R fp) fps) H (Wf (alt R (fps i)) (fset fps i nol)) H := gr_sub W
  have out : ∀ {j : Nat} {a : Addr}, fset fps i nol j a → j ≠ i ∧ fps j a := fun {j a} z => by
    by_cases e : j = i
    · rw [e, fset_same] at z; exact z.elim
    · rw [fset_ne e] at z; exact ⟨e, z⟩
  refine ⟨fps i, fset fps i nol, ⟨?_, fun j o e => ?_, fun j e a z => ?_, fun j k a y z => I.dis j k a (out y).2 (out z).2, fun j a y z => ?_, fun a z => ?_, I.tab, I.bor⟩, g, ha.keep g (fun _ _ => rfl) (Nat.le_refl _), fun a z y => I.disR i a z (.inl y), rfl, rfl⟩
  · rw [List.length_set]; exact I.len
  · have hj : j ≠ i := fun z => by
      subst z
      rw [List.getElem?_set] at e
      split at e
      · split at e <;> cases e
      · exact absurd rfl ‹_›
    rw [List.getElem?_set_ne (Ne.symm hj)] at e
    obtain ⟨w, h1, h2⟩ := I.at_ j o e
    rw [fset_ne hj]
    exact ⟨w, h1, h2.keep g (fun _ _ => rfl) (Nat.le_refl _)⟩
  · obtain ⟨hj, z⟩ := out z
    refine I.emp j (fun o q => e o ?_) a z
    rw [List.getElem?_set_ne (Ne.symm hj)]; exact q
  · obtain ⟨hj, y⟩ := out y
    rcases z with z | z
    · exact I.disR j a y (.inl z)
    · exact hj (I.dis j i a y z)
  · rcases z with z | z
    · exact I.liv a (.inl z)
    · exact I.live (.inr ⟨i, z⟩)
theorem mov_go {o : O} {s' : S} {r : Rs} {v : V} {fp : Ad} (I : Iv K T σ0 σ H s (alt R fp) fps) (h : RAt K (hid (Wf (alt R fp) fps) H) H s.n σ v r fp) (nR : ∀ a, fp a → ¬ R a) (e : mov s r = some (o, s')) :
    ∃ fp' fps', Iv K T σ0 σ H s' (alt R fp') fps' ∧ Gr (Wf (alt R fp) fps) H (Wf (alt R fp') fps') H ∧ At K (hid (Wf (alt R fp') fps') H) H s'.n v o fp' ∧ (∀ a, fp' a → ¬ R a) ∧ s'.bor = s.bor ∧ s'.n = s.n := by
  cases r with
  | val o1 =>
    have e' : o1 = o ∧ s = s' := by
      cases e; exact ⟨rfl, rfl⟩
    obtain ⟨rfl, rfl⟩ := e'
    cases h with
    | val h => exact ⟨fp, fps, I, Gr.refl, h, nR, rfl, rfl⟩
  | slot i =>
    by_cases qd : ∃ kvs, s.env[i]? = some (some (.dct kvs))
    · obtain ⟨kvs, qd⟩ := qd
      have e' : (match s.env[i]? with
        | some (some (.dct kvs)) => some (O.dct kvs, (⟨s.env.set i none, s.n, s.bor⟩ : S))
        | _ => match frz s (.slot i) with
          | some (d, s1) => some (O.dat d, s1)
          | none => none) = some (o, s') := e
      rw [qd] at e'
      cases e'
      cases h with
      | slot h hz => exact mov_dct I h hz qd
    have e' : (match frz s (.slot i) with
      | some (d, s1) => some (O.dat d, s1)
      | none => none) = some (o, s') := by
      have e1 : (match s.env[i]? with
        | some (some (.dct kvs)) => some (O.dct kvs, (⟨s.env.set i none, s.n, s.bor⟩ : S))
        | _ => match frz s (.slot i) with
          | some (d, s1) => some (O.dat d, s1)
          | none => none) = some (o, s') := e
      split at e1
      · exact absurd ⟨_, by assumption⟩ qd
      · exact e1
    cases q : frz s (.slot i) with
    | none => rw [q] at e'; cases e'
    | some p =>
      obtain ⟨d, s1⟩ := p
      rw [q] at e'
      cases e'
      obtain ⟨fps', I2, g2, hd, hb, hn⟩ := frz_go I h nR q
      refine ⟨nol, fps', by rw [alt_nol]; exact I2, by rw [alt_nol]; exact g2, .dat (by rw [alt_nol]; exact hd) fun _ z => z, fun _ z => z.elim, hb, hn⟩
def mRet (m : ME) : MS := fun s k => m s (fun r s1 => match mov s1 r with
  | some (o, s2) => k.rt o s2
  | none => False) k.er
theorem sim_ret {te : TE} {m : ME} (h : SimE K T W te m) : SimS K T W (tRet te) (mRet m) := fun σ0 σ H s R fps I D k hm x =>
  h σ0 σ H s R fps I _ k.er hm x.xok _ fun v H1 s1 r fp fps1 g hr nR q => by
    split at q
    · rename_i o s2 e
      obtain ⟨fp', fps', I2, g2, hd, n2, hb, hn⟩ := mov_go g.iv hr nR e
      exact x.rt σ H1 s2 v o fp' fps' ⟨I2, g.kp, g.gr.trans g2, hb.trans g.bo, Nat.le_trans g.le (Nat.le_of_eq hn.symm), fun _ z => .inl z⟩ hd n2 q
    · exact q.elim
def mRetN : MS := fun s k => k.rt (.dat .none) s
/-- a thing is put into a slot -/
def putO (s : S) (i : Nat) (o : O) : S := ⟨s.env.set i (some o), s.n, s.bor⟩
theorem put_go {H0 : Hp} {s0 : S} {fps0 : Nat → Ad} {i : Nat} {v : V} {o : O} {fp : Ad} (G : Go K T σ0 H0 s0 R fps0 σ H s (alt R fp) fps) (h : At K (hid (Wf (alt R fp) fps) H) H s.n v o fp) (nR : ∀ a, fp a → ¬ R a) (hi : i < s.env.length) (hb : i ∉ s.bor) :
    ∃ fps', Go K T σ0 H0 s0 R fps0 (σ.set i (some v)) H (putO s i o) R fps' := by
  have I := G.iv
  have g : Gr (Wf (alt R fp) fps) H (Wf R (fset fps i fp)) H := gr_sub fun a z => by
    rcases wf_fset z with z | z | ⟨j, _, z⟩
    · exact .inl (.inl z)
    · exact .inl (.inr z)
    · exact .inr ⟨j, z⟩
  exact ⟨fset fps i fp, ⟨I.put (by rw [I.len]; exact hi) (fun _ z => .inl z) g (fun _ _ _ _ => rfl) (fun _ _ => rfl) I.tab (Nat.le_refl _) (h.keep g (fun _ _ => rfl) (Nat.le_refl _)) nR (fun j a _ z y => I.disR j a y (.inr z)) (fun z => (hb z).elim),
    G.kp, G.gr.trans g, G.bo, G.le, fun _ z => z⟩⟩
end
end Mk

/-! part Mk4 -/
/-! Mk, part 4: assignments, lists of one's own, loops. -/
namespace Mk
open PySem PySem.Spec PyProof.Rows L2 Evl Lk LamX
section
variable {K : PySem.W.Frag} {T : List (Addr × Str)} {W : WX} {σ0 σ : L2.St} {H H0 : Hp} {s s0 : S} {R fp : Ad} {fps fps0 : Nat → Ad}
/-- a new object that nobody keeps -/
theorem go_new {p : Addr} {o : HO} (I : Iv K T σ0 σ H s R fps) (hp : H p = none) : Go K T σ0 H s R fps σ (upd H p o) s R fps := by
  have hW := I.fresh hp
  have g : Gr (Wf R fps) H (Wf R fps) (upd H p o) := gr_ex (Ex.new hp) (fun _ _ _ n => n)
  exact ⟨I.step g (fun i a q => upd_ne (show a ≠ p from fun z => hW (.inr ⟨i, z ▸ q⟩))) I.disR (fun a q => by
    rw [upd_ne (show a ≠ p from fun z => hW (.inl (z ▸ q)))]
    exact I.liv a q) (tabs_new I.tab hp), fun a q => upd_ne (show a ≠ p from fun z => hW (.inl (z ▸ q))), g, rfl, Nat.le_refl _, fun _ z => z⟩
/-! ### name = value -/
def asg (i : Nat) (r : Rs) (s : S) (Q : S → Prop) : Prop := match mov s r with
  | some (o, s2) => i ∉ s2.bor ∧ i < s2.env.length ∧ Q (putO s2 i o)
  | none => False
def mAsg (i : Nat) (m : ME) : MS := fun s k => m s (fun r s1 => asg i r s1 k.nx) k.er
theorem sim_asg {te : TE} {m : ME} {i : Nat} (h : SimE K T W te m) : SimS K T W (tAsg te (gName i)) (mAsg i m) := fun σ0 σ H s R fps I D k hm x =>
  h σ0 σ H s R fps I _ k.er hm x.xok _ fun v H1 s1 r fp fps1 g hr nR q => by
    unfold asg at q
    split at q
    · rename_i o s2 e
      obtain ⟨fp', fps', I2, g2, hd, n2, hb, hn⟩ := mov_go g.iv hr nR e
      have G2 : Go K T σ0 H s R fps σ H1 s2 (alt R fp') fps' := ⟨I2, g.kp, g.gr.trans g2, hb.trans g.bo, Nat.le_trans g.le (Nat.le_of_eq hn.symm), fun _ z => .inl z⟩
      obtain ⟨fps3, G3⟩ := put_go G2 hd n2 q.2.1 q.1
      exact x.nx _ H1 _ fps3 G3 q.2.2
    · exact q.elim
/-! ### a, b, .. = a tuple -/
abbrev MG : Type := PyData → S → (S → Prop) → Prop
abbrev MGs : Type := List PyData → S → (S → Prop) → Prop
end
section
variable (K : PySem.W.Frag) (T : List (Addr × Str))
def SimG (g : TG) (m : MG) : Prop := ∀ σ0 σ H s R fps, Iv K T σ0 σ H s R fps → ∀ v d, Dq K (hid (Wf R fps) H) v d → ∀ Qm : S → Prop, m d s Qm → ∀ Q : L2.St → Hp → Prop,
  (∀ σ' H' s' fps', Go K T σ0 H s R fps σ' H' s' R fps' → Qm s' → Q σ' H') → g v σ H Q
def SimGs (g : TGs) (m : MGs) : Prop := ∀ σ0 σ H s R fps, Iv K T σ0 σ H s R fps → ∀ vs ds, DqAll K (hid (Wf R fps) H) vs ds → ∀ Qm : S → Prop, m ds s Qm → ∀ Q : L2.St → Hp → Prop,
  (∀ σ' H' s' fps', Go K T σ0 H s R fps σ' H' s' R fps' → Qm s' → Q σ' H') → g vs σ H Q
end
section
variable {K : PySem.W.Frag} {T : List (Addr × Str)} {W : WX} {σ0 σ : L2.St} {H H0 : Hp} {s s0 : S} {R fp : Ad} {fps fps0 : Nat → Ad}
def mgN (i : Nat) : MG := fun d s Q => i ∉ s.bor ∧ i < s.env.length ∧ Q (putO s i (.dat d))
theorem go_alt0 (I : Iv K T σ0 σ H s R fps) : Go K T σ0 H s R fps σ H s (alt R nol) fps := (Go.refl I).alt0 fun _ z => z
theorem simg_n {i : Nat} : SimG K T (gName i) (mgN i) := fun σ0 σ H s R fps I v d hd Qm hm Q hQ => by
  obtain ⟨fps3, G3⟩ := put_go (v := v) (o := .dat d) (fp := nol) (i := i) (go_alt0 I) (.dat (by rw [alt_nol]; exact hd) fun _ z => z) (fun _ z => z.elim) hm.2.1 hm.1
  exact hQ _ H _ fps3 G3 hm.2.2
def mgNil : MGs := fun ds s Q => ds = [] ∧ Q s
def mgCons (m : MG) (r : MGs) : MGs := fun ds s Q => match ds with
  | d :: ds => m d s fun s1 => r ds s1 Q
  | [] => False
theorem simgs_nil : SimGs K T gNil mgNil := fun σ0 σ H s R fps I vs ds hd Qm hm Q hQ => by
  obtain ⟨rfl, hm⟩ := hm
  cases hd
  exact ⟨rfl, hQ σ H s fps (Go.refl I) hm⟩
theorem simgs_cons {g : TG} {gs : TGs} {m : MG} {r : MGs} (h : SimG K T g m) (hr : SimGs K T gs r) : SimGs K T (gCons g gs) (mgCons m r) := fun σ0 σ H s R fps I vs ds hd Qm hm Q hQ => by
  cases hd with
  | nil => exact hm.elim
  | cons hv hvs =>
    exact ⟨_, _, rfl, h σ0 σ H s R fps I _ _ hv _ hm _ fun σ1 H1 s1 fps1 g1 q => hr σ0 σ1 H1 s1 R fps1 g1.iv _ _ (dps_ex g1.gr _ _ hvs) Qm q Q fun σ2 H2 s2 fps2 g2 => hQ σ2 H2 s2 fps2 (g1.trans g2)⟩
def mgT (n : Nat) (m : MGs) : MG := fun d s Q => match d with
  | .tuple ds => ds.length = n ∧ m ds s Q
  | _ => False
theorem simg_t {K' : PySem.W.Frag} {n : Nat} {gs : TGs} {m : MGs} (h : SimGs K T gs m) (hK : K' = K) : SimG K T (gTup K' n gs) (mgT n m) := fun σ0 σ H s R fps I v d hd Qm hm Q hQ => by
  subst hK
  cases d with
  | tuple ds =>
    obtain ⟨a, xs, rfl, hs, hx⟩ := dp_tup hd
    exact ⟨a, xs, rfl, ex_t hid_ex hs, (dps_len hx).trans hm.1, h σ0 σ H s R fps I _ _ hx Qm hm.2 Q hQ⟩
  | none => exact hm.elim
  | bool _ => exact hm.elim
  | int _ => exact hm.elim
  | str _ => exact hm.elim
  | list _ => exact hm.elim
  | dict _ => exact hm.elim
def mAsgG (g : MG) (m : MD) : MS := fun s k => m s (fun d s1 => g d s1 k.nx) k.er
theorem sim_asgG {te : TE} {m : MD} {tg : TG} {g : MG} (h : SimD K T W te m) (hg : SimG K T tg g) : SimS K T W (tAsg te tg) (mAsgG g m) := fun σ0 σ H s R fps I D k hm x =>
  h σ0 σ H s R fps I _ k.er hm x.xok _ fun v H1 s1 d fps1 g1 hd q => hg σ0 σ H1 s1 R fps1 g1.iv v d hd _ q _ fun σ2 H2 s2 fps2 g2 q2 => x.nx σ2 H2 s2 fps2 (g1.trans g2) q2
/-! ### a, b, .. = x, y, .. -/
def mMv (m : ME) : ME := fun s Q X => m s (fun r s1 => match mov s1 r with
  | some (o, s2) => Q (.val o) s2
  | none => False) X
theorem sim_mv {te : TE} {m : ME} (h : SimE K T W te m) : SimE K T W te (mMv m) := by
  intro σ0 σ H s R fps I Qm Xm hm hx Q hQ
  refine h σ0 σ H s R fps I _ Xm hm hx _ fun v H1 s1 r fp fps1 g hr nR q => ?_
  split at q
  · rename_i o s2 e
    obtain ⟨fp', fps', I2, g2, hd, n2, hb, hn⟩ := mov_go g.iv hr nR e
    exact hQ v H1 s2 (.val o) fp' fps' ⟨I2, g.kp, g.gr.trans g2, hb.trans g.bo, Nat.le_trans g.le (Nat.le_of_eq hn.symm), fun _ z => .inl z⟩ (.val hd) n2 q
  · exact q.elim
def puts : List Nat → List Rs → S → (S → Prop) → Prop
  | [], [], s, Q => Q s
  | i :: is, .val o :: rs, s, Q => i ∉ s.bor ∧ i < s.env.length ∧ puts is rs (putO s i o) Q
  | _, _, _, _ => False
def sets : List Nat → List V → L2.St → L2.St
  | i :: is, v :: vs, σ => sets is vs (σ.set i (some v))
  | _, _, σ => σ
theorem puts_go : ∀ (is : List Nat) (vs : List V) (rs : List Rs) (l : List Ad) (σ : L2.St) (s : S) (fps : Nat → Ad) (Q : S → Prop), Go K T σ0 H0 s0 R fps0 σ H s (alt R (AnyF l)) fps →
    RAts K (hid (Wf (alt R (AnyF l)) fps) H) H s.n σ vs rs l → Apart l → (∀ a, AnyF l a → ¬ R a) → puts is rs s Q → ∃ s' fps', Go K T σ0 H0 s0 R fps0 (sets is vs σ) H s' R fps' ∧ Q s' ∧ vs.length = is.length
  | [], [], [], l, σ, s, fps, Q, G, h, ap, nR, q => by
    cases h
    refine ⟨s, fps, G.drop (fun _ z => z) fun _ z => .inl z, q, rfl⟩
  | i :: is, v :: vs, .val o :: rs, l, σ, s, fps, Q, G, h, ap, nR, q => by
    cases h with
    | cons h hr =>
      rename_i fp l
      cases h with
      | val h =>
        have e : alt (alt R (AnyF l)) fp = alt R (AnyF (fp :: l)) := by
          rw [anyF_cons, alt_assoc]
          exact congrArg (alt R) (funext fun a => propext Or.comm)
        rw [← e] at h hr G
        have G' : Go K T σ0 H0 s0 (alt R (AnyF l)) fps0 σ H s (alt (alt R (AnyF l)) fp) fps → True := fun _ => trivial
        -- put one
        have I := G.iv
        have g : Gr (Wf (alt (alt R (AnyF l)) fp) fps) H (Wf (alt R (AnyF l)) (fset fps i fp)) H := gr_sub fun a z => by
          rcases wf_fset z with z | z | ⟨j, _, z⟩
          · exact .inl (.inl z)
          · exact .inl (.inr z)
          · exact .inr ⟨j, z⟩
        have nfp : ∀ a, fp a → ¬ alt R (AnyF l) a := fun a z y => by
          rcases y with y | y
          · exact nR a (by rw [anyF_cons]; exact .inl z) y
          · exact ap.1 a z y
        have P := I.put (R' := alt R (AnyF l)) (H' := H) (n' := s.n) (i := i) (by rw [I.len]; exact q.2.1) (fun _ z => .inl z) g (fun _ _ _ _ => rfl) (fun _ _ => rfl) I.tab (Nat.le_refl _) (h.keep g (fun _ _ => rfl) (Nat.le_refl _)) nfp (fun j a _ z y => I.disR j a y (.inr z)) (fun z => (q.1 z).elim)
        refine puts_go is vs rs l (σ.set i (some v)) (putO s i o) _ Q ⟨P, G.kp, G.gr.trans g, G.bo, G.le, fun _ z => .inl z⟩ ?_ ap.2 (fun a z => nR a (by rw [anyF_cons]; exact .inr z)) q.2.2 |>.imp fun s' => .imp fun fps' h => ⟨h.1, h.2.1, by simp [h.2.2]⟩
        -- the rest are things: their values do not hang on the slots
        have mono := hr.keep (n := s.n) (m := s.n) g (fun _ _ => rfl) (Nat.le_refl _)
        clear hr
        revert mono q
        generalize hid (Wf (alt R (AnyF l)) (fset fps i fp)) H = F'
        intro q mono
        have key : ∀ {is : List Nat} {rs : List Rs} {s2 : S} {vs : List V} {l : List Ad}, puts is rs s2 Q → RAts K F' H s.n σ vs rs l → RAts K F' H s.n (σ.set i (some v)) vs rs l := fun {is rs} => by
          induction rs generalizing is with
          | nil =>
            intro s2 vs l hp hq
            cases hq
            exact .nil
          | cons r rs ih =>
            intro s2 vs l hp hq
            cases is with
            | nil => cases r <;> exact hp.elim
            | cons j js =>
              cases r with
              | slot _ => exact hp.elim
              | val o2 =>
                cases hq with
                | cons h1 h2 =>
                  cases h1 with
                  | val h1 => exact .cons (.val h1) (ih hp.2.2 h2)
        exact key q.2.2 mono
  | [], _, _ :: _, _, _, _, _, _, _, h, _, _, q => q.elim
  | _ :: _, _, [], _, _, _, _, _, _, h, _, _, q => q.elim
  | _ :: _, _, .slot _ :: _, _, _, _, _, _, _, h, _, _, q => q.elim
  | _ :: _, [], _ :: _, _, _, _, _, _, _, h, _, _, _ => nomatch h
  | [], _ :: _, [], _, _, _, _, _, _, h, _, _, _ => nomatch h
def mPar (is : List Nat) (m : MA) : MS := fun s k => m s (fun rs s1 => puts is rs s1 k.nx) k.er
theorem sim_par {i j : Nat} {ta : TA} {m : MA} (h : SimA K T W ta m) : SimS K T W (tPar i j ta) (mPar [i, j] m) := fun σ0 σ H s R fps I D k hm x =>
  h σ0 σ H s R fps I _ k.er hm x.xok _ fun vs H1 s1 rs l fps1 g hr ap nR q => by
    obtain ⟨s2, fps2, G, q2, hl⟩ := puts_go [i, j] vs rs l σ s1 fps1 _ g hr ap nR q
    match vs, hl with
    | [v, w], _ => exact ⟨v, w, rfl, x.nx _ H1 s2 fps2 G q2⟩
/-- the targets' reading: plain names -/
def gNames : List Nat → TGs
  | [] => gNil
  | i :: is => gCons (gName i) (gNames is)
theorem gnames_sets : ∀ (is : List Nat) (vs : List V) (σ : L2.St) (H : Hp) (Q : L2.St → Hp → Prop), vs.length = is.length → Q (sets is vs σ) H → gNames is vs σ H Q
  | [], [], _, _, _, _, q => ⟨rfl, q⟩
  | i :: is, v :: vs, σ, H, Q, hl, q => ⟨v, vs, rfl, gnames_sets is vs _ H Q (by simpa using hl) q⟩
theorem sim_parN {K' : PySem.W.Frag} {n : Nat} {is : List Nat} {gs : TGs} {ta : TA} {m : MA} (h : SimA K T W ta m) (hg : gs = gNames is) (hn : is.length = n) (hK : K' = K) (hz : n ≤ 100000) : SimS K T W (tAsg (tTup ta) (gTup K' n gs)) (mPar is m) := fun σ0 σ H s R fps I D k hm x => by
  subst hK hg
  refine h σ0 σ H s R fps I _ k.er hm x.xok _ fun vs H1 s1 rs l fps1 g hr ap nR q => ?_
  obtain ⟨s2, fps2, G, q2, hl⟩ := puts_go is vs rs l σ s1 fps1 _ g hr ap nR q
  refine ⟨sz_of (by omega), fun p hp => ⟨p, vs, rfl, st_of upd_same, hl.trans hn, gnames_sets is vs σ _ _ hl ?_⟩⟩
  exact x.nx _ _ s2 fps2 (G.trans (go_new G.iv hp)) q2
/-! ### lists of one's own -/
def mFz (m : ME) : ME := fun s Q X => m s (fun r s1 => match frz s1 r with
  | some (d, s2) => Q (.val (.dat d)) s2
  | none => False) X
theorem sim_fz {te : TE} {m : ME} (h : SimE K T W te m) : SimE K T W te (mFz m) := by
  intro σ0 σ H s R fps I Qm Xm hm hx Q hQ
  refine d_sim (sim_d h) σ0 σ H s R fps I Qm Xm ?_ hx Q hQ
  exact hm
def dats : List Rs → Option (List PyData)
  | [] => some []
  | .val (.dat d) :: rs => match dats rs with
    | some ds => some (d :: ds)
    | none => none
  | _ => none
theorem dats_at {F : Hp} {n : Nat} {vs : List V} {rs : List Rs} {l : List Ad} (h : RAts K F H n σ vs rs l) : ∀ {ds : List PyData}, dats rs = some ds → DqAll K F vs ds := by
  induction h with
  | nil => intro ds e; cases e; exact .nil
  | cons h _ ih =>
    rename_i r _ _ rs _ _
    intro ds e
    cases r with
    | slot _ => cases e
    | val o =>
      cases o with
      | dat d =>
        have e' : (match dats rs with
          | some ds => some (d :: ds)
          | none => none) = some ds := e
        cases q : dats rs with
        | none => rw [q] at e'; cases e'
        | some ds1 =>
          rw [q] at e'
          cases e'
          cases h with
          | val h =>
            cases h with
            | dat h _ => exact .cons h (ih q)
      | lst _ => cases e
      | dct _ => cases e
      | st => cases e
      | exc _ => cases e
      | xs _ => cases e
/-- the list in slot i is written -/
theorem mutL_go {i : Nat} {a : Addr} {vs vs' : List V} {ds ds' : List PyData} (G : Go K T σ0 H0 s0 R fps0 σ H s R fps) (hv : σ[i]? = some (some (.ref a))) (he : s.env[i]? = some (some (.lst ds))) (ha : H a = some (.lst vs))
    (hd : DqAll K (hid (Wf R fps) H) vs' ds') : ∃ fps', Go K T σ0 H0 s0 R fps0 σ (upd H a (.lst vs')) (putO s i (.lst ds')) R fps' ∧ Gr (Wf R fps) H (Wf R fps') (upd H a (.lst vs')) := by
  have I := G.iv
  have hA := I.slotv he hv
  cases hA with
  | lst hA hdA hz =>
    have wa : Wf R fps a := .inr ⟨i, (hz a).mpr rfl⟩
    have nR : ¬ R a := I.disR i a ((hz a).mpr rfl)
    have g : Gr (Wf R fps) H (Wf R (fset fps i (fps i))) (upd H a (.lst vs')) := gr_of (fun b o h n _ => by
      rw [upd_ne (show b ≠ a from fun z => n (z ▸ wa))]
      exact h) (fun b o h n z => by
      rcases wf_fset z with z | z | ⟨j, _, z⟩
      · exact n (.inl z)
      · exact n (.inr ⟨i, z⟩)
      · exact n (.inr ⟨j, z⟩))
    have P := I.put (R' := R) (i := i) (v' := .ref a) (o' := .lst ds') (fp' := fps i) (n' := s.n) (lt_of_slot hv) (fun _ z => z) g (fun j b hj z => upd_ne (show b ≠ a from fun y => hj (I.dis j i a (y ▸ z) ((hz a).mpr rfl))))
      (fun b z => upd_ne (show b ≠ a from fun y => nR (y ▸ z))) (Tabs.lst I.tab ha) (Nat.le_refl _) (.lst upd_same (dps_ex g _ _ hd) hz) (fun b z => I.disR i b z) (fun j b hj z y => hj (I.dis j i b y z)) (fun _ => hv)
    rw [set_same hv] at P
    exact ⟨_, ⟨P, fun b z => (upd_ne (show b ≠ a from fun y => nR (y ▸ z))).trans (G.kp b z), G.gr.trans g, G.bo, G.le, fun _ z => z⟩, g⟩
/-- a list's method: on values rr, on data f (the list's items, the arguments; what then stands in it, the answer) -/
def LSim (K : PySem.W.Frag) (rr : V → List V → Hp → VK → Prop) (f : List PyData → List PyData → (List PyData → PyData → Prop) → Prop) : Prop := ∀ F H a vs ds xs es Qo Q, Ex F H → H a = some (.lst vs) → DqAll K F vs ds → DqAll K F xs es → f ds es Qo →
  (∀ v vs' ds' d', DqAll K F vs' ds' → Dq K F v d' → Qo ds' d' → Q v (upd H a (.lst vs'))) → rr (.ref a) xs H Q
def isLst (s : S) (i : Nat) : Prop := match s.env[i]? with
  | some (some (.lst _)) => True
  | _ => False
def mLM (f : List PyData → List PyData → (List PyData → PyData → Prop) → Prop) (i : Nat) (m : MA) : ME := fun s Q X => isLst s i ∧ m s (fun rs s1 => match dats rs, s1.env[i]? with
  | some es, some (some (.lst ds)) => f ds es fun ds' d' => Q (.val (.dat d')) (putO s1 i (.lst ds'))
  | _, _ => False) X
theorem isLst_yes {i : Nat} (h : isLst s i) : ∃ ds, s.env[i]? = some (some (.lst ds)) := by
  unfold isLst at h
  split at h
  · exact ⟨_, by assumption⟩
  · exact h.elim
theorem sim_lm {K' : PySem.W.Frag} {rr : V → List V → Hp → VK → Prop} {f : List PyData → List PyData → (List PyData → PyData → Prop) → Prop} {ta : TA} {m : MA} {i : Nat} (hr : LSim K rr f) (ha : SimA K T W ta m) (hK : K' = K) : SimE K T W (tBM K' "list" rr (tVar i) ta) (mLM f i m) := by
  subst hK
  intro σ0 σ H s R fps I Qm Xm hm hx Q hQ
  obtain ⟨ds0, e0⟩ := isLst_yes hm.1
  obtain ⟨v, hv, hA0⟩ := I.at_ i _ e0
  cases hA0 with
  | lst hA hd hz =>
    rename_i a vs0
    refine ⟨.ref a, hv, Or.inl ⟨rfl, vs0, sq_of hA⟩, ?_⟩
    refine ha σ0 σ H s R fps I _ Xm hm.2 hx _ fun xs H1 s1 rs l fps1 g hrs ap nR q => ?_
    split at q
    · rename_i es ds q1 q2
      have G0 := g.drop (R2 := R) (fun _ z => z) fun _ z => .inl z
      have hA1 := G0.iv.slotv q2 hv
      cases hA1 with
      | lst hA1 hd1 hz1 =>
        have mo : Gr (Wf (alt R (AnyF l)) fps1) H1 (Wf R fps1) H1 := gr_sub fun a z => z.imp .inl id
        refine hr _ H1 a _ ds xs es _ Q hid_ex hA1 hd1 (dps_ex mo _ _ (dats_at hrs q1)) q fun w vs' ds' d' h1 h2 h3 => ?_
        obtain ⟨fps2, G2, g2⟩ := mutL_go G0 hv q2 hA1 h1
        refine hQ w _ _ (.val (.dat d')) nol fps2 (G2.alt0 fun _ z => z) (.val (.dat ?_ fun _ z => z)) (fun _ z => z.elim) h3
        rw [alt_nol]
        exact dp_ex g2 _ _ h2
    · exact q.elim
end
end Mk

/-! part Mk5 -/
/-! Mk, part 5: loops, comprehensions. -/
namespace Mk
open PySem PySem.Spec PyProof.Rows L2 Evl Lk LamX
abbrev MI : Type := S → (List PyData → S → Prop) → XM → Prop
section
variable (K : PySem.W.Frag) (T : List (Addr × Str)) (W : WX)
/-- J walks the items ds, whatever comes of what is not frozen in F0 -/
def Steady (J : It) (ds : List PyData) (F0 : Hp) : Prop := ∀ σ0 σ H s R fps, Iv K T σ0 σ H s R fps → Ex F0 (hid (Wf R fps) H) → ∀ i,
  (∀ d, ds[i]? = some d → J.go i H ∧ ∀ x H', J.yld i H x H' → Go K T σ0 H s R fps σ H' s R fps ∧ Dq K (hid (Wf R fps) H') x d) ∧ (ds.length ≤ i → J.stop i H)
def SimI (wi : TI) (m : MI) : Prop := ∀ σ0 σ H s R fps, Iv K T σ0 σ H s R fps → ∀ Qm Xm, m s Qm Xm → XOk K T W σ0 σ H s R fps Xm → ∀ Q : It → Hp → Prop,
  (∀ J H' s' ds fps', Go K T σ0 H s R fps σ H' s' R fps' → Steady K T J ds (hid (Wf R fps') H') → Qm ds s' → Q J H') → wi σ H Q
end
/-- over a list or a tuple -/
def iAny (K : PySem.W.Frag) (tl : TE) : TI := fun σ H R => tl σ H fun x H1 => (∃ a, x = .ref a ∧ (∃ xs, SqL K H1 a xs) ∧ R (Itl K a) H1) ∨ (∃ a, x = .ref a ∧ (∃ xs, SqT K H1 a xs) ∧ R (Itt K a) H1) ∨ ∃ z, x = .str z ∧ R (Its z) H1
theorem pi_any {X : Cx} {tg l : Expr} {tl : TE} (hl : PE X l tl) : PI X tg l (iAny X.K tl) := by
  have h1 : ∀ te, PE X l te → PI X tg l (iList X.K te) := fun te h => pi_list h
  refine ⟨fun pins s σ H R I h => ?_⟩
  refine thn (hl.run pins s σ H _ I h) fun v s1 ⟨x, H1, I1, r1, q1⟩ => ?_
  rcases q1 with ⟨a, e, ⟨xs, hq⟩, q⟩ | ⟨a, e, ⟨xs, hq⟩, q⟩ | ⟨z, e, q⟩
  · subst e
    cases r1
    obtain ⟨its, rv, p, hz⟩ := I1.list hq
    refine wpAny_pyIter_list p.isList ?_
    refine ⟨s1.heap.objs.size, [s1.heap.objs.size], _, _, H1, rfl, I1.kept (t' := s1.toks) fun b o e => Heap.get?_push_of_some _ e, turn_list a _, ⟨_, Heap.get?_push_size _ rfl, rfl, rfl⟩, fun b hb => ?_, q⟩
    have e : b = s1.heap.objs.size := by simpa using hb
    subst e
    exact I1.fpOk (Nat.le_refl _) (I1.hok.fresh (Nat.le_refl _))
  · subst e
    cases r1
    obtain ⟨its, rv, p, hz⟩ := I1.tuple hq
    refine wpAny_pyIter_tuple (show s1.heap.IsTuple a its.toArray from p) ?_
    refine ⟨s1.heap.objs.size, [s1.heap.objs.size], _, _, H1, rfl, I1.kept (t' := s1.toks) fun b o e => Heap.get?_push_of_some _ e, turn_tuple a _, ⟨_, Heap.get?_push_size _ rfl, rfl, rfl⟩, fun b hb => ?_, q⟩
    have e : b = s1.heap.objs.size := by simpa using hb
    subst e
    exact I1.fpOk (Nat.le_refl _) (I1.hok.fresh (Nat.le_refl _))
  · subst e
    obtain ⟨t, rfl⟩ := r1
    cases ha : z.cps.all (· < 128)
    · exact wpAny_pyIter_wide ha (pi_one (tk := s1.toks) I1 _ (turn_str _ z t "str_iterator" (.inr rfl)) ⟨_, Heap.get?_push_size _ rfl, rfl, rfl⟩ q)
    · exact wpAny_pyIter_ascii ha (pi_one (tk := s1.toks) I1 _ (turn_str _ z t "str_ascii_iterator" (.inl rfl)) ⟨_, Heap.get?_push_size _ rfl, rfl, rfl⟩ q)
/-- a text's letters -/
def charsOf (z : Str) : List PyData := z.cps.toList.map fun c => .str ⟨#[c]⟩
def itemsOf : PyData → Option (List PyData)
  | .list ds => some ds
  | .tuple ds => some ds
  | .str z => some (charsOf z)
  | _ => none
def mIt (m : ME) : MI := fun s Q X => mD m s (fun d s1 => match itemsOf d with
  | some ds => Q ds s1
  | none => False) X
section
variable {K : PySem.W.Frag} {T : List (Addr × Str)} {W : WX}
theorem steady_l {a : Addr} {xs : List V} {ds : List PyData} {F : Hp} (h : SqL K F a xs) (hd : DqAll K F xs ds) : Steady K T (Itl K a) ds F := by
  intro σ0 σ H s R fps I e i
  have h1 : SqL K H a xs := ex_l (e.trans hid_ex) h
  refine ⟨fun d hi => ?_, fun hi => ⟨xs, h1, by rw [dps_len hd]; exact hi⟩⟩
  obtain ⟨v, hv, dv⟩ := dps_at (i := i) hd hi
  refine ⟨⟨xs, v, h1, hv⟩, fun x H' y => ?_⟩
  obtain ⟨rfl, y⟩ := y
  have ev := y xs h1
  rw [hv] at ev
  cases ev
  exact ⟨Go.refl I, dp_ex e _ _ dv⟩
theorem steady_t {a : Addr} {xs : List V} {ds : List PyData} {F : Hp} (h : SqT K F a xs) (hd : DqAll K F xs ds) : Steady K T (Itt K a) ds F := by
  intro σ0 σ H s R fps I e i
  have h1 : SqT K H a xs := ex_t (e.trans hid_ex) h
  refine ⟨fun d hi => ?_, fun hi => ⟨xs, h1, by rw [dps_len hd]; exact hi⟩⟩
  obtain ⟨v, hv, dv⟩ := dps_at (i := i) hd hi
  refine ⟨⟨xs, v, h1, hv⟩, fun x H' y => ?_⟩
  obtain ⟨rfl, y⟩ := y
  have ev := y xs h1
  rw [hv] at ev
  cases ev
  exact ⟨Go.refl I, dp_ex e _ _ dv⟩
theorem steady_s {z : Str} {F : Hp} : Steady K T (Its z) (charsOf z) F := by
  intro σ0 σ H s R fps I e i
  refine ⟨fun d hi => ?_, fun hi => ?_⟩
  · unfold charsOf at hi
    rw [List.getElem?_map] at hi
    obtain ⟨c, hc, rfl⟩ := Option.map_eq_some_iff.mp hi
    rw [Array.getElem?_toList] at hc
    refine ⟨(Array.getElem?_eq_some_iff.mp hc).1, fun x H' y => ?_⟩
    obtain ⟨rfl, c', hc', rfl⟩ := y
    rw [hc] at hc'
    cases hc'
    exact ⟨Go.refl I, .str _⟩
  · unfold charsOf at hi
    rw [List.length_map, Array.length_toList] at hi
    exact hi
theorem sim_it {K' : PySem.W.Frag} {te : TE} {m : ME} (h : SimE K T W te m) (hK : K' = K) : SimI K T W (iAny K' te) (mIt m) := by
  subst hK
  intro σ0 σ H s R fps I Qm Xm hm hx Q hQ
  refine sim_d h σ0 σ H s R fps I _ Xm hm hx _ fun v H1 s1 d fps1 g hd q => ?_
  cases d with
  | list ds =>
    obtain ⟨a, xs, rfl, hs, hds⟩ := dp_lst hd
    exact .inl ⟨a, rfl, ⟨xs, ex_l hid_ex hs⟩, hQ _ H1 s1 ds fps1 g (steady_l hs hds) q⟩
  | tuple ds =>
    obtain ⟨a, xs, rfl, hs, hds⟩ := dp_tup hd
    exact .inr (.inl ⟨a, rfl, ⟨xs, ex_t hid_ex hs⟩, hQ _ H1 s1 ds fps1 g (steady_t hs hds) q⟩)
  | none => exact q.elim
  | bool _ => exact q.elim
  | int _ => exact q.elim
  | str z =>
    obtain rfl := dp_str hd
    exact .inr (.inr ⟨z, rfl, hQ _ H1 s1 _ fps1 g steady_s q⟩)
  | dict _ => exact q.elim
/-! ### range -/
def intsFrom (lo : Int) (n : Nat) : List PyData := (List.range n).map fun (i : Nat) => .int (lo + (i : Int))
theorem steady_r {lo : Int} {n : Nat} {F : Hp} : Steady K T (Itr lo n) (intsFrom lo n) F := by
  intro σ0 σ H s R fps I e i
  refine ⟨fun d hi => ?_, fun hi => ?_⟩
  · unfold intsFrom at hi
    rw [List.getElem?_map] at hi
    obtain ⟨j, hj, rfl⟩ := Option.map_eq_some_iff.mp hi
    obtain ⟨hl, ej⟩ := List.getElem?_eq_some_iff.mp hj
    rw [List.length_range] at hl
    rw [List.getElem_range] at ej
    subst ej
    refine ⟨hl, fun x H' y => ?_⟩
    obtain ⟨rfl, rfl⟩ := y
    exact ⟨Go.refl I, .int _⟩
  · unfold intsFrom at hi
    rw [List.length_map, List.length_range] at hi
    exact hi
theorem go_nil {σ0 σ : L2.St} {H H1 : Hp} {s s1 : S} {R R1 : Ad} {fps fps1 : Nat → Ad} (g : Go K T σ0 H s R fps σ H1 s1 (alt R R1) fps1) : Go K T σ0 H s R fps σ H1 s1 R fps1 := g.drop (fun _ z => z) fun _ z => .inl z
theorem sim_rng1' {ta : TA} {m : MA} (h : SimA K T W ta m) : SimI K T W (iRng1 ta) (fun s Q X => m s (fun rs s1 => match dats rs with
  | some [.int j] => -(2 ^ 62) ≤ j ∧ j < 2 ^ 62 ∧ Q (intsFrom 0 j.toNat) s1
  | _ => False) X) := by
  intro σ0 σ H s R fps I Qm Xm hm hx Q hQ
  refine h σ0 σ H s R fps I _ Xm hm hx _ fun vs H1 s1 rs l fps1 g hrs ap nR q => ?_
  split at q
  · rename_i j e
    have hd := dats_at hrs e
    obtain _ | ⟨h1, _ | _⟩ := hd
    obtain rfl := dp_int h1
    exact ⟨j, rfl, q.1, q.2.1, hQ _ H1 s1 _ fps1 (go_nil g) steady_r q.2.2⟩
  · exact q.elim
/-! ### for -/
def mForL (g : MG) (b : MS) : List PyData → S → SK → Prop
  | [], s, k => k.nx s
  | d :: ds, s, k => g d s fun s1 => b s1 { k with nx := fun s2 => mForL g b ds s2 k, ct := fun s2 => mForL g b ds s2 k, bk := k.nx }
def mFor (i : MI) (g : MG) (b : MS) : MS := fun s k => i s (fun ds s1 => mForL g b ds s1 k) k.er
theorem sim_for {wi : TI} {mi : MI} {tg : TG} {g : MG} {tb : TS} {b : MS} (hi : SimI K T W wi mi) (hg : SimG K T tg g) (hb : SimS K T W tb b) : SimS K T W (tFor wi tg tb) (mFor mi g b) := fun σ0 σ H s R fps I D k hm x => by
  refine hi σ0 σ H s R fps I _ k.er hm x.xok _ fun J H1 s1 ds fps1 g1 st q => ?_
  refine ⟨fun i m σ' H' => m = ds.length - i ∧ i ≤ ds.length ∧ ∃ s' fps', Go K T σ0 H1 s1 R fps1 σ' H' s' R fps' ∧ mForL g b (ds.drop i) s' k, ⟨ds.length, by simp, Nat.zero_le _, s1, fps1, Go.refl g1.iv, q⟩, ?_⟩
  rintro i m σ2 H2 ⟨rfl, hi2, s2, fps2, g2, q2⟩
  obtain ⟨st1, st2⟩ := st σ0 σ2 H2 s2 R fps2 g2.iv g2.gr i
  by_cases hlt : i < ds.length
  · obtain ⟨go, yl⟩ := st1 ds[i] (List.getElem?_eq_getElem hlt)
    rw [List.drop_eq_getElem_cons hlt] at q2
    refine .inr ⟨go, fun σ' H' => ∃ s' fps', Go K T σ0 H1 s1 R fps1 σ' H' s' R fps' ∧ mForL g b (ds.drop (i + 1)) s' k, fun σ' H' z => ⟨ds.length - (i + 1), by omega, rfl, hlt, z⟩, fun v H3 y => ?_⟩
    obtain ⟨g3, hd⟩ := yl v H3 y
    refine hg σ0 σ2 H3 s2 R fps2 g3.iv v _ hd _ q2 _ fun σ4 H4 s4 fps4 g4 q4 => ?_
    have g14 := g2.trans (g3.trans g4)
    exact hb σ0 σ4 H4 s4 R fps4 g4.iv _ _ q4 ⟨fun σ' H' s' fps' g5 z => ⟨s', fps', g14.trans g5, z⟩, fun σ' H' s' v o fp fps' g5 => x.rt σ' H' s' v o fp fps' (g1.trans (g14.trans g5)),
      fun σ' H' s' fps' g5 z => x.nx σ' H' s' fps' (g1.trans (g14.trans g5)) z, fun σ' H' s' fps' g5 z => ⟨s', fps', g14.trans g5, z⟩, fun C σ' H' s' fps' g5 z => x.er C σ' H' s' fps' (g1.trans (g14.trans g5)) z⟩
  · refine .inl ⟨st2 (by omega), ?_⟩
    rw [List.drop_eq_nil_of_le (by omega)] at q2
    exact x.nx σ2 H2 s2 fps2 (g1.trans g2) q2
/-! ### while -/
def mWhN (c : MT) (b : MS) : Nat → S → SK → Prop
  | 0, _, _ => False
  | n + 1, s, k => c s (fun q s1 => if q = true then b s1 { k with nx := fun s2 => mWhN c b n s2 k, ct := fun s2 => mWhN c b n s2 k, bk := k.nx } else k.nx s1) k.er
def mWhile (c : MT) (b : MS) : MS := fun s k => ∃ n, mWhN c b n s k
theorem sim_while {tc : TT} {c : MT} {tb : TS} {b : MS} (hc : SimT K T W tc c) (hb : SimS K T W tb b) : SimS K T W (tWhile tc tb) (mWhile c b) := fun σ0 σ H s R fps I D k hm x => by
  obtain ⟨n, hm⟩ := hm
  refine ⟨fun m σ' H' => ∃ s' fps', Go K T σ0 H s R fps σ' H' s' R fps' ∧ mWhN c b m s' k, ⟨n, s, fps, Go.refl I, hm⟩, ?_⟩
  rintro m σ1 H1 ⟨s1, fps1, g1, q1⟩
  cases m with
  | zero => exact q1.elim
  | succ m =>
    refine hc σ0 σ1 H1 s1 R fps1 g1.iv _ k.er q1 (x.go g1).xok _ fun q H2 s2 fps2 g2 h2 => ?_
    cases q with
    | true =>
      refine ⟨fun σ' H' => ∃ s' fps', Go K T σ0 H s R fps σ' H' s' R fps' ∧ mWhN c b m s' k, fun σ' H' z => ⟨m, Nat.lt_succ_self m, z⟩, ?_⟩
      have g12 := g1.trans g2
      exact hb σ0 σ1 H2 s2 R fps2 g2.iv _ _ h2 ⟨fun σ' H' s' fps' g5 z => ⟨s', fps', g12.trans g5, z⟩, fun σ' H' s' v o fp fps' g5 => x.rt σ' H' s' v o fp fps' (g12.trans g5),
        fun σ' H' s' fps' g5 z => x.nx σ' H' s' fps' (g12.trans g5) z, fun σ' H' s' fps' g5 z => ⟨s', fps', g12.trans g5, z⟩, fun C σ' H' s' fps' g5 z => x.er C σ' H' s' fps' (g12.trans g5) z⟩
    | false => exact x.nx σ1 H2 s2 fps2 (g1.trans g2) h2
end
end Mk

/-! part Mk6 -/
/-! Mk, part 6: comprehensions; defs as contracts, calls. -/
namespace Mk
open PySem PySem.Spec PyProof.Rows L2 Evl Lk LamX
def wipeE : List (Option O) → List Nat → List (Option O)
  | e, [] => e
  | e, v :: vs => (wipeE e vs).set v none
def wipeS (vs : List Nat) (s : S) : S := ⟨wipeE s.env vs, s.n, s.bor⟩
theorem wipeE_len (e : List (Option O)) : ∀ vs, (wipeE e vs).length = e.length
  | [] => rfl
  | v :: vs => by rw [wipeE, List.length_set, wipeE_len e vs]
theorem wipeE_some {e : List (Option O)} {i : Nat} {o : O} : ∀ {vs : List Nat}, (wipeE e vs)[i]? = some (some o) → e[i]? = some (some o) ∧ i ∉ vs
  | [], h => ⟨h, by simp⟩
  | v :: vs, h => by
    rw [wipeE] at h
    by_cases hi : v = i
    · subst hi
      by_cases hv : v < (wipeE e vs).length
      · rw [List.getElem?_set_self hv] at h; cases h
      · rw [List.getElem?_eq_none (by simpa using hv)] at h; cases h
    · rw [List.getElem?_set_ne hi] at h
      obtain ⟨h1, h2⟩ := wipeE_some h
      exact ⟨h1, by simp only [List.mem_cons, not_or]; exact ⟨fun e => hi e.symm, h2⟩⟩
theorem wipeE_out {e : List (Option O)} {i : Nat} : ∀ {vs : List Nat}, i ∉ vs → (wipeE e vs)[i]? = e[i]?
  | [], _ => rfl
  | v :: vs, h => by
    have h1 : v ≠ i := fun z => h (by rw [z]; exact List.mem_cons_self)
    have h2 : i ∉ vs := fun m => h (List.mem_cons_of_mem _ m)
    rw [wipeE, List.getElem?_set_ne h1]
    exact wipeE_out h2
noncomputable def fwipe (fps : Nat → Ad) (vs : List Nat) : Nat → Ad := fun i => open Classical in if i ∈ vs then nol else fps i
theorem fwipe_in {fps : Nat → Ad} {vs : List Nat} {i : Nat} {a : Addr} (h : fwipe fps vs i a) : fps i a ∧ i ∉ vs := by
  unfold fwipe at h
  by_cases q : i ∈ vs
  · rw [if_pos q] at h; exact h.elim
  · rw [if_neg q] at h; exact ⟨h, q⟩
section
variable {K : PySem.W.Frag} {T : List (Addr × Str)} {W : WX} {σ0 σ : L2.St} {H H0 : Hp} {s s0 : S} {R fp : Ad} {fps fps0 : Nat → Ad}
theorem Go.wipe (G : Go K T σ0 H0 s0 R fps0 σ H s (alt R fp) fps) {vs : List Nat} (hb : ∀ v ∈ vs, v ∉ s.bor) : Go K T σ0 H0 s0 R fps0 (L2.wipe σ vs) H (wipeS vs s) (alt R fp) (fwipe fps vs) := by
  have I := G.iv
  have g : Gr (Wf (alt R fp) fps) H (Wf (alt R fp) (fwipe fps vs)) H := gr_sub fun a z => z.imp id fun ⟨i, y⟩ => ⟨i, (fwipe_in y).1⟩
  refine ⟨⟨?_, fun i o e => ?_, fun i h a z => ?_, fun i j a z y => I.dis i j a (fwipe_in z).1 (fwipe_in y).1, fun i a z => I.disR i a (fwipe_in z).1, I.liv, I.tab, fun i hi => ?_⟩, G.kp, G.gr.trans g, G.bo, G.le, G.sb⟩
  · rw [L2.wipe_length]
    show _ = (wipeE s.env vs).length
    rw [wipeE_len]
    exact I.len
  · obtain ⟨e1, ni⟩ := wipeE_some e
    obtain ⟨v, h1, h2⟩ := I.at_ i o e1
    refine ⟨v, by rw [wipe_out ni]; exact h1, ?_⟩
    have ef : fwipe fps vs i = fps i := if_neg ni
    rw [ef]
    exact h2.keep g (fun _ _ => rfl) (Nat.le_refl _)
  · obtain ⟨z, ni⟩ := fwipe_in z
    exact I.emp i (fun o e => h o (by
      show (wipeE s.env vs)[i]? = _
      rw [wipeE_out ni]; exact e)) a z
  · have ni : i ∉ vs := fun z => hb i z hi
    rw [wipe_out ni]
    exact I.bor i hi
theorem Go.unwipe {vs : List Nat} (G : Go K T σ0 H0 s0 R fps0 (L2.wipe σ vs) H s (alt R fp) fps) (hb : ∀ v ∈ vs, v ∉ s.bor) : Go K T σ0 H0 s0 R fps0 σ H s (alt R fp) fps := by
  have I := G.iv
  refine ⟨⟨by rw [← I.len, L2.wipe_length], fun i o e => ?_, I.emp, I.dis, I.disR, I.liv, I.tab, fun i hi => ?_⟩, G.kp, G.gr, G.bo, G.le, G.sb⟩
  · obtain ⟨v, h1, h2⟩ := I.at_ i o e
    exact ⟨v, (L2.wipe_some h1).1, h2⟩
  · have h := I.bor i hi
    rw [wipe_out (fun z => hb i z hi)] at h
    exact h
theorem mutR_go {D : Addr} {vs vs' : List V} (G : Go K T σ0 H0 s0 R fps0 σ H s (alt R fp) fps) (hD : H D = some (.lst vs)) (zD : fp D) (nR : ¬ R D) :
    Go K T σ0 H0 s0 R fps0 σ (upd H D (.lst vs')) s (alt R fp) fps ∧ Gr (Wf (alt R fp) fps) H (Wf (alt R fp) fps) (upd H D (.lst vs')) := by
  have I := G.iv
  have g : Gr (Wf (alt R fp) fps) H (Wf (alt R fp) fps) (upd H D (.lst vs')) := gr_of (fun b o h n _ => by
    rw [upd_ne (show b ≠ D from fun z => n (.inl (.inr (z ▸ zD))))]
    exact h) (fun _ _ _ n => n)
  refine ⟨⟨I.step g (fun i b q => upd_ne (show b ≠ D from fun z => I.disR i b q (.inr (z ▸ zD)))) I.disR (fun b q => ?_) (Tabs.lst I.tab hD), fun b q => (upd_ne (show b ≠ D from fun z => nR (z ▸ q))).trans (G.kp b q), G.gr.trans g, G.bo, G.le, G.sb⟩, g⟩
  by_cases e : b = D
  · rw [e, upd_same]; exact trivial
  · rw [upd_ne e]; exact I.liv b q
end
/-- a target's reading stores into the slots vs alone -/
def GOnly (g : TG) (vs : List Nat) : Prop := ∀ v σ H Q, g v σ H Q → g v σ H fun σ' H' => L2.wipe σ' vs = L2.wipe σ vs ∧ Q σ' H'
theorem wipe_set {σ : L2.St} {i : Nat} {x : Option V} : ∀ {vs : List Nat}, i ∈ vs → L2.wipe (σ.set i x) vs = L2.wipe σ vs
  | v :: vs, h => by
    unfold L2.wipe
    apply List.ext_getElem?
    intro j
    by_cases e : j = v
    · subst e
      by_cases hv : j < σ.length
      · rw [List.getElem?_set_self (by rw [L2.wipe_length, List.length_set]; exact hv), List.getElem?_set_self (by rw [L2.wipe_length]; exact hv)]
      · rw [List.getElem?_eq_none (by rw [List.length_set, L2.wipe_length, List.length_set]; omega), List.getElem?_eq_none (by rw [List.length_set, L2.wipe_length]; omega)]
    · rw [List.getElem?_set_ne (Ne.symm e), List.getElem?_set_ne (Ne.symm e)]
      by_cases q : i ∈ vs
      · rw [wipe_set q]
      · have ei : i = v := (List.mem_cons.mp h).resolve_right q
        subst ei
        by_cases qj : j ∈ vs
        · have hs : ∀ (τ : L2.St) (ws : List Nat), j ∈ ws → (L2.wipe τ ws)[j]? = if j < τ.length then some none else none := fun τ ws => by
            induction ws with
            | nil => intro z; cases z
            | cons w ws ih =>
              intro z
              unfold L2.wipe
              by_cases ew : w = j
              · subst ew
                by_cases hl : w < τ.length
                · rw [List.getElem?_set_self (by rw [L2.wipe_length]; exact hl), if_pos hl]
                · rw [List.getElem?_eq_none (by rw [List.length_set, L2.wipe_length]; omega), if_neg hl]
              · rw [List.getElem?_set_ne ew]
                exact ih ((List.mem_cons.mp z).resolve_left (Ne.symm ew))
          rw [hs _ _ qj, hs _ _ qj, List.length_set]
        · rw [wipe_out qj, wipe_out qj, List.getElem?_set_ne (Ne.symm e)]
theorem wipe_wipe {σ : L2.St} : ∀ {vs : List Nat}, L2.wipe (L2.wipe σ vs) vs = L2.wipe σ vs := by
  intro vs
  have key : ∀ ws : List Nat, (∀ w ∈ ws, w ∈ vs) → L2.wipe (L2.wipe σ ws) vs = L2.wipe σ vs := by
    intro ws
    induction ws with
    | nil => intro _; rfl
    | cons w ws ih =>
      intro h
      rw [show L2.wipe σ (w :: ws) = (L2.wipe σ ws).set w none from rfl, wipe_set (h w List.mem_cons_self)]
      exact ih fun x hx => h x (List.mem_cons_of_mem _ hx)
  exact key vs fun _ h => h
theorem gonly_n {i : Nat} {vs : List Nat} (h : i ∈ vs) : GOnly (gName i) vs := fun v σ H Q q => ⟨wipe_set h, q⟩
/-- targets' readings are monotone -/
def GMono (g : TG) : Prop := ∀ v σ H (Q Q' : L2.St → Hp → Prop), (∀ σ' H', Q σ' H' → Q' σ' H') → g v σ H Q → g v σ H Q'
def GsMono (g : TGs) : Prop := ∀ v σ H (Q Q' : L2.St → Hp → Prop), (∀ σ' H', Q σ' H' → Q' σ' H') → g v σ H Q → g v σ H Q'
theorem gmono_n {i : Nat} : GMono (gName i) := fun v σ H Q Q' h q => h _ _ q
theorem gsmono_nil : GsMono gNil := fun v σ H Q Q' h q => ⟨q.1, h _ _ q.2⟩
theorem gsmono_cons {g : TG} {gs : TGs} (h : GMono g) (hs : GsMono gs) : GsMono (gCons g gs) := fun v σ H Q Q' i ⟨x, r, e, q⟩ => ⟨x, r, e, h _ _ _ _ _ (fun σ' H' z => hs _ _ _ _ _ i z) q⟩
theorem gmono_t {K : PySem.W.Frag} {n : Nat} {gs : TGs} (hs : GsMono gs) : GMono (gTup K n gs) := fun v σ H Q Q' i ⟨a, xs, e, h1, h2, q⟩ => ⟨a, xs, e, h1, h2, hs _ _ _ _ _ i q⟩
def mYes : MT := fun s Q _ => Q true s
def mLcL (g : MG) (t : MT) (e : ME) (vs : List Nat) : List PyData → List PyData → S → (List PyData → S → Prop) → Prop
  | [], acc, s, Q => Q acc s
  | d :: ds, acc, s, Q => g d s fun s1 => t s1 (fun b s2 => if b = true then mD e s2 (fun y s3 => acc.length < 100000 ∧ mLcL g t e vs ds (acc ++ [y]) (wipeS vs s3) Q) (fun _ _ => False) else mLcL g t e vs ds acc (wipeS vs s2) Q) (fun _ _ => False)
def mLc (i : MI) (g : MG) (t : MT) (e : ME) (vs : List Nat) : ME := fun s Q X => i s (fun ds s1 => (∀ v ∈ vs, v ∉ s1.bor) ∧ mLcL g t e vs ds [] (wipeS vs s1) fun acc s2 => Q (.val (.lst acc)) s2) X
section
variable {K : PySem.W.Frag} {T : List (Addr × Str)} {W : WX}
theorem sim_yes : SimT K T W tYes mYes := fun σ0 σ H s R fps I Qm Xm hm hx Q hQ => hQ true H s fps (Go.refl I) hm
theorem sim_lc {wi : TI} {mi : MI} {tg : TG} {g : MG} {tt : TT} {t : MT} {te : TE} {e : ME} {vs : List Nat} (hi : SimI K T W wi mi) (hg : SimG K T tg g) (ho : GOnly tg vs) (hmo : GMono tg) (ht : SimT K T (fun _ _ _ _ => False) tt t) (he : SimE K T (fun _ _ _ _ => False) te e) :
    SimE K T W (tLc wi tg tt te vs) (mLc mi g t e vs) := by
  intro σ0 σ H s R fps I Qm Xm hm hx Q hQ
  refine hi σ0 σ H s R fps I _ Xm hm hx _ fun J H1 s1 ds fps1 g1 st q => ?_
  obtain ⟨hb, q⟩ := q
  intro D hD
  obtain ⟨fp, g2, hA, hfp⟩ := res_go (v := .ref D) (H' := upd H1 D (.lst [])) (o := .lst []) g1.iv (.lst hD .nil)
  cases hA with
  | lst hA hdA hz =>
    have zD : fp D := (hz D).mpr rfl
    have nR : ¬ R D := fun z => by
      have e := g1.iv.liv D z
      rw [hD] at e; exact e
    have g3 := (g1.trans g2).wipe (vs := vs) hb
    have bo : ∀ {s' : S}, s'.bor = s.bor → ∀ v ∈ vs, v ∉ s'.bor := fun {s'} e v hv => by
      rw [e, ← g1.bo]
      exact hb v hv
    refine ⟨fun i m H' => m = ds.length - i ∧ i ≤ ds.length ∧ ∃ s' fps' acc vsa, Go K T σ0 H s R fps (L2.wipe σ vs) H' s' (alt R fp) fps' ∧ Ex (hid (Wf R fps1) H1) (hid (Wf (alt R fp) fps') H') ∧ H' D = some (.lst vsa) ∧ DqAll K (hid (Wf (alt R fp) fps') H') vsa acc ∧
      mLcL g t e vs (ds.drop i) acc s' (fun acc s2 => Qm (.val (.lst acc)) s2), ⟨ds.length, by simp, Nat.zero_le _, _, _, [], [], g3, ?_, upd_same, .nil, q⟩, ?_⟩
    · exact g2.gr.trans (gr_sub fun a z => z.imp id fun ⟨i, y⟩ => ⟨i, (fwipe_in y).1⟩)
    · rintro i m H2 ⟨rfl, hi2, s2, fps2, acc, vsa, g4, x4, hD4, hacc, q2⟩
      obtain ⟨st1, st2⟩ := st σ0 _ H2 s2 _ fps2 g4.iv x4 i
      by_cases hlt : i < ds.length
      · obtain ⟨go, yl⟩ := st1 ds[i] (List.getElem?_eq_getElem hlt)
        rw [List.drop_eq_getElem_cons hlt] at q2
        refine .inr ⟨go, fun H' => ∃ s' fps' acc vsa, Go K T σ0 H s R fps (L2.wipe σ vs) H' s' (alt R fp) fps' ∧ Ex (hid (Wf R fps1) H1) (hid (Wf (alt R fp) fps') H') ∧ H' D = some (.lst vsa) ∧ DqAll K (hid (Wf (alt R fp) fps') H') vsa acc ∧
          mLcL g t e vs (ds.drop (i + 1)) acc s' (fun acc s2 => Qm (.val (.lst acc)) s2), fun H' z => ⟨ds.length - (i + 1), by omega, rfl, hlt, z⟩, fun v H3 y => ?_⟩
        obtain ⟨g5, hd⟩ := yl v H3 y
        refine hmo _ _ _ (fun σ2 H2 => L2.wipe σ2 vs = L2.wipe (L2.wipe σ vs) vs ∧ (L2.wipe σ2 vs = L2.wipe σ vs → tt σ2 H2 fun b H3 => if b = true then te σ2 H3 fun y H4 => ∃ acc, H4 D = some (.lst acc) ∧ acc.length < sizeLine ∧ ∃ s' fps' acc1 vsa, Go K T σ0 H s R fps (L2.wipe σ vs) (upd H4 D (.lst (acc ++ [y]))) s' (alt R fp) fps' ∧ Ex (hid (Wf R fps1) H1) (hid (Wf (alt R fp) fps') (upd H4 D (.lst (acc ++ [y])))) ∧ (upd H4 D (.lst (acc ++ [y]))) D = some (.lst vsa) ∧ DqAll K (hid (Wf (alt R fp) fps') (upd H4 D (.lst (acc ++ [y])))) vsa acc1 ∧
            mLcL g t e vs (ds.drop (i + 1)) acc1 s' (fun acc s2 => Qm (.val (.lst acc)) s2) else ∃ s' fps' acc1 vsa, Go K T σ0 H s R fps (L2.wipe σ vs) H3 s' (alt R fp) fps' ∧ Ex (hid (Wf R fps1) H1) (hid (Wf (alt R fp) fps') H3) ∧ H3 D = some (.lst vsa) ∧ DqAll K (hid (Wf (alt R fp) fps') H3) vsa acc1 ∧
            mLcL g t e vs (ds.drop (i + 1)) acc1 s' (fun acc s2 => Qm (.val (.lst acc)) s2))) _ (fun σ2 H2 z => ?_) (ho _ _ _ _ (hg σ0 (L2.wipe σ vs) H3 s2 (alt R fp) fps2 g5.iv v _ hd _ q2 _ fun σ6 H6 s6 fps6 g6 q6 hw => ?_))
        · rw [wipe_wipe] at z
          exact ⟨z.1, z.2 z.1⟩
        · have xf : ∀ {σ : L2.St} {H : Hp} {s : S} {R : Ad} {fps : Nat → Ad}, XOk K T (fun _ _ _ _ => False) σ0 σ H s R fps (fun _ _ => False) := fun {σ H s R fps} C H' s' fps' _ z => z
          have D6 : H6 D = some (.lst vsa) := ((g5.trans g6).kp D (.inr zD)).trans hD4
          refine ht σ0 σ6 H6 s6 _ fps6 g6.iv _ _ q6 xf _ fun b H7 s7 fps7 g7 q7 => ?_
          have g57 := (g5.trans g6).trans g7
          have D7 : H7 D = some (.lst vsa) := (g7.kp D (.inr zD)).trans D6
          cases b with
          | true =>
            refine sim_d he σ0 σ6 H7 s7 _ fps7 g7.iv _ _ q7 xf _ fun w H8 s8 y fps8 g8 hy q8 => ?_
            have g58 := g57.trans g8
            have D8 : H8 D = some (.lst vsa) := (g8.kp D (.inr zD)).trans D7
            have G8 : Go K T σ0 H s R fps σ6 H8 s8 (alt R fp) fps8 := ⟨g8.iv, fun a z => (g58.kp a (.inl z)).trans (g4.kp a z), g4.gr.trans g58.gr, g58.bo.trans g4.bo, Nat.le_trans g4.le g58.le, fun _ z => .inl z⟩
            obtain ⟨G9, m9⟩ := mutR_go (vs' := vsa ++ [w]) G8 D8 zD nR
            have G10 := G9.wipe (vs := vs) (bo G9.bo)
            rw [hw] at G10
            have m10 : Gr (Wf (alt R fp) fps8) H8 (Wf (alt R fp) (fwipe fps8 vs)) (upd H8 D (.lst (vsa ++ [w]))) := m9.trans (gr_sub fun a z => z.imp id fun ⟨i, y⟩ => ⟨i, (fwipe_in y).1⟩)
            have ln : vsa.length = acc.length := dps_len hacc
            exact ⟨vsa, D8, sz_lt (by rw [ln]; exact q8.1), _, _, acc ++ [y], vsa ++ [w], G10, x4.trans (g58.gr.trans m10), upd_same, dps_app (dps_ex m10 _ _ (dps_ex g58.gr _ _ hacc)) (.cons (dp_ex m10 _ _ hy) .nil), q8.2⟩
          | false =>
            have G8 : Go K T σ0 H s R fps σ6 H7 s7 (alt R fp) fps7 := ⟨g7.iv, fun a z => (g57.kp a (.inl z)).trans (g4.kp a z), g4.gr.trans g57.gr, g57.bo.trans g4.bo, Nat.le_trans g4.le g57.le, fun _ z => .inl z⟩
            have G10 := G8.wipe (vs := vs) (bo G8.bo)
            rw [hw] at G10
            have m10 : Gr (Wf (alt R fp) fps7) H7 (Wf (alt R fp) (fwipe fps7 vs)) H7 := gr_sub fun a z => z.imp id fun ⟨i, y⟩ => ⟨i, (fwipe_in y).1⟩
            exact ⟨_, _, acc, vsa, G10, x4.trans (g57.gr.trans m10), D7, dps_ex m10 _ _ (dps_ex g57.gr _ _ hacc), q7⟩
      · refine .inl ⟨st2 (by omega), ?_⟩
        rw [List.drop_eq_nil_of_le (by omega)] at q2
        have bo2 := bo g4.bo
        have g6 := g4.unwipe bo2
        exact hQ (.ref D) H2 s2 _ fp fps2 g6 (.val (.lst hD4 hacc hz)) (fun a z y => nR (by rw [(hz a).mp z] at y; exact y)) q2
end
end Mk

/-! part Mk7 -/
/-! Mk, part 7: defs as contracts, calls. -/
namespace Mk
open PySem PySem.Spec PyProof.Rows L2 Evl Lk LamX
/-- what a def does with things, at so many draws: its answer (or error), its parameters' things, the draws behind it -/
abbrev Den : Type := List O → Nat → (O → List O → Nat → Prop) → (Addr → List O → Nat → Prop) → Prop
def isOwn : O → Bool
  | .dat _ => false
  | .exc _ => false
  | _ => true
def ownsFrom : Nat → List O → List Nat
  | _, [] => []
  | k, o :: os => if isOwn o then k :: ownsFrom (k + 1) os else ownsFrom (k + 1) os
def fins : List O → List (Option O) → Option (List O)
  | [], _ => some []
  | o :: os, e :: es => match (if isOwn o then e else some o), fins os es with
    | some x, some xs => some (x :: xs)
    | _, _ => none
  | _ :: _, [] => none
def spM (K : PySem.W.Frag) (T : List (Addr × Str)) (G : Den) : Sp := fun vs H Q E => ∃ os n R fps Qm Xm, Iv K T (vs.map some) (vs.map some) H ⟨os.map some, n, []⟩ R fps ∧ G os n Qm Xm ∧
  (∀ v H' o os' n' fp fps', Go K T (vs.map some) H ⟨os.map some, n, []⟩ R fps (vs.map some) H' ⟨os'.map some, n', []⟩ (alt R fp) fps' → At K (hid (Wf (alt R fp) fps') H') H' n' v o fp → (∀ a, fp a → ¬ R a) → Qm o os' n' → Q v H') ∧
  (∀ C H' os' n' fps', Go K T (vs.map some) H ⟨os.map some, n, []⟩ R fps (vs.map some) H' ⟨os'.map some, n', []⟩ R fps' → Xm C os' n' → E (.ref C) none H')
/-- the slots at a def's entry -/
def s0Of (N : Nat) (os : List O) (n : Nat) : S := ⟨os.map some ++ List.replicate (N - os.length) none, n, ownsFrom 0 os⟩
def kOf (os : List O) (Qm : O → List O → Nat → Prop) (Xm : Addr → List O → Nat → Prop) : SK where
  nx := fun s => match fins os s.env with
    | some os' => Qm (.dat .none) os' s.n
    | none => False
  rt := fun o s => match fins os s.env with
    | some os' => Qm o os' s.n
    | none => False
  bk := fun _ => False
  ct := fun _ => False
  er := fun C s => match fins os s.env with
    | some os' => Xm C os' s.n
    | none => False
def runD (N : Nat) (b : MS) : Den := fun os n Qm Xm => b (s0Of N os n) (kOf os Qm Xm)
theorem ownsFrom_of : ∀ {os : List O} {k j : Nat} {o : O}, os[j]? = some o → isOwn o = true → k + j ∈ ownsFrom k os
  | o :: os, k, 0, o', h, q => by
    cases h
    rw [ownsFrom, if_pos q]
    exact List.mem_cons_self
  | o :: os, k, j + 1, o', h, q => by
    have ih := ownsFrom_of (os := os) (k := k + 1) (j := j) (o := o') h q
    have e : k + (j + 1) = k + 1 + j := by omega
    rw [ownsFrom, e]
    by_cases r : isOwn o = true
    · rw [if_pos r]; exact List.mem_cons_of_mem _ ih
    · rw [if_neg r]; exact ih
theorem fins_at : ∀ {os : List O} {es : List (Option O)} {os' : List O}, fins os es = some os' → os'.length = os.length ∧ ∀ (j : Nat) (o o' : O), os[j]? = some o → os'[j]? = some o' → if isOwn o then es[j]? = some (some o') else o' = o
  | [], es, os', h => by
    cases h
    exact ⟨rfl, fun j o o' e => by cases e⟩
  | o :: os, [], os', h => by cases h
  | o :: os, e :: es, os', h => by
    rw [fins] at h
    split at h
    · rename_i x xs h1 h2
      cases h
      obtain ⟨l, f⟩ := fins_at h2
      refine ⟨by simp [l], fun j p p' e1 e2 => ?_⟩
      cases j with
      | zero =>
        cases e1; cases e2
        by_cases q : isOwn o = true
        · rw [if_pos q] at h1 ⊢
          rw [h1]; rfl
        · rw [if_neg q] at h1 ⊢
          exact (Option.some.inj h1).symm
      | succ j => exact f j p p' e1 e2
    · cases h
section
variable {K : PySem.W.Frag} {T : List (Addr × Str)} {N : Nat}
theorem start_at {N : List Str} {vs : List V} {i : Nat} {v : V} (h : vs[i]? = some v) : (L2.start N vs)[i]? = some (some v) := by
  unfold L2.start
  have hi := (List.getElem?_eq_some_iff.mp h).1
  rw [List.getElem?_append_left (by simpa using hi), List.getElem?_map, h]
  rfl
theorem map_at {α : Type} {l : List α} {i : Nat} {x : α} : (l.map some)[i]? = some (some x) ↔ l[i]? = some x := by
  rw [List.getElem?_map]
  constructor
  · intro h
    obtain ⟨y, hy, e⟩ := Option.map_eq_some_iff.mp h
    cases e
    exact hy
  · intro h
    rw [h]; rfl
theorem entry_iv {Ns : List Str} {vs : List V} {os : List O} {n : Nat} {H : Hp} {R : Ad} {fps : Nat → Ad} (I : Iv K T (vs.map some) (vs.map some) H ⟨os.map some, n, []⟩ R fps) (hN : vs.length ≤ Ns.length) :
    Iv K T (L2.start Ns vs) (L2.start Ns vs) H (s0Of Ns.length os n) R fps := by
  have l : vs.length = os.length := by
    have := I.len
    simpa using this
  have envs : ∀ i o, (s0Of Ns.length os n).env[i]? = some (some o) → os[i]? = some o := fun i o e => by
    unfold s0Of at e
    by_cases hi : i < os.length
    · rw [List.getElem?_append_left (by simpa using hi)] at e
      exact map_at.mp e
    · rw [List.getElem?_append_right (by simpa using hi), List.getElem?_replicate] at e
      split at e <;> cases e
  refine ⟨?_, fun i o e => ?_, fun i h a z => ?_, I.dis, I.disR, I.liv, I.tab, fun _ _ => rfl⟩
  · unfold L2.start s0Of
    simp [l]
  · obtain ⟨v, h1, h2⟩ := I.at_ i o (map_at.mpr (envs i o e))
    exact ⟨v, start_at (map_at.mp h1), h2⟩
  · refine I.emp i (fun o e => h o ?_) a z
    have e' := map_at.mp e
    unfold s0Of
    rw [List.getElem?_append_left (by simpa using (List.getElem?_eq_some_iff.mp e').1)]
    exact map_at.mpr e'
/-- back from a body: the parameters' things -/
theorem leave_go {Ns : List Str} {vs : List V} {os os' : List O} {n : Nat} {H H' : Hp} {R fp : Ad} {fps fps' : Nat → Ad} {σ' : L2.St} {s' : S} (I : Iv K T (vs.map some) (vs.map some) H ⟨os.map some, n, []⟩ R fps)
    (G : Go K T (L2.start Ns vs) H (s0Of Ns.length os n) R fps σ' H' s' (alt R fp) fps') (e : fins os s'.env = some os') :
    ∃ fps2, Go K T (vs.map some) H ⟨os.map some, n, []⟩ R fps (vs.map some) H' ⟨os'.map some, s'.n, []⟩ (alt R fp) fps2 ∧ Gr (Wf (alt R fp) fps') H' (Wf (alt R fp) fps2) H' := by
  have l : vs.length = os.length := by
    have := I.len
    simpa using this
  obtain ⟨l2, fa⟩ := fins_at e
  have J := G.iv
  let fps2 : Nat → Ad := fun i a => fps' i a ∧ ∃ o, os[i]? = some o ∧ isOwn o = true
  have sub : Gr (Wf (alt R fp) fps') H' (Wf (alt R fp) fps2) H' := gr_sub fun a z => z.imp id fun ⟨i, y⟩ => ⟨i, y.1⟩
  refine ⟨fps2, ⟨⟨by simp [l, l2], fun i o' ei => ?_, fun i h a z => ?_, fun i j a z y => J.dis i j a z.1 y.1, fun i a z => J.disR i a z.1, J.liv, J.tab, fun _ z => nomatch z⟩, G.kp, G.gr.trans sub, rfl, G.le, G.sb⟩, sub⟩
  · have ei' := map_at.mp ei
    have hi : i < os.length := by rw [← l2]; exact (List.getElem?_eq_some_iff.mp ei').1
    have eo : os[i]? = some os[i] := List.getElem?_eq_getElem hi
    have fi := fa i _ o' eo ei'
    obtain ⟨v, hv, hA⟩ := I.at_ i _ (map_at.mpr eo)
    refine ⟨v, hv, ?_⟩
    by_cases q : isOwn os[i] = true
    · rw [if_pos q] at fi
      obtain ⟨w, hw, hB⟩ := J.at_ i o' fi
      have hb : i ∈ s'.bor := by
        rw [G.bo]
        have := ownsFrom_of (k := 0) eo q
        rw [Nat.zero_add] at this
        exact this
      rw [J.bor i hb, start_at (map_at.mp hv)] at hw
      cases hw
      exact (hB.keep sub (fun _ _ => rfl) (Nat.le_refl _)).fpc fun a => ⟨fun z => z.1, fun z => ⟨z, _, eo, q⟩⟩
    · rw [if_neg q] at fi
      subst fi
      have nf : ∀ a, ¬ fps2 i a := fun a ⟨_, o, e1, q1⟩ => by
        rw [eo] at e1
        cases e1
        exact q q1
      generalize os[i] = ob at q hA
      cases hA with
      | dat h z => exact .dat (dp_ex (G.gr.trans sub) _ _ h) nf
      | lst h hd z => exact (q rfl).elim
      | dct h hd z => exact (q rfl).elim
      | st h z => exact (q rfl).elim
      | xs h hd z => exact (q rfl).elim
      | exc h z => exact .exc ((G.gr.trans sub) _ _ h) nf
  · obtain ⟨_, o, e1, _⟩ := z
    have hi : i < os'.length := by rw [l2]; exact (List.getElem?_eq_some_iff.mp e1).1
    exact h _ (map_at.mpr (List.getElem?_eq_getElem hi))
theorem body_ok {Ns : List Str} {vs : List V} {H : Hp} {Q : VK} {E : XK} {ts : TS} {b : MS} (hN : vs.length ≤ Ns.length) (hb : SimS K T (fun cls d _ H => E cls d H) ts b) (h : spM K T (runD Ns.length b) vs H Q E) :
    ts { nx := fun _ H' => Q .non H', rt := Q } (L2.start Ns vs) H := by
  obtain ⟨os, n, R, fps, Qm, Xm, I, hm, hQ, hE⟩ := h
  refine hb _ _ H _ R fps (entry_iv I hN) _ _ hm ⟨fun σ' H' s' fps' g z => ?_, fun σ' H' s' v o fp fps' g hA nR z => ?_, fun _ _ _ _ _ z => z.elim, fun _ _ _ _ _ z => z.elim, fun C σ' H' s' fps' g z => ?_⟩
  · have z' : (match fins os s'.env with
      | some os' => Qm (.dat .none) os' s'.n
      | none => False) := z
    split at z'
    · rename_i os' e
      obtain ⟨fps2, G2, sub⟩ := leave_go I (g.alt0 (fp := nol) fun _ z => z) e
      exact hQ .non H' _ os' s'.n nol fps2 G2 (.dat .non fun _ z => z) (fun _ z => z.elim) z'
    · exact z'.elim
  · have z' : (match fins os s'.env with
      | some os' => Qm o os' s'.n
      | none => False) := z
    split at z'
    · rename_i os' e
      obtain ⟨fps2, G2, sub⟩ := leave_go I g e
      exact hQ v H' o os' s'.n fp fps2 G2 (hA.keep sub (fun _ _ => rfl) (Nat.le_refl _)) nR z'
    · exact z'.elim
  · have z' : (match fins os s'.env with
      | some os' => Xm C os' s'.n
      | none => False) := z
    split at z'
    · rename_i os' e
      obtain ⟨fps2, G2, sub⟩ := leave_go I (g.alt0 (fp := nol) fun _ z => z) e
      rw [alt_nol] at G2
      exact hE C H' os' s'.n fps2 G2 z'
    · exact z'.elim
end
end Mk

/-! part Mk8 -/
/-! Mk, part 8: calls. -/
namespace Mk
open PySem PySem.Spec PyProof.Rows L2 Evl Lk LamX
def gets (s : S) : List Rs → Option (List O)
  | [] => some []
  | .val o :: rs => match gets s rs with
    | some os => some (o :: os)
    | none => none
  | .slot i :: rs => match s.env[i]?, gets s rs with
    | some (some o), some os => some (o :: os)
    | _, _ => none
def slotsOf : List Rs → List Nat
  | [] => []
  | .val _ :: rs => slotsOf rs
  | .slot i :: rs => i :: slotsOf rs
def backs : List Rs → List O → S → S
  | .slot i :: rs, o :: os, s => backs rs os (putO s i o)
  | .val _ :: rs, _ :: os, s => backs rs os s
  | _, _, s => s
def getF (fps : Nat → Ad) : List Rs → List Ad → List Ad
  | .val _ :: rs, f :: l => f :: getF fps rs l
  | .slot i :: rs, _ :: l => fps i :: getF fps rs l
  | _, _ => []
def ofL (l : List Ad) : Nat → Ad := fun k => (l[k]?).getD nol
def mCall (G : Den) (m : MA) : ME := fun s Q X => m s (fun rs s1 => match gets s1 rs with
  | some os => (slotsOf rs).Nodup ∧ G os s1.n (fun o os' n' => Q (.val o) (backs rs os' ⟨s1.env, n', s1.bor⟩)) (fun C os' n' => X C (backs rs os' ⟨s1.env, n', s1.bor⟩))
  | none => False) X
theorem anyF_getF {fps : Nat → Ad} : ∀ {rs : List Rs} {l : List Ad} {a : Addr}, AnyF (getF fps rs l) a → AnyF l a ∨ ∃ i ∈ slotsOf rs, fps i a
  | [], _, _, ⟨_, h, _⟩ => nomatch h
  | .val _ :: rs, [], _, ⟨_, h, _⟩ => nomatch h
  | .slot _ :: rs, [], _, ⟨_, h, _⟩ => nomatch h
  | .val _ :: rs, f :: l, a, h => by
    rw [getF, anyF_cons] at h
    rw [anyF_cons]
    rcases h with h | h
    · exact .inl (.inl h)
    · exact (anyF_getF h).imp .inr id
  | .slot i :: rs, f :: l, a, h => by
    rw [getF, anyF_cons] at h
    rw [anyF_cons]
    rcases h with h | h
    · exact .inr ⟨i, List.mem_cons_self, h⟩
    · rcases anyF_getF h with h | ⟨j, hj, h⟩
      · exact .inl (.inr h)
      · exact .inr ⟨j, List.mem_cons_of_mem _ hj, h⟩
theorem apart_at : ∀ {l : List Ad}, Apart l → ∀ {i j : Nat} {a : Addr}, ofL l i a → ofL l j a → i = j
  | [], _, i, j, a, h, _ => h.elim
  | f :: l, ap, 0, 0, a, _, _ => rfl
  | f :: l, ap, 0, j + 1, a, h, g => by
    exfalso
    refine ap.1 a h ?_
    have g' : (l[j]?).getD nol a := g
    cases q : l[j]? with
    | none => rw [q] at g'; exact g'.elim
    | some x => rw [q] at g'; exact ⟨x, List.mem_of_getElem? q, g'⟩
  | f :: l, ap, i + 1, 0, a, h, g => by
    exfalso
    refine ap.1 a g ?_
    have g' : (l[i]?).getD nol a := h
    cases q : l[i]? with
    | none => rw [q] at g'; exact g'.elim
    | some x => rw [q] at g'; exact ⟨x, List.mem_of_getElem? q, g'⟩
  | f :: l, ap, i + 1, j + 1, a, h, g => congrArg Nat.succ (apart_at (l := l) ap.2 h g)
theorem ofL_any {l : List Ad} {k : Nat} {a : Addr} (h : ofL l k a) : AnyF l a := by
  have h' : (l[k]?).getD nol a := h
  cases q : l[k]? with
  | none => rw [q] at h'; exact h'.elim
  | some x => rw [q] at h'; exact ⟨x, List.mem_of_getElem? q, h'⟩
theorem any_ofL {l : List Ad} {a : Addr} (h : AnyF l a) : ∃ k, ofL l k a := by
  obtain ⟨f, hf, q⟩ := h
  obtain ⟨k, hk⟩ := List.getElem?_of_mem hf
  exact ⟨k, show (l[k]?).getD nol a by rw [hk]; exact q⟩
section
variable {K : PySem.W.Frag} {T : List (Addr × Str)} {W : WX} {σ0 σ : L2.St} {H H1 H0 : Hp} {s s1 s0 : S} {R R1 fp : Ad} {fps fps1 fps0 : Nat → Ad}
theorem getF_apart (I : Iv K T σ0 σ H s R fps) : ∀ {rs : List Rs} {l : List Ad}, Apart l → (∀ a, AnyF l a → R a) → (slotsOf rs).Nodup → Apart (getF fps rs l)
  | [], _, _, _, _ => trivial
  | .val _ :: rs, [], _, _, _ => trivial
  | .slot _ :: rs, [], _, _, _ => trivial
  | .val _ :: rs, f :: l, ap, hl, nd => by
    refine ⟨fun a z y => ?_, getF_apart I ap.2 (fun a z => hl a (by rw [anyF_cons]; exact .inr z)) nd⟩
    rcases anyF_getF y with y | ⟨i, _, y⟩
    · exact ap.1 a z y
    · exact I.disR i a y (hl a (by rw [anyF_cons]; exact .inl z))
  | .slot i :: rs, f :: l, ap, hl, nd => by
    have nd' : (i :: slotsOf rs).Nodup := nd
    refine ⟨fun a z y => ?_, getF_apart I ap.2 (fun a z => hl a (by rw [anyF_cons]; exact .inr z)) (List.nodup_cons.mp nd').2⟩
    rcases anyF_getF y with y | ⟨j, hj, y⟩
    · exact I.disR i a z (hl a (by rw [anyF_cons]; exact .inr y))
    · have e := I.dis i j a z y
      rw [← e] at hj
      exact (List.nodup_cons.mp nd').1 hj
/-- the things handed over -/
theorem gets_at (I : Iv K T σ0 σ H s R fps) : ∀ {vs : List V} {rs : List Rs} {l : List Ad} {os : List O}, RAts K (hid (Wf R fps) H) H s.n σ vs rs l → gets s rs = some os →
    os.length = vs.length ∧ rs.length = vs.length ∧ (∀ (k : Nat) (o : O), os[k]? = some o → ∃ v, vs[k]? = some v ∧ At K (hid (Wf R fps) H) H s.n v o (ofL (getF fps rs l) k)) ∧
    (∀ (k i : Nat), rs[k]? = some (Rs.slot i) → ∃ v, vs[k]? = some v ∧ σ[i]? = some (some v) ∧ ∃ o, s.env[i]? = some (some o))
  | _, _, _, os, .nil, e => by
    cases e
    exact ⟨rfl, rfl, (fun k o h => by cases h), fun k i h => by cases h⟩
  | _, .val o :: rs, _, os, .cons (v := v) (fp := f) (vs := vs) (l := l) h hr, e => by
    have e' : (match gets s rs with | some os => some (o :: os) | none => none) = some os := e
    cases q : gets s rs with
    | none => rw [q] at e'; cases e'
    | some os1 =>
      rw [q] at e'
      cases e'
      obtain ⟨h1, h2, h3, h4⟩ := gets_at I hr q
      refine ⟨by simp [h1], by simp [h2], fun k p hp => ?_, fun k i hk => ?_⟩
      · cases k with
        | zero =>
          cases hp
          cases h with
          | val h => exact ⟨v, rfl, h⟩
        | succ k => exact h3 k p hp
      · cases k with
        | zero => cases hk
        | succ k => exact h4 k i hk
  | _, .slot i :: rs, _, os, .cons (v := v) (fp := f) (vs := vs) (l := l) h hr, e => by
    have e' : (match s.env[i]?, gets s rs with
      | some (some o), some os => some (o :: os)
      | _, _ => none) = some os := e
    cases q1 : s.env[i]? with
    | none => rw [q1] at e'; cases e'
    | some x =>
      cases x with
      | none => rw [q1] at e'; cases e'
      | some o =>
        cases q : gets s rs with
        | none => rw [q1, q] at e'; cases e'
        | some os1 =>
          rw [q1, q] at e'
          cases e'
          obtain ⟨h1, h2, h3, h4⟩ := gets_at I hr q
          cases h with
          | slot h hz =>
            refine ⟨by simp [h1], by simp [h2], fun k p hp => ?_, fun k j hk => ?_⟩
            · cases k with
              | zero =>
                cases hp
                exact ⟨v, rfl, I.slotv q1 h⟩
              | succ k => exact h3 k p hp
            · cases k with
              | zero =>
                cases hk
                exact ⟨v, rfl, h, o, q1⟩
              | succ k => exact h4 k j hk
theorem backs_len : ∀ (rs : List Rs) (os : List O) (s : S), (backs rs os s).env.length = s.env.length ∧ (backs rs os s).n = s.n ∧ (backs rs os s).bor = s.bor
  | [], _, _ => ⟨rfl, rfl, rfl⟩
  | .val _ :: rs, [], _ => ⟨rfl, rfl, rfl⟩
  | .slot _ :: rs, [], _ => ⟨rfl, rfl, rfl⟩
  | .val _ :: rs, _ :: os, s => backs_len rs os s
  | .slot i :: rs, o :: os, s => by
    obtain ⟨h1, h2, h3⟩ := backs_len rs os (putO s i o)
    exact ⟨h1.trans (by simp [putO]), h2, h3⟩
theorem backs_out : ∀ {rs : List Rs} {os : List O} {s : S} {i : Nat}, i ∉ slotsOf rs → (backs rs os s).env[i]? = s.env[i]?
  | [], _, _, _, _ => rfl
  | .val _ :: rs, [], _, _, _ => rfl
  | .slot _ :: rs, [], _, _, _ => rfl
  | .val _ :: rs, _ :: os, s, i, h => backs_out (rs := rs) h
  | .slot j :: rs, o :: os, s, i, h => by
    have h' : i ∉ j :: slotsOf rs := h
    have h1 : j ≠ i := fun e => h' (by rw [e]; exact List.mem_cons_self)
    have ih := backs_out (rs := rs) (os := os) (s := putO s j o) (i := i) fun z => h' (List.mem_cons_of_mem _ z)
    show (backs rs os (putO s j o)).env[i]? = _
    rw [ih]
    show (s.env.set j (some o))[i]? = _
    rw [List.getElem?_set_ne h1]
theorem backs_in : ∀ {rs : List Rs} {os : List O} {s : S} {k i : Nat}, (slotsOf rs).Nodup → rs[k]? = some (Rs.slot i) → i < s.env.length → os.length = rs.length → ∃ o, os[k]? = some o ∧ (backs rs os s).env[i]? = some (some o)
  | .val _ :: rs, _ :: os, s, 0, i, _, h, _, _ => by cases h
  | .val _ :: rs, p :: os, s, k + 1, i, nd, h, hi, hl => backs_in (rs := rs) (os := os) (s := s) (k := k) nd h hi (by simpa using hl)
  | .slot j :: rs, o :: os, s, 0, i, nd, h, hi, hl => by
    have ej : j = i := by cases h; rfl
    subst ej
    have nd' : (j :: slotsOf rs).Nodup := nd
    refine ⟨o, rfl, ?_⟩
    show (backs rs os (putO s j o)).env[j]? = _
    rw [backs_out (List.nodup_cons.mp nd').1]
    exact List.getElem?_set_self hi
  | .slot j :: rs, o :: os, s, k + 1, i, nd, h, hi, hl => by
    have nd' : (j :: slotsOf rs).Nodup := nd
    exact backs_in (rs := rs) (os := os) (s := putO s j o) (k := k) (List.nodup_cons.mp nd').2 h (by simpa [putO] using hi) (by simpa using hl)
  | .val _ :: rs, [], _, _, _, _, _, _, hl => by cases hl
  | .slot _ :: rs, [], _, _, _, _, _, _, hl => by cases hl
theorem slotsOf_at : ∀ {rs : List Rs} {i : Nat}, i ∈ slotsOf rs ↔ ∃ k : Nat, rs[k]? = some (Rs.slot i)
  | [], i => Iff.intro (fun h => nomatch h) (fun ⟨k, h⟩ => by cases h)
  | .val o :: rs, i => by
    rw [slotsOf, slotsOf_at]
    constructor
    · rintro ⟨k, h⟩; exact ⟨k + 1, h⟩
    · rintro ⟨k, h⟩
      cases k with
      | zero => cases h
      | succ k => exact ⟨k, h⟩
  | .slot j :: rs, i => by
    rw [slotsOf, List.mem_cons, slotsOf_at]
    constructor
    · rintro (e | ⟨k, h⟩)
      · exact ⟨0, by rw [e]; rfl⟩
      · exact ⟨k + 1, h⟩
    · rintro ⟨k, h⟩
      cases k with
      | zero => cases h; exact .inl rfl
      | succ k => exact .inr ⟨k, h⟩
theorem slots_inj : ∀ {rs : List Rs} {k j i : Nat}, (slotsOf rs).Nodup → rs[k]? = some (Rs.slot i) → rs[j]? = some (Rs.slot i) → k = j
  | .val _ :: rs, 0, _, i, _, h, _ => by cases h
  | .val _ :: rs, k + 1, 0, i, _, _, h => by cases h
  | .val _ :: rs, k + 1, j + 1, i, nd, h, g => congrArg Nat.succ (slots_inj (rs := rs) nd h g)
  | .slot _ :: rs, 0, 0, i, _, _, _ => rfl
  | .slot l :: rs, 0, j + 1, i, nd, h, g => by
    have ej : l = i := by cases h; rfl
    subst ej
    have nd' : (l :: slotsOf rs).Nodup := nd
    exact ((List.nodup_cons.mp nd').1 (slotsOf_at.mpr ⟨j, g⟩)).elim
  | .slot l :: rs, k + 1, 0, i, nd, h, g => by
    have ej : l = i := by cases g; rfl
    subst ej
    have nd' : (l :: slotsOf rs).Nodup := nd
    exact ((List.nodup_cons.mp nd').1 (slotsOf_at.mpr ⟨k, h⟩)).elim
  | .slot _ :: rs, k + 1, j + 1, i, nd, h, g => by
    have nd' : (_ :: slotsOf rs).Nodup := nd
    exact congrArg Nat.succ (slots_inj (rs := rs) (List.nodup_cons.mp nd').2 h g)
/-- into a callee -/
def rCall (R : Ad) (fps : Nat → Ad) (fl : List Ad) : Ad := fun a => Wf R fps a ∧ ¬ AnyF fl a
theorem call_in {vs : List V} {rs : List Rs} {l : List Ad} {os : List O} (I : Iv K T σ0 σ H s (alt R (AnyF l)) fps) (h : RAts K (hid (Wf (alt R (AnyF l)) fps) H) H s.n σ vs rs l) (e : gets s rs = some os) (ap : Apart l) (nd : (slotsOf rs).Nodup) :
    Iv K T (vs.map some) (vs.map some) H ⟨os.map some, s.n, []⟩ (rCall (alt R (AnyF l)) fps (getF fps rs l)) (ofL (getF fps rs l)) ∧ Wf (rCall (alt R (AnyF l)) fps (getF fps rs l)) (ofL (getF fps rs l)) = Wf (alt R (AnyF l)) fps := by
  obtain ⟨h1, h2, h3, h4⟩ := gets_at I h e
  have apF := getF_apart I ap (fun a z => .inr z) nd
  have anyW : ∀ a, AnyF (getF fps rs l) a → Wf (alt R (AnyF l)) fps a := fun a z => by
    rcases anyF_getF z with z | ⟨i, _, z⟩
    · exact .inl (.inr z)
    · exact .inr ⟨i, z⟩
  have eW : Wf (rCall (alt R (AnyF l)) fps (getF fps rs l)) (ofL (getF fps rs l)) = Wf (alt R (AnyF l)) fps := funext fun a => propext ⟨fun z => by
    rcases z with z | ⟨k, z⟩
    · exact z.1
    · exact anyW a (ofL_any z), fun z => by
    by_cases q : AnyF (getF fps rs l) a
    · exact .inr (any_ofL q)
    · exact .inl ⟨z, q⟩⟩
  refine ⟨⟨by simp [h1], fun k o ek => ?_, fun k hk a z => ?_, fun i j a z y => apart_at apF z y, fun i a z y => y.2 (ofL_any z), fun a z => I.live z.1, I.tab, fun _ z => nomatch z⟩, eW⟩
  · obtain ⟨v, hv, hA⟩ := h3 k o (map_at.mp ek)
    rw [eW]
    exact ⟨v, map_at.mpr hv, hA⟩
  · have hl : (getF fps rs l).length ≤ os.length := by
      have : ∀ (rs : List Rs) (l : List Ad), (getF fps rs l).length ≤ rs.length := fun rs => by
        induction rs with
        | nil => intro l; cases l <;> exact Nat.zero_le _
        | cons r rs ih =>
          intro l
          cases r <;> cases l <;> simp [getF]
          · exact ih _
          · exact ih _
      exact Nat.le_trans (this rs l) (by omega)
    by_cases q : k < os.length
    · exact hk os[k] (map_at.mpr (List.getElem?_eq_getElem q))
    · have z' : ((getF fps rs l)[k]?).getD nol a := z
      rw [List.getElem?_eq_none (by omega)] at z'
      exact z'
/-- back from a callee -/
theorem call_out {vs : List V} {rs : List Rs} {l : List Ad} {os os' : List O} {H' : Hp} {n' : Nat} {fpc : Nat → Ad} (G0 : Go K T σ0 H0 s0 R fps0 σ H s (alt R (AnyF l)) fps) (h : RAts K (hid (Wf (alt R (AnyF l)) fps) H) H s.n σ vs rs l) (nR : ∀ a, AnyF l a → ¬ R a)
    (e : gets s rs = some os) (ap : Apart l) (nd : (slotsOf rs).Nodup)
    (g : Go K T (vs.map some) H ⟨os.map some, s.n, []⟩ (rCall (alt R (AnyF l)) fps (getF fps rs l)) (ofL (getF fps rs l)) (vs.map some) H' ⟨os'.map some, n', []⟩ (alt (rCall (alt R (AnyF l)) fps (getF fps rs l)) fp) fpc) (nfp : ∀ a, fp a → ¬ rCall (alt R (AnyF l)) fps (getF fps rs l) a) :
    ∃ fps2, Go K T σ0 H0 s0 R fps0 σ H' (backs rs os' ⟨s.env, n', s.bor⟩) (alt R fp) fps2 ∧ Gr (Wf (alt (rCall (alt R (AnyF l)) fps (getF fps rs l)) fp) fpc) H' (Wf (alt R fp) fps2) H' ∧ ∀ a, fp a → ¬ R a := by
  have I := G0.iv
  obtain ⟨h1, h2, h3, h4⟩ := gets_at I h e
  obtain ⟨I1, eW⟩ := call_in I h e ap nd
  have J := g.iv
  have ol : os'.length = vs.length := by
    have := J.len
    simpa using this.symm
  have rsub : ∀ a, R a → rCall (alt R (AnyF l)) fps (getF fps rs l) a := fun a z => ⟨.inl (.inl z), fun y => by
    rcases anyF_getF y with y | ⟨i, _, y⟩
    · exact nR a y z
    · exact I.disR i a y (.inl z)⟩
  have fsub : ∀ i a, i ∉ slotsOf rs → fps i a → rCall (alt R (AnyF l)) fps (getF fps rs l) a := fun i a hi z => ⟨.inr ⟨i, z⟩, fun y => by
    rcases anyF_getF y with y | ⟨j, hj, y⟩
    · exact I.disR i a z (.inr y)
    · rw [I.dis i j a z y] at hi
      exact hi hj⟩
  have nfR : ∀ a, fp a → ¬ R a := fun a z y => nfp a z (rsub a y)
  let fps2 : Nat → Ad := fun i a => (∃ k : Nat, rs[k]? = some (Rs.slot i) ∧ fpc k a) ∨ (i ∉ slotsOf rs ∧ fps i a)
  have sub : ∀ a, Wf (alt R fp) fps2 a → Wf (alt (rCall (alt R (AnyF l)) fps (getF fps rs l)) fp) fpc a := fun a z => by
    rcases z with (z | z) | ⟨i, ⟨k, _, z⟩ | ⟨hi, z⟩⟩
    · exact .inl (.inl (rsub a z))
    · exact .inl (.inr z)
    · exact .inr ⟨k, z⟩
    · exact .inl (.inl (fsub i a hi z))
  have gs : Gr (Wf (alt (rCall (alt R (AnyF l)) fps (getF fps rs l)) fp) fpc) H' (Wf (alt R fp) fps2) H' := gr_sub sub
  have gr1 : Gr (Wf (alt R (AnyF l)) fps) H (Wf (alt R fp) fps2) H' := by
    have := g.gr
    rw [eW] at this
    exact this.trans gs
  obtain ⟨b1, b2, b3⟩ := backs_len rs os' ⟨s.env, n', s.bor⟩
  refine ⟨fps2, ⟨⟨?_, fun i o ei => ?_, fun i hi a z => ?_, fun i j a z y => ?_, fun i a z y => ?_, fun a z => ?_, J.tab, fun i hi => ?_⟩, fun a z => (g.kp a (rsub a z)).trans (G0.kp a z), G0.gr.trans gr1, b3.trans G0.bo, ?_, fun _ z => .inl z⟩, gs, nfR⟩
  · rw [b1]; exact I.len
  · rw [b2]
    by_cases hi : i ∈ slotsOf rs
    · obtain ⟨k, hk⟩ := slotsOf_at.mp hi
      obtain ⟨v, hv, hσ, o0, ho0⟩ := h4 k i hk
      obtain ⟨o', ho', hb⟩ := backs_in (s := ⟨s.env, n', s.bor⟩) nd hk (List.getElem?_eq_some_iff.mp ho0).1 (ol.trans h2.symm)
      rw [hb] at ei
      cases ei
      obtain ⟨w, hw, hA⟩ := J.at_ k o (map_at.mpr ho')
      have ew := map_at.mp hw
      rw [hv] at ew
      cases ew
      refine ⟨v, hσ, (hA.keep gs (fun _ _ => rfl) (Nat.le_refl _)).fpc fun a => ⟨fun z => ?_, fun z => .inl ⟨k, hk, z⟩⟩⟩
      rcases z with ⟨j, hj, z⟩ | ⟨z, _⟩
      · rw [slots_inj nd hk hj]; exact z
      · exact (z hi).elim
    · rw [backs_out hi] at ei
      obtain ⟨v, hv, hA⟩ := I.at_ i o ei
      refine ⟨v, hv, (hA.keep gr1 (fun a z => g.kp a (fsub i a hi z)) g.le).fpc fun a => ⟨fun z => ?_, fun z => .inr ⟨hi, z⟩⟩⟩
      rcases z with ⟨j, hj, _⟩ | ⟨_, z⟩
      · exact (hi (slotsOf_at.mpr ⟨j, hj⟩)).elim
      · exact z
  · rcases z with ⟨k, hk, z⟩ | ⟨hn, z⟩
    · obtain ⟨v, hv, hσ, o0, ho0⟩ := h4 k i hk
      obtain ⟨o', ho', hb⟩ := backs_in (s := ⟨s.env, n', s.bor⟩) nd hk (List.getElem?_eq_some_iff.mp ho0).1 (ol.trans h2.symm)
      exact hi o' hb
    · exact I.emp i (fun o e => hi o (by rw [backs_out hn]; exact e)) a z
  · rcases z with ⟨k, hk, z⟩ | ⟨hn, z⟩
    · rcases y with ⟨k', hk', y⟩ | ⟨hn', y⟩
      · have ek := J.dis k k' a z y
        rw [ek, hk'] at hk
        cases hk; rfl
      · exact (J.disR k a z (.inl (fsub j a hn' y))).elim
    · rcases y with ⟨k', hk', y⟩ | ⟨hn', y⟩
      · exact (J.disR k' a y (.inl (fsub i a hn z))).elim
      · exact I.dis i j a z y
  · rcases z with ⟨k, hk, z⟩ | ⟨hn, z⟩
    · rcases y with y | y
      · exact J.disR k a z (.inl (rsub a y))
      · exact J.disR k a z (.inr y)
    · rcases y with y | y
      · exact I.disR i a z (.inl y)
      · exact nfp a y (fsub i a hn z)
  · rcases z with z | z
    · exact J.liv a (.inl (rsub a z))
    · exact J.liv a (.inr z)
  · rw [b3] at hi
    exact I.bor i hi
  · rw [b2]
    exact Nat.le_trans G0.le g.le
/-- a call of a def by its contract -/
theorem sim_call {G : Den} {ta : TA} {m : MA} (ha : SimA K T W ta m) : SimE K T W (tCallS (spM K T G) (fun σ cls d H => W cls d σ H) ta) (mCall G m) := by
  intro σ0 σ H s R fps I Qm Xm hm hx Q hQ
  refine ha σ0 σ H s R fps I _ Xm hm hx _ fun vs H1 s1 rs l fps1 g hrs ap nR q => ?_
  split at q
  · rename_i os e
    obtain ⟨nd, q⟩ := q
    obtain ⟨I1, eW⟩ := call_in g.iv hrs e ap nd
    refine ⟨os, s1.n, _, _, _, _, I1, q, fun v H2 o os' n' fp fpc g2 hA nfp z => ?_, fun C H2 os' n' fpc g2 z => ?_⟩
    · obtain ⟨fps2, g3, gs, nf⟩ := call_out g hrs nR e ap nd g2 nfp
      obtain ⟨b1, b2, b3⟩ := backs_len rs os' ⟨s1.env, n', s1.bor⟩
      refine hQ v H2 _ (.val o) fp fps2 g3 (.val ?_) nf z
      rw [b2]
      exact hA.keep gs (fun _ _ => rfl) (Nat.le_refl _)
    · obtain ⟨fps2, g3, gs, nf⟩ := call_out (fp := nol) g hrs nR e ap nd (g2.alt0 fun _ z => z) (fun _ z => z.elim)
      rw [alt_nol] at g3
      exact hx C H2 _ fps2 g3 z
  · exact q.elim
/-- .. that raises nothing here -/
theorem sim_call0 {G : Den} {ta : TA} {m : MA} (ha : SimA K T W ta m) : SimE K T W (tCall (spM K T G) [] E0 ta) (fun s Q X => mCall G m s Q fun _ _ => False) := by
  intro σ0 σ H s R fps I Qm Xm hm hx Q hQ
  refine ha σ0 σ H s R fps I _ (fun _ _ => False) hm (fun _ _ _ _ _ z => z.elim) _ fun vs H1 s1 rs l fps1 g hrs ap nR q => ?_
  split at q
  · rename_i os e
    obtain ⟨nd, q⟩ := q
    obtain ⟨I1, eW⟩ := call_in g.iv hrs e ap nd
    rw [List.append_nil]
    refine ⟨os, s1.n, _, _, _, _, I1, q, fun v H2 o os' n' fp fpc g2 hA nfp z => ?_, fun C H2 os' n' fpc g2 z => z.elim⟩
    obtain ⟨fps2, g3, gs, nf⟩ := call_out g hrs nR e ap nd g2 nfp
    obtain ⟨b1, b2, b3⟩ := backs_len rs os' ⟨s1.env, n', s1.bor⟩
    refine hQ v H2 _ (.val o) fp fps2 g3 (.val ?_) nf z
    rw [b2]
    exact hA.keep gs (fun _ _ => rfl) (Nat.le_refl _)
  · exact q.elim
end
end Mk

/-! part Mk9 -/
/-! Mk, part 9: operations. -/
namespace Mk
open PySem PySem.Spec PyProof.Rows L2 Evl Lk LamX
abbrev FO : Type := (O → Prop) → Prop
def lift1 (r : V → Hp → VK → Prop) : List V → Hp → VK → Prop := fun xs H Q => match xs with
  | [x] => r x H Q
  | _ => False
def lift2 (r : R2) : List V → Hp → VK → Prop := fun xs H Q => match xs with
  | [x, y] => r x y H Q
  | _ => False
def fl1 (f : PyData → FO) : List PyData → FO := fun ds Q => match ds with
  | [d] => f d Q
  | _ => False
def fl2 (f : PyData → PyData → FO) : List PyData → FO := fun ds Q => match ds with
  | [d, e] => f d e Q
  | _ => False
def PS1 (K : PySem.W.Frag) (r : V → Hp → VK → Prop) (f : PyData → FO) : Prop := ∀ F H x d Qo Q, Ex F H → VAt K F H x d → f d Qo → (∀ v H' o, Res K F H v H' o → Qo o → Q v H') → r x H Q
def PS2 (K : PySem.W.Frag) (r : R2) (f : PyData → PyData → FO) : Prop := ∀ F H x y d e Qo Q, Ex F H → VAt K F H x d → VAt K F H y e → f d e Qo → (∀ v H' o, Res K F H v H' o → Qo o → Q v H') → r x y H Q
section
variable {K : PySem.W.Frag}
theorem psim1 {r : V → Hp → VK → Prop} {f : PyData → FO} (h : PS1 K r f) : PSim K (lift1 r) (fl1 f) := fun F H vs ds Qo Q e hv hf k => by
  cases hv with
  | nil => exact hf.elim
  | cons h1 h2 =>
    cases h2 with
    | nil => exact h F H _ _ Qo Q e h1 hf k
    | cons _ _ => exact hf.elim
theorem psim2 {r : R2} {f : PyData → PyData → FO} (h : PS2 K r f) : PSim K (lift2 r) (fl2 f) := fun F H vs ds Qo Q e hv hf k => by
  cases hv with
  | nil => exact hf.elim
  | cons h1 h2 =>
    cases h2 with
    | nil => exact hf.elim
    | cons h2 h3 =>
      cases h3 with
      | nil => exact h F H _ _ _ _ Qo Q e h1 h2 hf k
      | cons _ _ => exact hf.elim
end
def mOp (f : PyData → PyData → FO) (a b : ME) : ME := mCB (fl2 f) (mCons a (mCons b mNil))
def mUn (f : PyData → FO) (a : ME) : ME := mCB (fl1 f) (mCons a mNil)
section
variable {K : PySem.W.Frag} {T : List (Addr × Str)} {W : WX}
theorem sim_op {r : R2} {f : PyData → PyData → FO} {ta tb : TE} {a b : ME} (h : PS2 K r f) (ha : SimE K T W ta a) (hb : SimE K T W tb b) : SimE K T W (tOp r ta tb) (mOp f a b) :=
  (sim_cb (psim2 h) (sim_cons ha (sim_cons hb sim_nil)) : SimE K T W (tCB (lift2 r) (tCons ta (tCons tb tNil))) (mOp f a b))
theorem sim_un {r : V → Hp → VK → Prop} {f : PyData → FO} {ta : TE} {a : ME} (h : PS1 K r f) (ha : SimE K T W ta a) : SimE K T W (tUn r ta) (mUn f a) :=
  (sim_cb (psim1 h) (sim_cons ha sim_nil) : SimE K T W (tCB (lift1 r) (tCons ta tNil)) (mUn f a))
end
/-! ### either rule -/
def orR (r q : R2) : R2 := fun x y H Q => r x y H Q ∨ q x y H Q
theorem opOr {X : Cx} {f : Value → Value → Sem Value} {r q : R2} (a : OpR X f r) (b : OpR X f q) : OpR X f (orR r q) := fun pins s σ H x y v u Q I rx ry h => h.elim (a pins s σ H x y v u Q I rx ry) (b pins s σ H x y v u Q I rx ry)
def orC (r q : List V → Hp → VK → Prop) : List V → Hp → VK → Prop := fun xs H Q => r xs H Q ∨ q xs H Q
theorem callOr {X : Cx} {f : Value} {r q : List V → Hp → VK → Prop} (a : CallR X f r) (b : CallR X f q) : CallR X f (orC r q) := fun pins s σ H xs us Q I rx h => h.elim (a pins s σ H xs us Q I rx) (b pins s σ H xs us Q I rx)
def orS (r q : V → Option Int → Option Int → Hp → VK → Prop) : V → Option Int → Option Int → Hp → VK → Prop := fun x lo hi H Q => r x lo hi H Q ∨ q x lo hi H Q
theorem slOr {X : Cx} {r q : V → Option Int → Option Int → Hp → VK → Prop} (a : SlR X r) (b : SlR X q) : SlR X (orS r q) := fun pins s σ H x v vl vu lo hi sl Q I rx hs pl pu h =>
  h.elim (a pins s σ H x v vl vu lo hi sl Q I rx hs pl pu) (b pins s σ H x v vl vu lo hi sl Q I rx hs pl pu)
/-! ### l + m, whatever lists -/
def rCatL (K : PySem.W.Frag) : R2 := fun x y H Q => ∃ l b xs zs, x = .ref l ∧ y = .ref b ∧ SqL K H l xs ∧ SqL K H b zs ∧ xs.length + zs.length ≤ sizeLine ∧ ∀ p, H p = none → Q (.ref p) (upd H p (.lst (xs ++ zs)))
theorem op_catL {X : Cx} : OpR X (binaryOp .Add) (rCatL X.K) := by
  rintro pins s σ H x y v u Q I rx ry ⟨l, b, xs, zs, rfl, rfl, h1, h2, hz, q⟩
  cases rx
  cases ry
  obtain ⟨is, r1, p1, _⟩ := I.list h1
  obtain ⟨js, r2, p2, _⟩ := I.list h2
  obtain ⟨⟨c1, d1, t1, l1⟩, e1, rfl, n1, rfl⟩ := p1.isList
  obtain ⟨⟨c2, d2, t2, l2⟩, e2, rfl, n2, rfl⟩ := p2.isList
  have z1 := r1.length
  have z2 := r2.length
  refine concat_meets ⟨_, e1, rfl⟩ ⟨_, e2, rfl⟩ noFill_list_add seq_list_add PySem.F.slot_list_add PySem.F.entry_list_add (PySem.F.args_list_add_2 _ _)
    (list_addW l b is.toArray js.toArray n1 n2 d1 d2 l1 l2 (by rw [List.size_toArray, List.size_toArray, ← z1, ← z2]; exact hz)) ⟨e1, e2, ?_⟩
  have ea : is.toArray ++ js.toArray = (is ++ js).toArray := by simp
  rw [ea]
  exact ⟨.ref _, _, I.lnew (t' := s.toks) (r1.append r2) (by rw [List.length_append]; exact hz), rfl, q _ I.fresh⟩
/-! ### + -/
def fAdd : PyData → PyData → FO
  | .int a, .int b, Q => Q (.dat (.int (a + b)))
  | .str a, .str b, Q => a.length + b.length ≤ 100000 ∧ Q (.dat (.str (a ++ b)))
  | .list xs, .list ys, Q => xs.length + ys.length ≤ 100000 ∧ Q (.lst (xs ++ ys))
  | .tuple xs, .tuple ys, Q => xs.length + ys.length ≤ 100000 ∧ Q (.dat (.tuple (xs ++ ys)))
  | _, _, _ => False
def rAddS : R2 := fun x y H Q => ∃ i j, x = .str i ∧ y = .str j ∧ i.length + j.length ≤ sizeLine ∧ Q (.str (i ++ j)) H
def rAdd4 (K : PySem.W.Frag) : R2 := orR (rI0 fun i j => .int (i + j)) (orR rAddS (orR (rCatL K) (rCatA K)))
section
variable {K : PySem.W.Frag}
theorem ps_add : PS2 K (rAdd4 K) fAdd := by
  intro F H x y d e Qo Q ex hx hy hf k
  cases d <;> cases e <;> first
    | exact hf.elim
    | skip
  · obtain rfl := hx.int
    obtain rfl := hy.int
    exact .inl ⟨_, _, rfl, rfl, k _ _ _ (.dat (.int _)) hf⟩
  · obtain rfl := hx.str
    obtain rfl := hy.str
    exact .inr (.inl ⟨_, _, rfl, rfl, sz_of hf.1, k _ _ _ (.dat (.str _)) hf.2⟩)
  · obtain ⟨a, xs, rfl, h1, h2⟩ := hx.list ex
    obtain ⟨b, ys, rfl, h3, h4⟩ := hy.list ex
    refine .inr (.inr (.inl ⟨a, b, xs, ys, rfl, rfl, h1, h3, sz_of (by rw [dps_len h2, dps_len h4]; exact hf.1), fun p hp => k _ _ _ (.lst hp (dps_app h2 h4)) hf.2⟩))
  · rename_i ds es
    obtain ⟨a, xs, rfl, h1, h2⟩ := hx.tuple ex
    obtain ⟨b, ys, rfl, h3, h4⟩ := hy.tuple ex
    refine .inr (.inr (.inr ⟨a, b, xs, ys, rfl, rfl, h1, h3, sz_of (by rw [dps_len h2, dps_len h4]; exact hf.1), fun z => ?_, fun _ z => ?_, fun _ _ p hp => k _ _ _ (.tup hp (dps_app h2 h4)) hf.2⟩))
    · subst z
      cases h2
      cases hy with
      | dq hy => exact k _ _ _ (.dat hy) hf.2
    · subst z
      cases h4
      cases hx with
      | dq hx =>
        have hf2 : Qo (.dat (.tuple (ds ++ []))) := hf.2
        rw [List.append_nil] at hf2
        exact k _ _ _ (.dat hx) hf2
end
/-! ### ints -/
def fI2 (C : Int → Int → Prop) (g : Int → Int → Int) : PyData → PyData → FO
  | .int a, .int b, Q => C a b ∧ Q (.dat (.int (g a b)))
  | _, _, _ => False
def fI0 (g : Int → Int → Int) : PyData → PyData → FO
  | .int a, .int b, Q => Q (.dat (.int (g a b)))
  | _, _, _ => False
def fNeg : PyData → FO
  | .int a, Q => Q (.dat (.int (-a)))
  | _, _ => False
section
variable {K : PySem.W.Frag}
theorem ps_I2 {C : Int → Int → Prop} {g : Int → Int → Int} : PS2 K (rI C fun i j => .int (g i j)) (fI2 C g) := by
  intro F H x y d e Qo Q ex hx hy hf k
  cases d <;> cases e <;> first
    | exact hf.elim
    | skip
  obtain rfl := hx.int
  obtain rfl := hy.int
  exact ⟨_, _, rfl, rfl, hf.1, k _ _ _ (.dat (.int _)) hf.2⟩
theorem ps_I0 {g : Int → Int → Int} : PS2 K (rI0 fun i j => .int (g i j)) (fI0 g) := by
  intro F H x y d e Qo Q ex hx hy hf k
  cases d <;> cases e <;> first
    | exact hf.elim
    | skip
  obtain rfl := hx.int
  obtain rfl := hy.int
  exact ⟨_, _, rfl, rfl, k _ _ _ (.dat (.int _)) hf⟩
theorem ps_neg : PS1 K (rU fun i => .int (-i)) fNeg := by
  intro F H x d Qo Q ex hx hf k
  cases d <;> first
    | exact hf.elim
    | skip
  obtain rfl := hx.int
  exact ⟨_, rfl, k _ _ _ (.dat (.int _)) hf⟩
end
def fSub : PyData → PyData → FO := fI0 fun a b => a - b
def fFdiv : PyData → PyData → FO := fI2 CDivW fun a b => a / b
def fMod : PyData → PyData → FO := fI2 (fun _ b => 0 < b) fun a b => a % b
def fPow : PyData → PyData → FO := fI2 CPow fun a b => a ^ b.toNat
/-- products: one factor below 2^64, or both together below a million bits; a tuple so many times -/
def CMulA (i j : Int) : Prop := CMul i j ∨ CMulW i j
def fMul : PyData → PyData → FO
  | .int a, .int b, Q => CMulA a b ∧ Q (.dat (.int (a * b)))
  | .tuple xs, .int k, Q => xs ≠ [] ∧ 2 ≤ k ∧ k ≤ 1000 ∧ xs.length ≤ 1000 ∧ Q (.dat (.tuple (List.replicate k.toNat xs).flatten))
  | .str a, .int k, Q => 2 ≤ k ∧ k ≤ 1000 ∧ 1 ≤ a.cps.size ∧ a.cps.size ≤ 1000 ∧ Q (.dat (.str (repS a k.toNat)))
  | _, _, _ => False
def rMul3 (K : PySem.W.Frag) : R2 := orR (rI CMul fun i j => .int (i * j)) (orR (rI CMulW fun i j => .int (i * j)) (orR (rRepT K) rRepS))
theorem dps_rep {K : PySem.W.Frag} {F : Hp} {xs : List V} {ds : List PyData} (h : DqAll K F xs ds) : ∀ n, DqAll K F (List.replicate n xs).flatten (List.replicate n ds).flatten
  | 0 => .nil
  | n + 1 => by
    rw [List.replicate_succ, List.replicate_succ, List.flatten_cons, List.flatten_cons]
    exact dps_app h (dps_rep h n)
section
variable {K : PySem.W.Frag}
theorem ps_mul : PS2 K (rMul3 K) fMul := by
  intro F H x y d e Qo Q ex hx hy hf k
  cases d <;> cases e <;> first
    | exact hf.elim
    | skip
  · obtain rfl := hx.int
    obtain rfl := hy.int
    rcases hf.1 with h | h
    · exact .inl ⟨_, _, rfl, rfl, h, k _ _ _ (.dat (.int _)) hf.2⟩
    · exact .inr (.inl ⟨_, _, rfl, rfl, h, k _ _ _ (.dat (.int _)) hf.2⟩)
  · obtain rfl := hx.str
    obtain rfl := hy.int
    obtain ⟨h1, h2, h3, h4, q⟩ := hf
    exact .inr (.inr (.inr ⟨_, _, rfl, rfl, h1, h2, h3, h4, k _ _ _ (.dat (.str _)) q⟩))
  · obtain rfl := hy.int
    obtain ⟨a, xs, rfl, h1, h2⟩ := hx.tuple ex
    obtain ⟨hn, h3, h4, h5, q⟩ := hf
    refine .inr (.inr (.inl ⟨a, _, xs, rfl, rfl, h1, fun z => hn ?_, h3, h4, by rw [dps_len h2]; exact h5, fun p hp => k _ _ _ (.tup hp (dps_rep h2 _)) q⟩))
    subst z
    cases h2
    rfl
end
/-! ### ==, != -/
def eqd (d e : PyData) : Bool := PyData.eqv d e
/-- what may be compared: data of the known shape; any tuple with the empty one -/
def eqOk (d e : PyData) : Prop := (SeqAt.shaped d = true ∧ SeqAt.shaped e = true) ∨ ((∃ ds, d = .tuple ds) ∧ e = .tuple [])
def fEq : PyData → PyData → FO := fun d e Q => eqOk d e ∧ Q (.dat (.bool (eqd d e)))
theorem eqd_nil {ds : List PyData} : eqd (.tuple ds) (.tuple []) = decide (ds.length = 0) := by
  unfold eqd
  cases ds <;> simp [PyData.eqv, PyData.eqvAll]
def fNe : PyData → PyData → FO := fun d e Q => SeqAt.shaped d = true ∧ SeqAt.shaped e = true ∧ Q (.dat (.bool (!eqd d e)))
section
variable {K : PySem.W.Frag}
theorem ps_eq : PS2 K (orR (rEqD K) (rEqNil K)) fEq := fun F H x y d e Qo Q ex hx hy hf k => by
  rcases hf with ⟨⟨h1, h2⟩ | ⟨⟨ds, rfl⟩, rfl⟩, q⟩
  · exact .inl ⟨d, e, sh_dp h1 (hx.full ex), sh_dp h2 (hy.full ex), h1, h2, k _ _ _ (.dat (.bl _)) q⟩
  · obtain ⟨a, xs, rfl, ha, hxs⟩ := hx.tuple ex
    obtain ⟨b, ys, rfl, hb, hys⟩ := hy.tuple ex
    cases hys
    refine .inr ⟨a, b, xs, rfl, rfl, ha, hb, k _ _ _ (.dat (.bl _)) ?_⟩
    rw [eqd_nil, ← dps_len hxs] at q
    exact q
theorem ps_ne : PS2 K (rNeD K) fNe := fun F H x y d e Qo Q ex hx hy hf k => ⟨d, e, sh_dp hf.1 (hx.full ex), sh_dp hf.2.1 (hy.full ex), hf.1, hf.2.1, k _ _ _ (.dat (.bl _)) hf.2.2⟩
end
/-! ### <, <=, >, >= -/
def intsOf? : List PyData → Option (List Int)
  | [] => some []
  | .int i :: ds => match intsOf? ds with
    | some is => some (i :: is)
    | none => none
  | _ :: _ => none
theorem intsOf_some : ∀ {ds : List PyData} {is : List Int}, intsOf? ds = some is → ds = is.map PyData.int
  | [], is, h => by cases h; rfl
  | d :: ds, is, h => by
    cases d with
    | int i =>
      have h' : (match intsOf? ds with | some is => some (i :: is) | none => none) = some is := h
      cases q : intsOf? ds with
      | none => rw [q] at h'; cases h'
      | some js =>
        rw [q] at h'
        cases h'
        rw [intsOf_some q]; rfl
    | none => cases h
    | bool _ => cases h
    | str _ => cases h
    | list _ => cases h
    | tuple _ => cases h
    | dict _ => cases h
def leTup (ns ms : List Int) : Bool := Ob.lexAt (fun j => decide (ns.getD j 0 = ms.getD j 0)) (fun j => decide (ns.getD j 0 ≤ ms.getD j 0)) (decide (ns.length ≤ ms.length)) 0 (min ns.length ms.length)
def fCmp (f : Int → Int → Bool) (g : Str → Str → Bool) : PyData → PyData → FO
  | .int a, .int b, Q => Q (.dat (.bool (f a b)))
  | .str a, .str b, Q => Q (.dat (.bool (g a b)))
  | _, _, _ => False
def fLt : PyData → PyData → FO := fCmp (fun a b => decide (a < b)) fun a b => decide (a.cps.toList < b.cps.toList)
def fGt : PyData → PyData → FO := fCmp (fun a b => decide (b < a)) fun a b => decide (b.cps.toList < a.cps.toList)
def fGe : PyData → PyData → FO := fCmp (fun a b => decide (b ≤ a)) fun a b => !decide (a.cps.toList < b.cps.toList)
def fLe : PyData → PyData → FO
  | .tuple ds, .tuple es, Q => match intsOf? ds, intsOf? es with
    | some ns, some ms => Q (.dat (.bool (leTup ns ms)))
    | _, _ => False
  | d, e, Q => fCmp (fun a b => decide (a ≤ b)) (fun a b => !decide (b.cps.toList < a.cps.toList)) d e Q
def rSS (g : Str → Str → Bool) : R2 := fun x y H Q => ∃ i j, x = .str i ∧ y = .str j ∧ Q (.bl (g i j)) H
section
variable {K : PySem.W.Frag}
theorem ps_cmp {f : Int → Int → Bool} {g : Str → Str → Bool} : PS2 K (orR (rI0 fun i j => .bl (f i j)) (rSS g)) (fCmp f g) := by
  intro F H x y d e Qo Q ex hx hy hf k
  cases d <;> cases e <;> first
    | exact hf.elim
    | skip
  · obtain rfl := hx.int
    obtain rfl := hy.int
    exact .inl ⟨_, _, rfl, rfl, k _ _ _ (.dat (.bl _)) hf⟩
  · obtain rfl := hx.str
    obtain rfl := hy.str
    exact .inr ⟨_, _, rfl, rfl, k _ _ _ (.dat (.bl _)) hf⟩
theorem ps_le : PS2 K (orR (rLeT K) (orR (rI0 fun i j => .bl (decide (i ≤ j))) (rSS fun a b => !decide (b.cps.toList < a.cps.toList)))) fLe := by
  intro F H x y d e Qo Q ex hx hy hf k
  by_cases ht : ∃ ds es, d = .tuple ds ∧ e = .tuple es
  · obtain ⟨ds, es, rfl, rfl⟩ := ht
    have hf' : (match intsOf? ds, intsOf? es with
      | some ns, some ms => Qo (.dat (.bool (leTup ns ms)))
      | _, _ => False) := hf
    split at hf'
    · rename_i ns ms e1 e2
      obtain rfl := intsOf_some e1
      obtain rfl := intsOf_some e2
      obtain ⟨a, xs, rfl, h1, h2⟩ := hx.tuple ex
      obtain ⟨b, ys, rfl, h3, h4⟩ := hy.tuple ex
      obtain rfl := dps_ints_of h2
      obtain rfl := dps_ints_of h4
      exact .inl ⟨a, b, ns, ms, rfl, rfl, h1, h3, k _ _ _ (.dat (.bl _)) hf'⟩
    · exact hf'.elim
  · refine .inr (ps_cmp F H x y d e Qo Q ex hx hy ?_ k)
    unfold fLe at hf
    split at hf
    · exact (ht ⟨_, _, rfl, rfl⟩).elim
    · exact hf
end
/-! ### in, not in -/
def inB (d e : PyData) : Option Bool := match e with
  | .list ds => if SeqAt.shaped (.list ds) then some (ds.any fun z => PyData.eqv z d) else none
  | .tuple ds => if SeqAt.shaped (.tuple ds) then some (ds.any fun z => PyData.eqv z d) else none
  | .str z => match d with
    | .str ⟨cs⟩ => match cs.toList with
      | [c] => some (decide (c ∈ z.cps.toList))
      | _ => none
    | _ => none
  | _ => none
def fIn : PyData → PyData → FO := fun d e Q => match inB d e with
  | some b => Q (.dat (.bool b))
  | none => False
def fNotIn : PyData → PyData → FO := fun d e Q => match inB d e with
  | some b => Q (.dat (.bool (!b)))
  | none => False
def rIn3 (K : PySem.W.Frag) : R2 := orR (rInA K false) (orR (rInTA K false) fun x y H Q => ∃ (c : Nat) (z : Str), x = .str ⟨#[c]⟩ ∧ y = .str z ∧ Q (.bl (decide (c ∈ z.cps.toList))) H)
def rNotIn3 (K : PySem.W.Frag) : R2 := orR (rInA K true) (orR (rInTA K true) fun x y H Q => ∃ (c : Nat) (z : Str), x = .str ⟨#[c]⟩ ∧ y = .str z ∧ Q (.bl (!decide (c ∈ z.cps.toList))) H)
theorem inB_cases {d e : PyData} {b : Bool} (h : inB d e = some b) :
    (∃ ds, e = .list ds ∧ SeqAt.shaped e = true ∧ b = ds.any fun z => PyData.eqv z d) ∨ (∃ ds, e = .tuple ds ∧ SeqAt.shaped e = true ∧ b = ds.any fun z => PyData.eqv z d) ∨
    ∃ c z, d = .str ⟨#[c]⟩ ∧ e = .str z ∧ b = decide (c ∈ z.cps.toList) := by
  unfold inB at h
  split at h
  · rename_i ds
    split at h
    · rename_i q
      exact .inl ⟨ds, rfl, q, (Option.some.inj h).symm⟩
    · cases h
  · rename_i ds
    split at h
    · rename_i q
      exact .inr (.inl ⟨ds, rfl, q, (Option.some.inj h).symm⟩)
    · cases h
  · rename_i z
    split at h
    · rename_i cs
      split at h
      · rename_i c q
        refine .inr (.inr ⟨c, z, ?_, rfl, (Option.some.inj h).symm⟩)
        have e1 : cs = #[c] := by
          apply Array.ext'
          rw [q]
        rw [e1]
      · cases h
    · cases h
  · cases h
section
variable {K : PySem.W.Frag}
theorem ps_in : PS2 K (rIn3 K) fIn := by
  intro F H x y d e Qo Q ex hx hy hf k
  unfold fIn at hf
  split at hf
  · rename_i b q
    have fin := k (.bl b) H _ (.dat (.bl b)) hf
    rcases inB_cases q with ⟨ds, rfl, s2, rfl⟩ | ⟨ds, rfl, s2, rfl⟩ | ⟨c, z, rfl, rfl, rfl⟩
    · exact .inl ⟨d, ds, hx.full ex, hy.full ex, s2, fin⟩
    · exact .inr (.inl ⟨d, ds, hx.full ex, hy.full ex, s2, fin⟩)
    · exact .inr (.inr ⟨c, z, hx.str, hy.str, fin⟩)
  · exact hf.elim
theorem ps_notIn : PS2 K (rNotIn3 K) fNotIn := by
  intro F H x y d e Qo Q ex hx hy hf k
  unfold fNotIn at hf
  split at hf
  · rename_i b q
    have fin := k (.bl (!b)) H _ (.dat (.bl (!b))) hf
    rcases inB_cases q with ⟨ds, rfl, s2, rfl⟩ | ⟨ds, rfl, s2, rfl⟩ | ⟨c, z, rfl, rfl, rfl⟩
    · exact .inl ⟨d, ds, hx.full ex, hy.full ex, s2, fin⟩
    · exact .inr (.inl ⟨d, ds, hx.full ex, hy.full ex, s2, fin⟩)
    · exact .inr (.inr ⟨c, z, hx.str, hy.str, fin⟩)
  · exact hf.elim
end
/-! ### is None, is True -/
def isNone : PyData → Bool
  | .none => true
  | _ => false
theorem VAt.non_iff {K : PySem.W.Frag} {F H : Hp} {x : V} {d : PyData} (h : VAt K F H x d) : decide (x = .non) = isNone d := by
  cases h with
  | dq h => cases h <;> rfl
  | lst h _ => rfl
  | dct0 h => rfl
def fIsN : PyData → PyData → FO
  | d, .none, Q => Q (.dat (.bool (isNone d)))
  | _, _, _ => False
def fNotN : PyData → PyData → FO
  | d, .none, Q => Q (.dat (.bool (!isNone d)))
  | _, _, _ => False
def fIsB : PyData → PyData → FO
  | .bool a, .bool b, Q => Q (.dat (.bool (decide (a = b))))
  | _, _, _ => False
def fNotB : PyData → PyData → FO
  | .bool a, .bool b, Q => Q (.dat (.bool (!decide (a = b))))
  | _, _, _ => False
section
variable {K : PySem.W.Frag}
theorem ps_isN : PS2 K (fun x y H Q => y = .non ∧ Q (.bl (decide (x = .non))) H) fIsN := by
  intro F H x y d e Qo Q ex hx hy hf k
  cases e <;> first
    | exact hf.elim
    | skip
  refine ⟨hy.none, ?_⟩
  rw [hx.non_iff]
  exact k _ _ _ (.dat (.bl _)) hf
theorem ps_notN : PS2 K (fun x y H Q => y = .non ∧ Q (.bl (!decide (x = .non))) H) fNotN := by
  intro F H x y d e Qo Q ex hx hy hf k
  cases e <;> first
    | exact hf.elim
    | skip
  refine ⟨hy.none, ?_⟩
  rw [hx.non_iff]
  exact k _ _ _ (.dat (.bl _)) hf
theorem ps_isB : PS2 K rIsB fIsB := by
  intro F H x y d e Qo Q ex hx hy hf k
  cases d <;> cases e <;> first
    | exact hf.elim
    | skip
  exact ⟨_, _, hx.bool, hy.bool, k _ _ _ (.dat (.bl _)) hf⟩
theorem ps_notB : PS2 K rNotB fNotB := by
  intro F H x y d e Qo Q ex hx hy hf k
  cases d <;> cases e <;> first
    | exact hf.elim
    | skip
  exact ⟨_, _, hx.bool, hy.bool, k _ _ _ (.dat (.bl _)) hf⟩
end
/-! ### items -/
def fIx : PyData → PyData → FO
  | .list ds, .int i, Q => match atI ds i with
    | some d => Q (.dat d)
    | none => False
  | .tuple ds, .int i, Q => match atI ds i with
    | some d => Q (.dat d)
    | none => False
  | .str z, .int i, Q => z.length ≤ 100000 ∧ match atI z.cps.toList i with
    | some c => Q (.dat (.str ⟨#[c]⟩))
    | none => False
  | _, _, _ => False
section
variable {K : PySem.W.Frag}
theorem ps_ix : PS2 K (rIx K) fIx := by
  intro F H x y d e Qo Q ex hx hy hf k
  cases d <;> cases e <;> first
    | exact hf.elim
    | skip
  · rename_i z i
    obtain rfl := hy.int
    obtain rfl := hx.str
    obtain ⟨hz, hf⟩ := hf
    split at hf
    · rename_i c q
      exact .inr (.inr ⟨z, i, c, rfl, rfl, sz_of hz, q, k _ _ _ (.dat (.str _)) hf⟩)
    · exact hf.elim
  · rename_i ds i
    obtain rfl := hy.int
    obtain ⟨a, xs, rfl, h1, h2⟩ := hx.list ex
    have hf' : (match atI ds i with | some d => Qo (.dat d) | none => False) := hf
    split at hf'
    · rename_i d q
      obtain ⟨v, hv, dv⟩ := atI_data h2 q
      exact .inl ⟨a, xs, i, v, rfl, rfl, h1, hv, k _ _ _ (.dat dv) hf'⟩
    · exact hf'.elim
  · rename_i ds i
    obtain rfl := hy.int
    obtain ⟨a, xs, rfl, h1, h2⟩ := hx.tuple ex
    have hf' : (match atI ds i with | some d => Qo (.dat d) | none => False) := hf
    split at hf'
    · rename_i d q
      obtain ⟨v, hv, dv⟩ := atI_data h2 q
      exact .inr (.inl ⟨a, xs, i, v, rfl, rfl, h1, hv, k _ _ _ (.dat dv) hf'⟩)
    · exact hf'.elim
end
/-! ### built-ins -/
def fLen : PyData → FO
  | .list ds, Q => Q (.dat (.int (ds.length : Int)))
  | .tuple ds, Q => Q (.dat (.int (ds.length : Int)))
  | .str z, Q => z.length ≤ 100000 ∧ Q (.dat (.int (z.length : Int)))
  | _, _ => False
def rLen2 (K : PySem.W.Frag) : List V → Hp → VK → Prop := orC (rLenS K) fun xs H Q => ∃ z, xs = [.str z] ∧ z.length ≤ sizeLine ∧ Q (.int z.length) H
section
variable {K : PySem.W.Frag}
theorem ps_len : PSim K (rLen2 K) (fl1 fLen) := by
  intro F H vs ds Qo Q ex hv hf k
  cases hv with
  | nil => exact hf.elim
  | cons h1 h2 =>
    cases h2 with
    | cons _ _ => exact hf.elim
    | nil =>
      rename_i v d
      cases d <;> first
        | exact hf.elim
        | skip
      · obtain rfl := h1.str
        exact .inr ⟨_, rfl, sz_of hf.1, k _ _ _ (.dat (.int _)) hf.2⟩
      · obtain ⟨a, xs, rfl, h3, h4⟩ := h1.list ex
        refine .inl ⟨a, xs, rfl, .inl h3, ?_⟩
        rw [dps_len h4]
        exact k _ _ _ (.dat (.int _)) hf
      · obtain ⟨a, xs, rfl, h3, h4⟩ := h1.tuple ex
        refine .inl ⟨a, xs, rfl, .inr h3, ?_⟩
        rw [dps_len h4]
        exact k _ _ _ (.dat (.int _)) hf
def fIntI : PyData → FO
  | .int i, Q => Q (.dat (.int i))
  | .bool b, Q => Q (.dat (.int (if b then 1 else 0)))
  | _, _ => False
theorem ps_int : PSim K rIntI (fl1 fIntI) := by
  intro F H vs ds Qo Q ex hv hf k
  cases hv with
  | nil => exact hf.elim
  | cons h1 h2 =>
    cases h2 with
    | cons _ _ => exact hf.elim
    | nil =>
      rename_i v d
      cases d <;> first
        | exact hf.elim
        | skip
      · obtain rfl := h1.bool
        exact .inr ⟨_, rfl, k _ _ _ (.dat (.int _)) hf⟩
      · obtain rfl := h1.int
        exact .inl ⟨_, rfl, k _ _ _ (.dat (.int _)) hf⟩
def fMin2 : PyData → PyData → FO
  | .int i, .int j, Q => Q (.dat (.int (if j < i then j else i)))
  | _, _, _ => False
theorem ps_min2 : PSim K rMin (fl2 fMin2) := by
  intro F H vs ds Qo Q ex hv hf k
  cases hv with
  | nil => exact hf.elim
  | cons h1 h2 =>
    cases h2 with
    | nil => exact hf.elim
    | cons h2 h3 =>
      cases h3 with
      | cons _ _ => exact hf.elim
      | nil =>
        rename_i v d w e
        cases d <;> cases e <;> first
          | exact hf.elim
          | skip
        obtain rfl := h1.int
        obtain rfl := h2.int
        exact ⟨_, _, rfl, k _ _ _ (.dat (.int _)) hf⟩
def boolsOf? : List PyData → Option (List Bool)
  | [] => some []
  | .bool i :: ds => match boolsOf? ds with
    | some is => some (i :: is)
    | none => none
  | _ :: _ => none
theorem boolsOf_dq {F : Hp} : ∀ {ds : List PyData} {bs : List Bool} {vs : List V}, boolsOf? ds = some bs → DqAll K F vs ds → vs = bs.map V.bl
  | [], bs, vs, h, hv => by cases h; cases hv; rfl
  | d :: ds, bs, vs, h, hv => by
    cases d with
    | bool i =>
      have h' : (match boolsOf? ds with | some is => some (i :: is) | none => none) = some bs := h
      cases q : boolsOf? ds with
      | none => rw [q] at h'; cases h'
      | some js =>
        rw [q] at h'
        cases h'
        cases hv with
        | cons h1 h2 =>
          cases h1
          rw [boolsOf_dq q h2]; rfl
    | none => cases h
    | int _ => cases h
    | str _ => cases h
    | list _ => cases h
    | tuple _ => cases h
    | dict _ => cases h
def fAll : PyData → FO
  | .list ds, Q => match boolsOf? ds with
    | some bs => Q (.dat (.bool (bs.all id)))
    | none => False
  | _, _ => False
def fAny : PyData → FO
  | .list ds, Q => match boolsOf? ds with
    | some bs => Q (.dat (.bool (bs.any id)))
    | none => False
  | _, _ => False
theorem ps_all : PSim K (L2.rAll K) (fl1 fAll) := by
  intro F H vs ds Qo Q ex hv hf k
  cases hv with
  | nil => exact hf.elim
  | cons h1 h2 =>
    cases h2 with
    | cons _ _ => exact hf.elim
    | nil =>
      rename_i v d
      cases d <;> first
        | exact hf.elim
        | skip
      rename_i ds
      have hf' : (match boolsOf? ds with | some bs => Qo (.dat (.bool (bs.all id))) | none => False) := hf
      split at hf'
      · rename_i bs e
        obtain ⟨a, xs, rfl, h3, h4⟩ := h1.list ex
        obtain rfl := boolsOf_dq e h4
        exact ⟨a, bs, rfl, h3, k _ _ _ (.dat (.bl _)) hf'⟩
      · exact hf'.elim
theorem ps_any : PSim K (L2.rAny K) (fl1 fAny) := by
  intro F H vs ds Qo Q ex hv hf k
  cases hv with
  | nil => exact hf.elim
  | cons h1 h2 =>
    cases h2 with
    | cons _ _ => exact hf.elim
    | nil =>
      rename_i v d
      cases d <;> first
        | exact hf.elim
        | skip
      rename_i ds
      have hf' : (match boolsOf? ds with | some bs => Qo (.dat (.bool (bs.any id))) | none => False) := hf
      split at hf'
      · rename_i bs e
        obtain ⟨a, xs, rfl, h3, h4⟩ := h1.list ex
        obtain rfl := boolsOf_dq e h4
        exact ⟨a, bs, rfl, h3, k _ _ _ (.dat (.bl _)) hf'⟩
      · exact hf'.elim
def fSum : PyData → FO
  | .list ds, Q => match intsOf? ds with
    | some ns => Q (.dat (.int ns.sum))
    | none => False
  | _, _ => False
/-- tuple(x), x a list or a tuple -/
def fTuple : PyData → FO
  | .list ds, Q => Q (.dat (.tuple ds))
  | .tuple ds, Q => Q (.dat (.tuple ds))
  | _, _ => False
theorem ps_tuple : PS1 K (kTup K) fTuple := by
  intro F H x d Qo Q ex hx hf k
  cases d <;> first
    | exact hf.elim
    | skip
  · obtain ⟨a, xs, rfl, h1, h2⟩ := hx.list ex
    exact .inl ⟨a, xs, rfl, h1, fun p hp => k _ _ _ (.tup hp h2) hf⟩
  · cases hx with
    | dq hx =>
      obtain ⟨a, xs, rfl, h1, h2⟩ := dp_tup hx
      exact .inr ⟨a, xs, rfl, ex_t ex h1, k _ _ _ (.dat hx) hf⟩
/-- list(x) -/
def fList : PyData → FO
  | .list ds, Q => Q (.lst ds)
  | .tuple ds, Q => Q (.lst ds)
  | _, _ => False
theorem ps_list : PSim K (rListS K) (fl1 fList) := by
  intro F H vs ds Qo Q ex hv hf k
  cases hv with
  | nil => exact hf.elim
  | cons h1 h2 =>
    cases h2 with
    | cons _ _ => exact hf.elim
    | nil =>
      rename_i v d
      cases d <;> first
        | exact hf.elim
        | skip
      · obtain ⟨a, xs, rfl, h3, h4⟩ := h1.list ex
        exact ⟨a, xs, rfl, .inl h3, fun l hl => k _ _ _ (.lst hl h4) hf⟩
      · obtain ⟨a, xs, rfl, h3, h4⟩ := h1.tuple ex
        exact ⟨a, xs, rfl, .inr h3, fun l hl => k _ _ _ (.lst hl h4) hf⟩
end
end Mk

/-! part MkA -/
/-! Mk, part 10: displays, chains, slices, isinstance, raise, what is caught, dicts. -/
namespace Mk
open PySem PySem.Spec PyProof.Rows L2 Evl Lk LamX
section
variable {K : PySem.W.Frag} {T : List (Addr × Str)} {W : WX}
/-! ### displays -/
def mDis (f : List PyData → O) (m : MA) : ME := fun s Q X => m s (fun rs s1 => match dats rs with
  | some ds => ds.length ≤ 100000 ∧ Q (.val (f ds)) s1
  | none => False) X
theorem out_res {σ0 σ : L2.St} {H H1 H' : Hp} {s s1 : S} {R R1 : Ad} {fps fps1 : Nat → Ad} {Qm : Rs → S → Prop} {Q : VK} {v : V} {o : O} (g : Go K T σ0 H s R fps σ H1 s1 (alt R R1) fps1) (r : Res K (hid (Wf (alt R R1) fps1) H1) H1 v H' o)
    (hQ : ∀ v H' s' r fp fps', Go K T σ0 H s R fps σ H' s' (alt R fp) fps' → RAt K (hid (Wf (alt R fp) fps') H') H' s'.n σ v r fp → (∀ a, fp a → ¬ R a) → Qm r s' → Q v H') (q : Qm (.val o) s1) : Q v H' := by
  obtain ⟨fp, g2, ho, hn⟩ := res_go g.iv r
  have nA : ∀ a, fp a → ¬ R a := fun a z y => by
    have e := g.iv.liv a (.inl y)
    rw [hn a z] at e; exact e
  have g3 := (g.trans g2).drop (R2 := alt R fp) (fun _ z => .inl z) (fun a z => z.imp (fun y => .inl y) id)
  exact hQ v H' s1 (.val o) fp fps1 g3 (.val (ho.keep (gr_sub fun a z => z.imp (fun y => y.imp (fun w => .inl w) id) id) (fun _ _ => rfl) (Nat.le_refl _))) nA q
theorem sim_tup {ta : TA} {m : MA} (h : SimA K T W ta m) : SimE K T W (tTup ta) (mDis (fun ds => .dat (.tuple ds)) m) := by
  intro σ0 σ H s R fps I Qm Xm hm hx Q hQ
  refine h σ0 σ H s R fps I _ Xm hm hx _ fun vs H1 s1 rs l fps1 g hrs ap nR q => ?_
  split at q
  · rename_i ds e
    have hd := dats_at hrs e
    exact ⟨sz_of (by rw [dps_len hd]; exact q.1), fun p hp => out_res g (.tup hp hd) hQ q.2⟩
  · exact q.elim
theorem sim_lst {ta : TA} {m : MA} (h : SimA K T W ta m) : SimE K T W (tLst ta) (mDis (fun ds => .lst ds) m) := by
  intro σ0 σ H s R fps I Qm Xm hm hx Q hQ
  refine h σ0 σ H s R fps I _ Xm hm hx _ fun vs H1 s1 rs l fps1 g hrs ap nR q => ?_
  split at q
  · rename_i ds e
    have hd := dats_at hrs e
    exact ⟨sz_of (by rw [dps_len hd]; exact q.1), fun p hp => out_res g (.lst hp hd) hQ q.2⟩
  · exact q.elim
def mDNew : ME := fun s Q _ => Q (.val (.dct [])) s
theorem sim_dnew : SimE K T W tDNewK mDNew := fun σ0 σ H s R fps I Qm Xm hm hx Q hQ p hp =>
  out_res (R1 := nol) ((Go.refl I).alt0 fun _ z => z) (.dct hp .nil) hQ hm
/-- *e in a display or a call -/
def seqOf : PyData → Option (List PyData)
  | .list ds => some ds
  | .tuple ds => some ds
  | _ => none
def mStar (m : ME) (r : MA) : MA := fun s Q X => mD m s (fun d s1 => match seqOf d with
  | some ds => r s1 (fun rs s2 => Q (ds.map (fun d => .val (.dat d)) ++ rs) s2) X
  | none => False) X
theorem rats_dats {F H : Hp} {n : Nat} {σ : L2.St} : ∀ {vs : List V} {ds : List PyData}, DqAll K F vs ds → RAts K F H n σ vs (ds.map fun d => .val (.dat d)) (ds.map fun _ => nol)
  | _, _, .nil => .nil
  | _, _, .cons h r => .cons (.val (.dat h fun _ z => z)) (rats_dats r)
theorem rats_app {F H : Hp} {n : Nat} {σ : L2.St} {vs ws : List V} {rs qs : List Rs} {l k : List Ad} (a : RAts K F H n σ vs rs l) (b : RAts K F H n σ ws qs k) : RAts K F H n σ (vs ++ ws) (rs ++ qs) (l ++ k) := by
  induction a with
  | nil => exact b
  | cons h _ ih => exact .cons h ih
theorem anyF_nols {α : Type} {ds : List α} {l : List Ad} : AnyF ((ds.map fun _ => nol) ++ l) = AnyF l := by
  induction ds with
  | nil => rfl
  | cons d ds ih =>
    rw [List.map_cons, List.cons_append, anyF_cons, ih]
    exact funext fun a => propext ⟨fun z => z.elim (fun y => y.elim) id, .inr⟩
theorem apart_nols {α : Type} {ds : List α} {l : List Ad} (h : Apart l) : Apart ((ds.map fun _ => nol) ++ l) := by
  induction ds with
  | nil => exact h
  | cons d ds ih => exact ⟨fun a z => z.elim, ih⟩
theorem sim_star {K' : PySem.W.Frag} {te : TE} {tr : TA} {m : ME} {r : MA} (h : SimE K T W te m) (hr : SimA K T W tr r) (hK : K' = K) : SimA K T W (StX.tStar K' te tr) (mStar m r) := by
  subst hK
  intro σ0 σ H s R fps I Qm Xm hm hx Q hQ
  refine sim_d h σ0 σ H s R fps I _ Xm hm hx _ fun v H1 s1 d fps1 g hd q => ?_
  have fin : ∀ (a : Addr) (xs : List V) (ds : List PyData), DqAll K' (hid (Wf R fps1) H1) xs ds → r s1 (fun rs s2 => Qm (ds.map (fun d => .val (.dat d)) ++ rs) s2) Xm → tr σ H1 fun ys H2 => Q (xs ++ ys) H2 := fun a xs ds hds q =>
    hr σ0 σ H1 s1 R fps1 g.iv _ Xm q (hx.go g) _ fun vs H2 s2 rs l fps2 g2 hrs ap nR z => by
      have g3 := g.trans g2
      have e : AnyF l = AnyF ((ds.map fun _ => nol) ++ l) := anyF_nols.symm
      have g2g := g2.gr
      rw [e] at g3 hrs nR g2g
      exact hQ (xs ++ vs) H2 s2 _ ((ds.map fun _ => nol) ++ l) fps2 g3 (rats_app (rats_dats (dps_ex g2g _ _ hds)) hrs) (apart_nols ap) nR z
  cases d with
  | list ds =>
    obtain ⟨a, xs, rfl, h1, h2⟩ := dp_lst hd
    exact ⟨a, xs, rfl, .inr (ex_l hid_ex h1), fin a xs ds h2 q⟩
  | tuple ds =>
    obtain ⟨a, xs, rfl, h1, h2⟩ := dp_tup hd
    exact ⟨a, xs, rfl, .inl (ex_t hid_ex h1), fin a xs ds h2 q⟩
  | none => exact q.elim
  | bool _ => exact q.elim
  | int _ => exact q.elim
  | str _ => exact q.elim
  | dict _ => exact q.elim
/-! ### a < b < c -/
def bOf (o : O) (Q : Bool → Prop) : Prop := match o with
  | .dat (.bool b) => Q b
  | _ => False
def mChain (f f' : PyData → PyData → FO) (a b c : MD) : ME := fun s Q X => a s (fun d s1 => b s1 (fun e s2 => f d e fun o => bOf o fun k => if k = true then c s2 (fun z s3 => f' e z fun o2 => bOf o2 fun k2 => Q (.val (.dat (.bool k2))) s3) X else Q (.val (.dat (.bool false))) s2) X) X
theorem res_b {F H H' : Hp} {v : V} {o : O} {Q : Bool → Prop} (r : Res K F H v H' o) (h : bOf o Q) : ∃ b, v = .bl b ∧ H' = H ∧ Q b := by
  cases r with
  | dat hd =>
    cases hd with
    | bl b => exact ⟨b, rfl, rfl, h⟩
    | _ => exact h.elim
  | tup _ _ => exact h.elim
  | lst _ _ => exact h.elim
  | dct _ _ => exact h.elim
theorem sim_chain {r r' : R2} {f f' : PyData → PyData → FO} {ta tb tc : TE} {a b c : MD} (hr : PS2 K r f) (hr' : PS2 K r' f') (ha : SimD K T W ta a) (hb : SimD K T W tb b) (hc : SimD K T W tc c) : SimE K T W (tChain r r' ta tb tc) (mChain f f' a b c) := by
  intro σ0 σ H s R fps I Qm Xm hm hx Q hQ
  refine ha σ0 σ H s R fps I _ Xm hm hx _ fun v H1 s1 d fps1 g1 hd q => ?_
  refine hb σ0 σ H1 s1 R fps1 g1.iv _ Xm q (hx.go g1) _ fun w H2 s2 e fps2 g2 he q => ?_
  refine hr _ H2 v w d e _ _ hid_ex (.dq (dp_ex g2.gr _ _ hd)) (.dq he) q fun x H3 o r3 q3 => ?_
  obtain ⟨k, rfl, rfl, q4⟩ := res_b r3 q3
  refine ⟨k, rfl, ?_⟩
  cases k with
  | true =>
    rw [if_pos rfl] at q4
    show tc σ _ _
    refine hc σ0 σ _ s2 R fps2 g2.iv _ Xm q4 (hx.go (g1.trans g2)) _ fun y H4 s4 z fps4 g4 hz q5 => ?_
    refine hr' _ H4 w y e z _ _ hid_ex (.dq (dp_ex g4.gr _ _ he)) (.dq hz) q5 fun x H5 o r5 q6 => ?_
    obtain ⟨k2, rfl, rfl, q7⟩ := res_b r5 q6
    exact out_e ((g1.trans g2).trans g4) (fun _ => .bl k2) hQ q7
  | false =>
    rw [if_neg (by decide)] at q4
    exact out_e (g1.trans g2) (fun _ => .bl false) hQ q4
/-! ### slices -/
abbrev MO : Type := S → (Option Int → S → Prop) → XM → Prop
def mONone : MO := fun s Q _ => Q none s
def mOSome (m : MD) : MO := fun s Q X => m s (fun d s1 => match d with
  | .int i => Q (some i) s1
  | _ => False) X
def cutD (ds : List PyData) (lo hi : Option Int) : List PyData := (ds.drop (HT.sIx ds.length 0 lo)).take (HT.sIx ds.length ds.length hi - HT.sIx ds.length 0 lo)
def fSl (d : PyData) (lo hi : Option Int) : FO := fun Q => match d with
  | .list ds => Q (.lst (cutD ds lo hi))
  | .tuple ds => Q (.dat (.tuple (cutD ds lo hi)))
  | .str z => z.length ≤ 100000 ∧ Q (.dat (.str (cutS z lo hi)))
  | _ => False
def rSl3 (K : PySem.W.Frag) : V → Option Int → Option Int → Hp → VK → Prop := orS (rSlL K) (orS (rSlA K) rSlS)
theorem dps_drop {F : Hp} : ∀ {vs : List V} {ds : List PyData} (n : Nat), DqAll K F vs ds → DqAll K F (vs.drop n) (ds.drop n)
  | _, _, 0, h => h
  | _, _, _ + 1, .nil => .nil
  | _, _, n + 1, .cons _ r => dps_drop n r
theorem dps_take {F : Hp} : ∀ {vs : List V} {ds : List PyData} (n : Nat), DqAll K F vs ds → DqAll K F (vs.take n) (ds.take n)
  | _, _, 0, _ => .nil
  | _, _, _ + 1, .nil => .nil
  | _, _, n + 1, .cons h r => .cons h (dps_take n r)
theorem dps_cut {F : Hp} {vs : List V} {ds : List PyData} {lo hi : Option Int} (h : DqAll K F vs ds) : DqAll K F (cutV vs lo hi) (cutD ds lo hi) := by
  unfold cutV cutD
  rw [dps_len h]
  exact dps_take _ (dps_drop _ h)
theorem cut_whole {ds : List PyData} {lo hi : Option Int} (h : HT.sIx ds.length 0 lo = 0 ∧ HT.sIx ds.length ds.length hi = ds.length) : cutD ds lo hi = ds := by
  unfold cutD
  rw [h.1, h.2]
  simp
theorem ps_sl {F H : Hp} {x : V} {d : PyData} {lo hi : Option Int} {Qo : O → Prop} {Q : VK} (ex : Ex F H) (hx : VAt K F H x d) (hf : fSl d lo hi Qo) (k : ∀ v H' o, Res K F H v H' o → Qo o → Q v H') : rSl3 K x lo hi H Q := by
  cases d with
  | list ds =>
    obtain ⟨a, xs, rfl, h1, h2⟩ := hx.list ex
    exact .inl ⟨a, xs, rfl, h1, fun p hp => k _ _ _ (.lst hp (dps_cut h2)) hf⟩
  | tuple ds =>
    cases hx with
    | dq hx =>
      obtain ⟨a, xs, rfl, h1, h2⟩ := dp_tup hx
      have e := dps_len h2
      refine .inr (.inl ⟨a, xs, rfl, ex_t ex h1, fun z => ?_, fun _ p hp => k _ _ _ (.tup hp (dps_cut h2)) hf⟩)
      rw [e] at z
      have hf' : Qo (.dat (.tuple (cutD ds lo hi))) := hf
      rw [cut_whole z] at hf'
      exact k _ _ _ (.dat hx) hf'
  | str z =>
    obtain rfl := hx.str
    exact .inr (.inr ⟨z, rfl, sz_of hf.1, k _ _ _ (.dat (.str _)) hf.2⟩)
  | none => exact hf.elim
  | bool _ => exact hf.elim
  | int _ => exact hf.elim
  | dict _ => exact hf.elim
end
section
variable (K : PySem.W.Frag) (T : List (Addr × Str)) (W : WX)
def SimO (to : TO) (m : MO) : Prop := ∀ σ0 σ H s R fps, Iv K T σ0 σ H s R fps → ∀ Qm Xm, m s Qm Xm → XOk K T W σ0 σ H s R fps Xm → ∀ Q : Option Int → Hp → Prop,
  (∀ o H' s' fps', Go K T σ0 H s R fps σ H' s' R fps' → Qm o s' → Q o H') → to σ H Q
end
section
variable {K : PySem.W.Frag} {T : List (Addr × Str)} {W : WX}
theorem sim_onone : SimO K T W tNoPart mONone := fun σ0 σ H s R fps I Qm Xm hm hx Q hQ => hQ none H s fps (Go.refl I) hm
theorem sim_osome {te : TE} {m : MD} (h : SimD K T W te m) : SimO K T W (tPart te) (mOSome m) := fun σ0 σ H s R fps I Qm Xm hm hx Q hQ =>
  h σ0 σ H s R fps I _ Xm hm hx _ fun v H1 s1 d fps1 g hd q => by
    split at q
    · rename_i i
      obtain rfl := dp_int hd
      exact ⟨i, rfl, hQ _ H1 s1 fps1 g q⟩
    · exact q.elim
def mSl (m : ME) (lo hi : MO) : ME := fun s Q X => m s (fun r s1 => lo s1 (fun l s2 => hi s2 (fun h s3 => match rd s3 r with
  | some d => fSl d l h fun o => Q (.val o) s3
  | none => False) X) X) X
theorem sim_sl {te : TE} {tl th : TO} {m : ME} {lo hi : MO} {K' : PySem.W.Frag} (h : SimE K T W te m) (hl : SimO K T W tl lo) (hh : SimO K T W th hi) (hK : K' = K) : SimE K T W (tSl (rSl3 K') te tl th) (mSl m lo hi) := by
  subst hK
  intro σ0 σ H s R fps I Qm Xm hm hx Q hQ
  refine h σ0 σ H s R fps I _ Xm hm hx _ fun v H1 s1 r fp fps1 g1 hr nR q => ?_
  refine hl σ0 σ H1 s1 _ fps1 g1.iv _ Xm q (hx.go g1) _ fun l H2 s2 fps2 g2 q => ?_
  refine hh σ0 σ H2 s2 _ fps2 g2.iv _ Xm q (hx.go (g1.trans g2)) _ fun u H3 s3 fps3 g3 q => ?_
  have g23 := g2.trans g3
  have hr3 := hr.keep g23.gr (fun a z => g23.kp a (.inr z)) g23.le
  split at q
  · rename_i d e
    exact ps_sl hid_ex (rd_at g3.iv hr3 e) q fun v H' o r z => out_res (g1.trans g23) r hQ z
  · exact q.elim
/-! ### isinstance -/
def mIsi (f : PyData → Bool) (m : ME) : ME := fun s Q X => m s (fun r s1 => match rd s1 r with
  | some d => Q (.val (.dat (.bool (f d)))) s1
  | none => False) X
theorem sim_isi {K' : PySem.W.Frag} {n : String} {f : PyData → Bool} {te : TE} {m : ME} (h : SimE K T W te m) (hf : ∀ d, kitB (tyN d) n = some (f d)) (hK : K' = K) : SimE K T W (tCB (rIsi K') (tCons te (tCons (tC (.ty n)) tNil))) (mIsi f m) := by
  subst hK
  intro σ0 σ H s R fps I Qm Xm hm hx Q hQ
  refine h σ0 σ H s R fps I _ Xm hm hx _ fun v H1 s1 r fp fps1 g1 hr nR q => ?_
  split at q
  · rename_i d e
    have hv := (rd_at g1.iv hr e).full hid_ex
    exact ⟨v, .ty n, .type (tyN d), .type n, f d, rfl, .ty n, dp_ty hv, kit_ty (hf d), out_e (g1.drop (fun _ z => z) fun _ z => .inl z) (fun _ => .bl _) hQ q⟩
  · exact q.elim
/-- isinstance(e, C), e what was caught or None -/
def mIsE (K : PySem.W.Frag) (C : Addr) (m : ME) : ME := fun s Q X => m s (fun r s1 => match r with
  | .val (.exc D) => ExcC K D ∧ ∃ b, PySem.W.kitOne K (.ref D) (.ref C) = some b ∧ Q (.val (.dat (.bool b))) s1
  | .val (.dat .none) => ∃ b, PySem.W.kitOne K (.type "NoneType") (.ref C) = some b ∧ Q (.val (.dat (.bool b))) s1
  | _ => False) X
theorem sim_isE {K' : PySem.W.Frag} {C : Addr} {te : TE} {m : ME} (h : SimE K T W te m) (hC : ClsV (.ref C) (.ref C)) (hK : K' = K) : SimE K T W (tCB (orC (rIsEV K') (rIsi K')) (tCons te (tCons (tC (.ref C)) tNil))) (mIsE K C m) := by
  subst hK
  intro σ0 σ H s R fps I Qm Xm hm hx Q hQ
  refine h σ0 σ H s R fps I _ Xm hm hx _ fun v H1 s1 r fp fps1 g1 hr nR q => ?_
  have g2 := g1.drop (R2 := R) (fun _ z => z) fun _ z => .inl z
  split at q
  · rename_i D
    obtain ⟨e, b, e2, q⟩ := q
    cases hr with
    | val hr =>
      cases hr with
      | exc hr _ => exact .inl ⟨_, D, .ref C, .ref C, b, rfl, hid_ex _ _ hr, e, hC, e2, out_e g2 (fun _ => .bl _) hQ q⟩
  · obtain ⟨b, e2, q⟩ := q
    cases hr with
    | val hr =>
      cases hr with
      | dat hr _ =>
        cases dp_none hr
        exact .inr ⟨.non, .ref C, .type "NoneType", .ref C, b, rfl, hC, .base .non, e2, out_e g2 (fun _ => .bl _) hQ q⟩
  · exact q.elim
/-! ### raise -/
def mRaise (C : Addr) : MS := fun s k => k.er C s
theorem sim_raise {C : Addr} : SimS K T W (fun _ σ H => W (.ref C) none σ H) (mRaise C) := fun σ0 σ H s R fps I D k hm x => x.er C σ H s fps (Go.refl I) hm
/-! ### what is caught -/
def mCaught (K : PySem.W.Frag) (CS : Addr) (m : ME) : ME := fun s Q _ => m s (fun _ s1 => Q (.val (.dat .none)) s1) (fun C s1 => PySem.W.exmOne K (.ref C) (.ref CS) = some true ∧ Q (.val (.exc C)) s1)
theorem sim_caught {K' : PySem.W.Frag} {T' : List (Addr × Str)} {CS : Addr} {G : Den} {ta : TA} {m : MA} (h : ∀ W, SimA K T W ta m) (hK : K' = K) (hT : T' = T) : SimE K T W (tCg T' K' CS (spM K T G) ta) (mCaught K CS (mCall G m)) := by
  subst hK hT
  intro σ0 σ H s R fps I Qm Xm hm hx Q hQ
  refine ⟨I.tab, fun H1 e1 t1 => ?_⟩
  have g0 : Gr (Wf R fps) H (Wf R fps) H1 := gr_of (fun a o h _ t => e1 a o h t) fun _ _ _ n => n
  have lv : ∀ a, Mut (H a) → H1 a = H a := fun a z => by
    cases q : H a with
    | none => rw [q] at z; exact z.elim
    | some o => exact e1 a o q fun ps y => by rw [q, y] at z; exact z
  have G0 : Go K' T' σ0 H s R fps σ H1 s R fps := ⟨I.step g0 (fun i a z => lv a (I.live (.inr ⟨i, z⟩))) I.disR (fun a z => by rw [lv a (I.liv a z)]; exact I.liv a z) t1, fun a z => lv a (I.liv a z), g0, rfl, Nat.le_refl _, fun _ z => z⟩
  refine (sim_call (W := fun cls d _ H' => ∃ b, PySem.W.exmOne K' cls (.ref CS) = some b ∧ (b = true → ∀ a, H' a = none → Q (.ref a) (upd H' a (ExV cls d a))) ∧ (b = false → False)) (G := G) (h _) σ0 σ H1 s R fps G0.iv _ _ hm (fun C H2 s2 fps2 g2 z => ?_) (fun _ H2 => Q .non H2) fun v H2 s2 r fp fps2 g2 hr nR z => ?_ :)
  · obtain ⟨e, z⟩ := z
    refine ⟨true, e, fun _ a ha => ?_, fun y => nomatch y⟩
    have g3 := (G0.trans g2).trans (go_new (o := ExV (.ref C) none a) g2.iv ha)
    refine hQ (.ref a) _ s2 (.val (.exc C)) nol fps2 (g3.alt0 fun _ z => z) (.val (.exc ?_ fun _ z => z)) (fun _ z => z.elim) z
    rw [alt_nol]
    exact hid_some.mpr ⟨upd_same, g2.iv.fresh ha, fun _ z => nomatch z⟩
  · exact out_e ((G0.trans g2).drop (fun _ z => z) fun _ z => .inl z) (fun _ => .non) hQ z
/-! ### dicts of one's own -/
def keyOf : PyData → Option Key
  | .int i => some (.inl i)
  | .str s => some (.inr s)
  | _ => none
/-- the pair of a key, the dict with another value -/
def getK (kvs : List (Key × PyData)) (k : Key) : Option PyData := (kvs.find? fun kv => decide (kv.1 = k)).map (·.2)
/-- kvs with v at k -/
def putD (kvs : List (Key × PyData)) (k : Key) (v : PyData) : List (Key × PyData) :=
  if kvs.any (fun kv => decide (kv.1 = k)) then kvs.map (fun kv => if kv.1 = k then (kv.1, v) else kv) else kvs ++ [(k, v)]
def dctOf (s : S) : Rs → Option (List (Key × PyData))
  | .val (.dct kvs) => some kvs
  | .slot i => match s.env[i]? with
    | some (some (.dct kvs)) => some kvs
    | _ => none
  | _ => none
def mGet2 (m : ME) (mk mx : MD) : ME := fun s Q X => m s (fun r s1 => (∃ kvs, dctOf s1 r = some kvs) ∧ mk s1 (fun k s2 => mx s2 (fun z s3 => match dctOf s3 r, keyOf k with
  | some kvs, some k => Q (.val (.dat ((getK kvs k).getD z))) s3
  | _, _ => False) X) X) X
def isDct (s : S) (i : Nat) : Prop := match s.env[i]? with
  | some (some (.dct _)) => True
  | _ => False
def mDPut (i : Nat) (mk mv : MD) : MS := fun s k => mv s (fun d s1 => isDct s1 i ∧ mk s1 (fun y s2 => match s2.env[i]?, keyOf y with
  | some (some (.dct kvs)), some key => kvs.length < 100000 ∧ k.nx (putO s2 i (.dct (putD kvs key d)))
  | _, _ => False) k.er) k.er
end
end Mk

/-! part MkB -/
/-! Mk, part 11: the text's constructs, each with its reading and what it does. -/
namespace Mk
open PySem PySem.Spec PyProof.Rows L2 Evl Lk LamX
section
variable (X : Cx) (K : PySem.W.Frag) (T : List (Addr × Str)) (W : WX)
structure QE (e : Expr) (te : TE) (m : ME) : Prop where
  p : PE X e te
  s : SimE K T W te m
structure QT (e : Expr) (te : TT) (m : MT) : Prop where
  p : PT X e te
  s : SimT K T W te m
structure QW (e : Expr) (te : TT) (m : MT) : Prop where
  p : PW X e te
  s : SimT K T W te m
structure QA (es : List Expr) (ta : TA) (m : MA) : Prop where
  p : PA X es ta
  s : SimA K T W ta m
structure QK (ks : List Keyword) (ta : TA) (m : MA) : Prop where
  p : PK X ks ta
  s : SimA K T W ta m
structure QO (e : Option Expr) (to : TO) (m : MO) : Prop where
  p : PO X e to
  s : SimO K T W to m
structure QS (st : Stmt) (ts : TS) (m : MS) : Prop where
  p : PS X st ts
  s : SimS K T W ts m
structure QB (st : List Stmt) (ts : TS) (m : MS) : Prop where
  p : PSs X st ts
  s : SimS K T W ts m
structure QG (e : Expr) (tg : TG) (m : MG) : Prop where
  p : PG X e tg
  s : SimG K T tg m
  o : GMono tg
structure QGs (es : List Expr) (tg : TGs) (m : MGs) : Prop where
  p : PGs X es tg
  s : SimGs K T tg m
  o : GsMono tg
structure QI (tg iter : Expr) (wi : TI) (m : MI) : Prop where
  p : PI X tg iter wi
  s : SimI K T W wi m
end
section
variable {X : Cx} {K : PySem.W.Frag} {T : List (Addr × Str)} {W : WX} {a b c e : Expr} {es : List Expr} {ta tb tc te : TE} {ma mb mc me : ME} {pos : Pos} {tA tB' : TT} {mA mB' : MT} {rest : List Expr} {tr : TA} {mr : MA}
/-! ### values -/
theorem e_v (i : Nat) {x : Str} (hN : X.N[i]? = some x := by rfl) (hv : Vis X.env.scope x := by first | exact Or.inl rfl | exact Or.inr (Or.inl rfl) | exact Or.inr (Or.inr rfl)) (hd : (x == ("__debug__" : Str)) = false := by decide)
    (hcd : (x == ("__classdict__" : Str)) = false := by decide) : QE X K T W (.Name x pos) (tVar i) (mVar i) := ⟨pe_var hN hv hd hcd, sim_var⟩
theorem e_int {i : Int} {j} : QE X K T W (.Constant (.int i) j pos) (tC (.int i)) (mC (.int i)) := ⟨pe_int, sim_c fun _ => .int i⟩
theorem e_bl {b : Bool} {j} : QE X K T W (.Constant (.bool b) j pos) (tC (.bl b)) (mC (.bool b)) := ⟨pe_bl, sim_c fun _ => .bl b⟩
theorem e_non {j} : QE X K T W (.Constant .none j pos) (tC .non) (mC .none) := ⟨pe_non, sim_c fun _ => .non⟩
theorem e_str {x : Str} {j} : QE X K T W (.Constant (.str x) j pos) (tC (.str x)) (mC (.str x)) := ⟨pe_str, sim_c fun _ => .str x⟩
/-- a constant of the module -/
structure Cn (K : PySem.W.Frag) (mg : Str → Option Value) (x : Str) (v : V) (d : PyData) : Prop where
  g : ∃ u, mg x = some u ∧ RelV v u
  d : ∀ F, Dq K F v d
theorem pe_gc {x : Str} {v : V} (hg : Gl X x) (h : ∃ u, X.mg x = some u ∧ RelV v u) (hd : (x == ("__debug__" : Str)) = false := by decide) : PE X (.Name x pos) (tC v) := by
  obtain ⟨u, hm, r⟩ := h
  exact pe_glob hg hm r hd
theorem e_gl {x : Str} {v : V} {d : PyData} (hg : Gl X x) (h : Cn K X.mg x v d) (hd : (x == ("__debug__" : Str)) = false := by decide) : QE X K T W (.Name x pos) (tC v) (mC d) := ⟨pe_gc hg h.g hd, sim_c h.d⟩
/-! ### operations -/
theorem e_add (ha : QE X K T W a ta ma) (hb : QE X K T W b tb mb) (hK : X.K = K := by rfl) : QE X K T W (.BinOp a .Add b pos) (tOp (rAdd4 K) ta tb) (mOp fAdd ma mb) := by
  subst hK
  exact ⟨pe_op (opOr op_add (opOr op_add_str (opOr op_catL op_catA))) ha.p hb.p, sim_op ps_add ha.s hb.s⟩
theorem e_sub (ha : QE X K T W a ta ma) (hb : QE X K T W b tb mb) : QE X K T W (.BinOp a .Sub b pos) (tOp (rI0 fun i j => .int (i - j)) ta tb) (mOp fSub ma mb) := ⟨pe_op op_sub ha.p hb.p, sim_op ps_I0 ha.s hb.s⟩
theorem e_mul (ha : QE X K T W a ta ma) (hb : QE X K T W b tb mb) (hK : X.K = K := by rfl) : QE X K T W (.BinOp a .Mult b pos) (tOp (rMul3 K) ta tb) (mOp fMul ma mb) := by
  subst hK
  exact ⟨pe_op (opOr op_mul (opOr op_mulW (opOr op_repT op_repS))) ha.p hb.p, sim_op ps_mul ha.s hb.s⟩
theorem e_mod (ha : QE X K T W a ta ma) (hb : QE X K T W b tb mb) : QE X K T W (.BinOp a .Mod b pos) (tOp (rI (fun _ j => 0 < j) fun i j => .int (i % j)) ta tb) (mOp fMod ma mb) := ⟨pe_op op_mod ha.p hb.p, sim_op ps_I2 ha.s hb.s⟩
theorem e_pow (ha : QE X K T W a ta ma) (hb : QE X K T W b tb mb) : QE X K T W (.BinOp a .Pow b pos) (tOp (rI CPow fun i j => .int (i ^ j.toNat)) ta tb) (mOp fPow ma mb) := ⟨pe_op op_pow ha.p hb.p, sim_op ps_I2 ha.s hb.s⟩
theorem e_neg (ha : QE X K T W a ta ma) : QE X K T W (.UnaryOp .USub a pos) (tUn (rU fun i => .int (-i)) ta) (mUn fNeg ma) := ⟨pe_un un_neg ha.p, sim_un ps_neg ha.s⟩
/-- a comparison: what its operator does -/
structure Cm (X : Cx) (K : PySem.W.Frag) (op : CmpOp) (r : R2) (f : PyData → PyData → FO) : Prop where
  o : OpR X (compareOp op) r
  s : PS2 K r f
theorem c_eq (hu : X.A.units + 64 < cLine) (hK : X.K = K := by rfl) : Cm X K .Eq (orR (rEqD K) (rEqNil K)) fEq := by subst hK; exact ⟨opOr (op_eqD hu) (op_eqNil (by omega)), ps_eq⟩
theorem c_ne (hu : X.A.units + 64 < cLine) (hK : X.K = K := by rfl) : Cm X K .NotEq (rNeD K) fNe := by subst hK; exact ⟨op_neD hu, ps_ne⟩
theorem c_lt : Cm X K .Lt (orR (rI0 fun i j => .bl (decide (i < j))) (rSS fun a b => decide (a.cps.toList < b.cps.toList))) fLt := ⟨opOr op_lt op_lt_str, ps_cmp⟩
theorem c_gt : Cm X K .Gt (orR (rI0 fun i j => .bl (decide (j < i))) (rSS fun a b => decide (b.cps.toList < a.cps.toList))) fGt := ⟨opOr op_gt op_gt_str, ps_cmp⟩
theorem c_le (hu : X.A.units < cLine) (hK : X.K = K := by rfl) : Cm X K .LtE (orR (rLeT K) (orR (rI0 fun i j => .bl (decide (i ≤ j))) (rSS fun a b => !decide (b.cps.toList < a.cps.toList)))) fLe := by
  subst hK; exact ⟨opOr (op_leT hu) (opOr op_le op_le_str), ps_le⟩
theorem c_in (hu : X.A.units + 65 < cLine) (hK : X.K = K := by rfl) : Cm X K .In (rIn3 K) fIn := by subst hK; exact ⟨opOr (op_inA hu) (opOr (op_inTA hu) op_in_sign), ps_in⟩
theorem c_notIn (hu : X.A.units + 65 < cLine) (hK : X.K = K := by rfl) : Cm X K .NotIn (rNotIn3 K) fNotIn := by subst hK; exact ⟨opOr (op_notInA hu) (opOr (op_notInTA hu) op_notIn_sign), ps_notIn⟩
theorem c_isN : Cm X K .Is (fun x y H Q => y = .non ∧ Q (.bl (decide (x = .non))) H) fIsN := ⟨op_isN, ps_isN⟩
theorem c_notN : Cm X K .IsNot (fun x y H Q => y = .non ∧ Q (.bl (!decide (x = .non))) H) fNotN := ⟨op_notN, ps_notN⟩
theorem c_isB : Cm X K .Is rIsB fIsB := ⟨op_isBl, ps_isB⟩
theorem c_notB : Cm X K .IsNot rNotB fNotB := ⟨op_notBl, ps_notB⟩
theorem e_cmp {op : CmpOp} {r : R2} {f : PyData → PyData → FO} (h : Cm X K op r f) (ha : QE X K T W a ta ma) (hb : QE X K T W b tb mb) (hm : behindInMarks op b = false) : QE X K T W (.Compare a [op] [b] pos) (tOp r ta tb) (mOp f ma mb) := ⟨pe_cmpR h.o ha.p hb.p hm, sim_op h.s ha.s hb.s⟩
theorem t_cmp {op : CmpOp} {r : R2} {f : PyData → PyData → FO} (h : Cm X K op r f) (ha : QE X K T W a ta ma) (hb : QE X K T W b tb mb) (hm : behindInMarks op b = false) : QT X K T W (.Compare a [op] [b] pos) (tTest (tOp r ta tb)) (mB (mOp f ma mb)) := ⟨pt_cmpR h.o ha.p hb.p hm, sim_test (sim_op h.s ha.s hb.s)⟩
theorem e_chain {op op' : CmpOp} {r r' : R2} {f f' : PyData → PyData → FO} (h : Cm X K op r f) (h' : Cm X K op' r' f') (ha : QE X K T W a ta ma) (hb : QE X K T W b tb mb) (hc : QE X K T W c tc mc) (hm : lastMarks [op, op'] [b, c] = false := by with_unfolding_all rfl) :
    QE X K T W (.Compare a [op, op'] [b, c] pos) (tChain r r' ta tb tc) (mChain f f' (mD ma) (mD mb) (mD mc)) := ⟨pe_chain h.o h'.o ha.p hb.p hc.p hm, sim_chain h.s h'.s (sim_d ha.s) (sim_d hb.s) (sim_d hc.s)⟩
theorem t_chain {op op' : CmpOp} {r r' : R2} {f f' : PyData → PyData → FO} (h : Cm X K op r f) (h' : Cm X K op' r' f') (ha : QE X K T W a ta ma) (hb : QE X K T W b tb mb) (hc : QE X K T W c tc mc) (hm : lastMarks [op, op'] [b, c] = false := by with_unfolding_all rfl) :
    QT X K T W (.Compare a [op, op'] [b, c] pos) (tTest (tChain r r' ta tb tc)) (mB (mChain f f' (mD ma) (mD mb) (mD mc))) := ⟨pt_chain h.o h'.o ha.p hb.p hc.p hm, sim_test (sim_chain h.s h'.s (sim_d ha.s) (sim_d hb.s) (sim_d hc.s))⟩
/-! ### tests -/
theorem t_val (ha : QE X K T W a ta ma) (he : ∀ whole, isTrue a X.env whole = (do let v ← whole; standAt a.pos; holding [v] (truthy v)) := by intro _; rfl) : QT X K T W a (tB ta) (mB ma) := ⟨pt_val ha.p he, sim_b ha.s⟩
theorem t_not (ha : QT X K T W a tA mA) : QT X K T W (.UnaryOp .Not a pos) (tNot tA) (mNot mA) := ⟨pt_not ha.p, sim_not ha.s⟩
theorem w_and1 (ha : QT X K T W a tA mA) : QW X K T W (.BoolOp .And [a] pos) tA mA := ⟨pw_and1 ha.p, ha.s⟩
theorem w_or1 (ha : QT X K T W a tA mA) : QW X K T W (.BoolOp .Or [a] pos) tA mA := ⟨pw_or1 ha.p, ha.s⟩
theorem w_and (ha : QT X K T W a tA mA) (hb : QW X K T W (.BoolOp .And (b :: rest) pos) tB' mB') : QW X K T W (.BoolOp .And (a :: b :: rest) pos) (tAnd tA tB') (mAnd mA mB') := ⟨pw_and ha.p hb.p, sim_and ha.s hb.s⟩
theorem w_or (ha : QT X K T W a tA mA) (hb : QW X K T W (.BoolOp .Or (b :: rest) pos) tB' mB') : QW X K T W (.BoolOp .Or (a :: b :: rest) pos) (tOr tA tB') (mOr mA mB') := ⟨pw_or ha.p hb.p, sim_or ha.s hb.s⟩
theorem t_w (h : QW X K T W a tA mA) : QT X K T W a tA mA := ⟨h.p.pt, h.s⟩
theorem e_one {op} (ha : QE X K T W a ta ma) : QE X K T W (.BoolOp op [a] pos) ta ma := ⟨pe_one ha.p, ha.s⟩
theorem e_and (ha : QE X K T W a ta ma) (hb : QE X K T W (.BoolOp .And (b :: rest) pos) tb mb) : QE X K T W (.BoolOp .And (a :: b :: rest) pos) (tAndV ta tb) (mAndV (mB ma) mb) := ⟨pe_and ha.p hb.p, sim_andV ha.s hb.s⟩
theorem e_not (ha : QE X K T W a ta ma) : QE X K T W (.UnaryOp .Not a pos) (tNotV ta) (mNotV (mB ma)) := ⟨pe_not ha.p, sim_notV ha.s⟩
theorem e_if (hc : QT X K T W c tA mA) (ha : QE X K T W a ta ma) (hb : QE X K T W b tb mb) : QE X K T W (.IfExp c a b pos) (tIf tA ta tb) (mIfE mA ma mb) := ⟨pe_ifExp hc.p ha.p hb.p, sim_ifE hc.s ha.s hb.s⟩
/-! ### arguments, displays -/
theorem a_nil : QA X K T W [] tNil mNil := ⟨pa_nil, sim_nil⟩
theorem a_cons (ha : QE X K T W e te me) (hr : QA X K T W es tr mr) (hs : starEach (e :: es) X.env = (false, eval e X.env) :: starEach es X.env := by rfl) : QA X K T W (e :: es) (tCons te tr) (mCons me mr) := ⟨pa_cons ha.p hr.p hs, sim_cons ha.s hr.s⟩
/-- .. frozen -/
theorem f_cons (ha : QE X K T W e te me) (hr : QA X K T W es tr mr) (hs : starEach (e :: es) X.env = (false, eval e X.env) :: starEach es X.env := by rfl) : QA X K T W (e :: es) (tCons te tr) (mCons (mFz me) mr) := ⟨pa_cons ha.p hr.p hs, sim_cons (sim_fz ha.s) hr.s⟩
/-- .. moved -/
theorem m_cons (ha : QE X K T W e te me) (hr : QA X K T W es tr mr) (hs : starEach (e :: es) X.env = (false, eval e X.env) :: starEach es X.env := by rfl) : QA X K T W (e :: es) (tCons te tr) (mCons (mMv me) mr) := ⟨pa_cons ha.p hr.p hs, sim_cons (sim_mv ha.s) hr.s⟩
theorem f_star (ha : QE X K T W e te me) (hr : QA X K T W es tr mr) (hK : X.K = K := by rfl) (hs : starEach (.Starred e pos :: es) X.env = (true, eval e X.env) :: starEach es X.env := by rfl) : QA X K T W (.Starred e pos :: es) (StX.tStar K te tr) (mStar me mr) := by
  subst hK; exact ⟨StX.pa_star ha.p hr.p hs, sim_star ha.s hr.s rfl⟩
theorem e_tup {x1} (h : QA X K T W es tr mr) : QE X K T W (.Tuple es x1 pos) (tTup tr) (mDis (fun ds => .dat (.tuple ds)) mr) := ⟨pe_tup h.p, sim_tup h.s⟩
theorem e_lst (h : QA X K T W es tr mr) : QE X K T W (.List es pos) (tLst tr) (mDis (fun ds => .lst ds) mr) := ⟨pe_lst h.p, sim_lst h.s⟩
theorem e_dnew : QE X K T W (.Dict [] [] pos) tDNewK mDNew := ⟨pe_dnewK, sim_dnew⟩
/-! ### items, slices -/
theorem e_ix (ha : QE X K T W a ta ma) (hb : QE X K T W b tb mb) (hs : PlainIx b) (hK : X.K = K := by rfl) : QE X K T W (.Subscript a b pos) (tOp (rIx K) ta tb) (mOp fIx ma mb) := by
  subst hK; exact ⟨pe_ix ix_seq ha.p hb.p hs, sim_op ps_ix ha.s hb.s⟩
theorem o_none : QO X K T W none tNoPart mONone := ⟨po_none, sim_onone⟩
theorem o_some (h : QE X K T W e te me) : QO X K T W (some e) (tPart te) (mOSome (mD me)) := ⟨po_some h.p, sim_osome (sim_d h.s)⟩
theorem e_sl {lo hi : Option Expr} {tl th : TO} {ml mh : MO} {p2 : Pos} (he : QE X K T W e te me) (hl : QO X K T W lo tl ml) (hh : QO X K T W hi th mh) (hK : X.K = K := by rfl) : QE X K T W (.Subscript e (.Slice lo hi none p2) pos) (tSl (rSl3 K) te tl th) (mSl me ml mh) := by
  subst hK; exact ⟨pe_slice (slOr sl_list (slOr sl_tupA sl_str)) he.p hl.p hh.p, sim_sl he.s hl.s hh.s rfl⟩
/-! ### calls of built-ins -/
theorem e_cb {id : String} {x : Str} {p : Pos} {r : List V → Hp → VK → Prop} {f : List PyData → FO} (hc : CallR X (.builtin id) r) (hf : PSim K r f) (hg : Gl X x) (hm : X.mg x = none) (hv : bootBuiltins x = some (.builtin id)) (ha : QA X K T W (e :: es) tr mr)
    (hn : x ≠ "__name__" := by decide) (hdb : (x == ("__debug__" : Str)) = false := by decide) (he : starEach (e :: es) X.env = (false, eval e X.env) :: starEach es X.env := by rfl) (hpl : (backTo pos (starEach es X.env)).any (·.1) = false := by rfl) :
    QE X K T W (.Call (.Name x p) (e :: es) [] pos) (tCB r tr) (mCB f mr) := ⟨pe_callB hc hg hm hv ha.p hn hdb he hpl, sim_cb hf ha.s⟩
theorem e_cty {t : String} {x : Str} {p : Pos} {r : List V → Hp → VK → Prop} {f : List PyData → FO} (hc : CallR X (.type t) r) (hf : PSim K r f) (hg : Gl X x) (hm : X.mg x = none) (hv : bootBuiltins x = some (.type t)) (ha : QA X K T W (e :: es) tr mr)
    (hn : x ≠ "__name__" := by decide) (hdb : (x == ("__debug__" : Str)) = false := by decide) (he : starEach (e :: es) X.env = (false, eval e X.env) :: starEach es X.env := by rfl) (hpl : (backTo pos (starEach es X.env)).any (·.1) = false := by rfl) :
    QE X K T W (.Call (.Name x p) (e :: es) [] pos) (tCB r tr) (mCB f mr) := ⟨pe_callTy hc hg hm hv ha.p hn hdb he hpl, sim_cb hf ha.s⟩
end
end Mk

/-! part MkC -/
/-! Mk, part 12: calls of defs, comprehensions, statements, defs. -/
namespace Mk
open PySem PySem.Spec PyProof.Rows L2 Evl Lk LamX
section
variable {X : Cx} {K : PySem.W.Frag} {T : List (Addr × Str)} {W : WX} {a b c e : Expr} {es : List Expr} {ta tb tc te : TE} {ma mb mc me : ME} {pos : Pos} {tA tB' : TT} {mA mB' : MT} {rest : List Stmt} {tr : TA} {mr : MA} {st : Stmt} {ts us : TS} {ms ns : MS} {sts stt : List Stmt}
/-! ### calls of defs -/
/-- the def x of the module does G -/
abbrev Cd (P : Program) (w : World) (K : PySem.W.Frag) (mg : Str → Option Value) (base : Heap) (T : List (Addr × Str)) (k : Nat) (x : Str) (G : Den) : Prop := Cl P w K mg base (L2.CX P w) k x (spM K T G)
abbrev Cdk (P : Program) (w : World) (K : PySem.W.Frag) (mg : Str → Option Value) (base : Heap) (T : List (Addr × Str)) (k : Nat) (x : Str) (ks : List Str) (G : Den) : Prop := Cw P w K mg base (L2.CX P w) k x ks (spM K T G)
section
variable {k j : Nat} {x : Str} {G : Den} {p : Pos}
/-- .. that may raise -/
theorem e_call (tk : Takes X W) (h : Cd X.prog X.w X.K X.mg X.base T k x G) (hr : Room j X.A) (hk : k ≤ j) (hg : Gl X x) (ha : QA X K T W (e :: es) tr mr) (hK : X.K = K := by rfl)
    (hdb : (x == ("__debug__" : Str)) = false := by decide) (he : starEach (e :: es) X.env = (false, eval e X.env) :: starEach es X.env := by rfl) (hpl : (backTo pos (starEach es X.env)).any (·.1) = false := by rfl) :
    QE X K T W (.Call (.Name x p) (e :: es) [] pos) (tCallS (spM K T G) (fun σ cls d H => W cls d σ H) tr) (mCall G mr) := by
  subst hK
  exact ⟨pe_kR tk h hr hk hg ha.p hdb he hpl, sim_call ha.s⟩
/-- .. that does not raise here -/
theorem e_call0 (h : Cd X.prog X.w X.K X.mg X.base T k x G) (hr : Room j X.A) (hk : k ≤ j) (hg : Gl X x) (ha : QA X K T W (e :: es) tr mr) (hK : X.K = K := by rfl)
    (hdb : (x == ("__debug__" : Str)) = false := by decide) (he : starEach (e :: es) X.env = (false, eval e X.env) :: starEach es X.env := by rfl) (hpl : (backTo pos (starEach es X.env)).any (·.1) = false := by rfl) :
    QE X K T W (.Call (.Name x p) (e :: es) [] pos) (tCall (spM K T G) [] E0 tr) (fun s Q X => mCall G mr s Q fun _ _ => False) := by
  subst hK
  exact ⟨pe_kX h hr hk hg ha.p hdb he hpl, sim_call0 ha.s⟩
theorem k_nil : QK X K T W [] tNil mNil := ⟨pk_nil, sim_nil⟩
theorem k_cons {nm : Option Str} {kpos : Pos} {kws : List Keyword} (ha : QE X K T W e te me) (hr : QK X K T W kws tr mr) : QK X K T W (⟨nm, e, kpos⟩ :: kws) (tCons te tr) (mCons me mr) := ⟨pk_cons ha.p hr.p, sim_cons ha.s hr.s⟩
/-- f(k = v, ..), in the parameters' order -/
theorem e_kw0 {kws : List Keyword} {ks : List Str} (h : Cdk X.prog X.w X.K X.mg X.base T k x ks G) (hr : Room j X.A) (hk : k ≤ j) (hg : Gl X x) (hkw : QK X K T W kws tr mr) (hK : X.K = K := by rfl)
    (hall : (backToKw pos (keywordEach kws X.env)).all (·.1.isSome) = true := by rfl) (hks : (backToKw pos (keywordEach kws X.env)).filterMap (·.1) = ks := by rfl) (hdb : (x == ("__debug__" : Str)) = false := by decide)
    (hpl : ((backTo pos (starEach [] X.env)).any (·.1) || (backToKw pos (keywordEach kws X.env)).any (·.1.isNone)) = false := by rfl) :
    QE X K T W (.Call (.Name x p) [] kws pos) (tCallK (spM K T G) (fun vs zs => vs ++ zs) E0 tNil tr) (fun s Q X => mCall G mr s Q fun _ _ => False) := by
  subst hK
  refine ⟨pe_kwX h hr hk hg hkw.p hall hks hdb hpl, ?_⟩
  have q := sim_call0 (W := W) (G := G) hkw.s
  intro σ0 σ H s R fps I Qm Xm hm hx Q hQ
  have q2 := q σ0 σ H s R fps I Qm Xm hm hx Q hQ
  have e : (fun (vs : List V) (H1 : Hp) => spM X.K T G (vs ++ []) H1 Q E0) = fun vs H1 => spM X.K T G ([] ++ vs) H1 Q E0 := by
    funext vs H1
    rw [List.append_nil, List.nil_append]
  have q3 : tr σ H fun vs H1 => spM X.K T G (vs ++ []) H1 Q E0 := q2
  rw [e] at q3
  exact q3
end
/-! ### isinstance -/
theorem e_isi {y : Str} {n : String} {f : PyData → Bool} {p q : Pos} (hf : ∀ d, kitB (tyN d) n = some (f d)) (hg : Gl X "isinstance") (hm : X.mg "isinstance" = none) (hg2 : Gl X y) (hm2 : X.mg y = none) (hv2 : bootBuiltins y = some (.type n)) (ha : QE X K T W e te me) (hK : X.K = K := by rfl)
    (hn2 : y ≠ "__name__" := by decide) (hd2 : (y == ("__debug__" : Str)) = false := by decide)
    (he : starEach [e, .Name y q] X.env = (false, eval e X.env) :: starEach [.Name y q] X.env := by rfl) (he2 : starEach [.Name y q] X.env = (false, eval (.Name y q) X.env) :: starEach [] X.env := by rfl) (hpl : (backTo pos (starEach [.Name y q] X.env)).any (·.1) = false := by rfl) :
    QE X K T W (.Call (.Name "isinstance" p) [e, .Name y q] [] pos) (tCB (rIsi K) (tCons te (tCons (tC (.ty n)) tNil))) (mIsi f me) := by
  subst hK
  exact ⟨pe_callB call_isi hg hm (by decide +kernel) (pa_cons ha.p (pa_cons (pe_bltn (v := .ty n) hg2 hm2 hv2 rfl hn2 hd2) pa_nil he2) he) (by decide) (by decide) he hpl, sim_isi ha.s hf rfl⟩
theorem e_isE {y : Str} {C : Addr} {p q : Pos} (hg : Gl X "isinstance") (hm : X.mg "isinstance" = none) (hg2 : Gl X y) (hm2 : X.mg y = some (.ref C)) (ha : QE X K T W e te me) (hC : ClsV (.ref C) (.ref C)) (hK : X.K = K := by rfl) (hd2 : (y == ("__debug__" : Str)) = false := by decide)
    (he : starEach [e, .Name y q] X.env = (false, eval e X.env) :: starEach [.Name y q] X.env := by rfl) (he2 : starEach [.Name y q] X.env = (false, eval (.Name y q) X.env) :: starEach [] X.env := by rfl) (hpl : (backTo pos (starEach [.Name y q] X.env)).any (·.1) = false := by rfl) :
    QE X K T W (.Call (.Name "isinstance" p) [e, .Name y q] [] pos) (tCB (orC (rIsEV K) (rIsi K)) (tCons te (tCons (tC (.ref C)) tNil))) (mIsE K C me) := by
  subst hK
  exact ⟨pe_callB (callOr call_isEV call_isi) hg hm (by decide +kernel) (pa_cons ha.p (pa_cons (pe_gc hg2 ⟨_, hm2, rfl⟩ hd2) pa_nil he2) he) (by decide) (by decide) he hpl, sim_isE ha.s hC rfl⟩
/-! ### tuple(x), list(x) -/
theorem e_tuple {p : Pos} (hg : Gl X "tuple") (hm : X.mg "tuple" = none) (ha : QE X K T W a ta ma) (hK : X.K = K := by rfl) (na : starEach [a] X.env = (false, eval a X.env) :: starEach [] X.env := by rfl) :
    QE X K T W (.Call (.Name "tuple" p) [a] [] pos) (tThen ta (kTup K)) (mUn fTuple ma) := by
  subst hK
  exact ⟨pe_tupleOf hg hm ha.p na, (sim_un ps_tuple ha.s : SimE X.K T W (tUn (kTup X.K) ta) (mUn fTuple ma))⟩
/-! ### methods of lists -/
theorem ls_append : LSim K rAppend (fun ds es Q => match es with
    | [e] => ds.length < 100000 ∧ Q (ds ++ [e]) .none
    | _ => False) := by
  intro F H a vs ds xs es Qo Q ex ha hd he hf k
  cases he with
  | nil => exact hf.elim
  | cons h1 h2 =>
    cases h2 with
    | cons _ _ => exact hf.elim
    | nil => exact ⟨a, vs, _, rfl, rfl, ha, sz_lt (by rw [dps_len hd]; exact hf.1), k _ _ _ _ (dps_app hd (.cons h1 .nil)) .non hf.2⟩
def fAppend : List PyData → List PyData → (List PyData → PyData → Prop) → Prop := fun ds es Q => match es with
    | [e] => ds.length < 100000 ∧ Q (ds ++ [e]) .none
    | _ => False
theorem e_lm {i : Nat} {x name : Str} {id : String} {r : V → List V → Hp → VK → Prop} {f : List PyData → List PyData → (List PyData → PyData → Prop) → Prop} {xp apos cpos : Pos} (pa : PlainAttrs "list") (slot : Slot "list" name id) (hty : typeOf (.builtin id) = pure (.type "method_descriptor")) (hm : MtR X id r) (hf : LSim K r f)
    (hN : X.N[i]? = some x) (hv : Vis X.env.scope x) (hd : (x == ("__debug__" : Str)) = false) (hcd : (x == ("__classdict__" : Str)) = false) (ha : QA X K T W (e :: es) tr mr) (hK : X.K = K := by rfl)
    (hbase : attributeBase (.Name x xp) name X.env (eval (.Name x xp) X.env) = eval (.Name x xp) X.env := by rfl)
    (hfew : ((backTo cpos (starEach (e :: es) X.env)).all (fun x => !x.1) && (backToKw cpos (keywordEach [] X.env)).all (fun x => x.1.isSome)
      && decide ((e :: es).length + ([] : List Keyword).length + (if ([] : List Keyword).isEmpty then 0 else 1) < 30)) = true := by rfl)
    (hline : (apos.endLine == cpos.line) = true := by rfl) (hs : starEach (e :: es) X.env = (false, eval e X.env) :: starEach es X.env := by rfl) (hplain : (backTo cpos (starEach es X.env)).any (·.1) = false := by rfl) :
    QE X K T W (.Call (.Attribute (.Name x xp) name apos) (e :: es) [] cpos) (tBM K "list" r (tVar i) tr) (mLM f i mr) := by
  subst hK
  exact ⟨pe_bm pa slot hty hm (pe_var hN hv hd hcd) ha.p hbase hfew hline hs hplain, sim_lm hf ha.s rfl⟩
/-! ### dicts -/
/-! ### what is walked -/
theorem i_any {tg : Expr} (h : QE X K T W e te me) (hK : X.K = K := by rfl) : QI X K T W tg e (iAny K te) (mIt me) := by subst hK; exact ⟨pi_any h.p, sim_it h.s rfl⟩
theorem i_rng1 {tg : Expr} {p : Pos} (hg : Gl X "range") (hm : X.mg "range" = none) (ha : QA X K T W [a] tr mr) (hs : starEach [a] X.env = [(false, eval a X.env)] := by rfl) : QI X K T W tg (.Call (.Name "range" p) [a] [] pos) (iRng1 tr) (fun s Q X => mr s (fun rs s1 => match dats rs with
  | some [.int j] => -(2 ^ 62) ≤ j ∧ j < 2 ^ 62 ∧ Q (intsFrom 0 j.toNat) s1
  | _ => False) X) := ⟨pi_range1 hg hm ha.p hs, sim_rng1' ha.s⟩
/-! ### targets -/
theorem g_n {i : Nat} {x : Str} (hN : X.N.Nodup) (hi : X.N[i]? = some x) (hx : Loc X.env.scope x) (hf : X.fn x = true ∨ X.env.scope.names.lookup x = some .local := by first | exact .inl rfl | exact .inr rfl | assumption) : QG X K T (.Name x pos) (gName i) (mgN i) := ⟨pg_name hN hi hx hf, simg_n, gmono_n⟩
theorem gs_nil : QGs X K T [] gNil mgNil := ⟨pgs_nil, simgs_nil, gsmono_nil⟩
theorem gs_cons {tg : TG} {tgs : TGs} {m : MG} {mm : MGs} (h1 : QG X K T e tg m) (h2 : QGs X K T es tgs mm) (hs : (assignEach (e :: es) X.env).map (·.2) = assign e X.env :: (assignEach es X.env).map (·.2) := by rfl) : QGs X K T (e :: es) (gCons tg tgs) (mgCons m mm) := ⟨pgs_cons h1.p h2.p hs, simgs_cons h1.s h2.s, gsmono_cons h1.o h2.o⟩
theorem g_tup {j : Nat} {tgs : TGs} {mm : MGs} {n : Nat} (hc : X.calm = true) (h : QGs X K T es tgs mm) (hK : X.K = K := by rfl) (hn : (assignEach es X.env).length = n := by rfl) (hst : (assignEach es X.env).findIdx? (·.1) = none := by rfl) : QG X K T (.Tuple es j pos) (gTup K n tgs) (mgT n mm) := by
  subst hK; exact ⟨pg_tup hc h.p hn hst, simg_t h.s rfl, gmono_t h.o⟩
/-! ### comprehensions -/
section
variable (X : Cx) (K : PySem.W.Frag) (T : List (Addr × Str)) (W : WX)
structure QTs (ifs : List Expr) (tt : TT) (m : MT) : Prop where
  p : PTs X ifs tt
  s : SimT K T W tt m
end
theorem ts_nil : QTs X K T W [] tYes mYes := ⟨pts_nil, sim_yes⟩
theorem ts_one (h : QT X K T W c tA mA) : QTs X K T W [c] tA mA := ⟨pts_one h.p, h.s⟩
abbrev W0 : WX := fun _ _ _ _ => False
theorem e_lc {elt tg iter : Expr} {ifs : List Expr} {scope : Scope} {own : List (Str × Nat)} {wi : TI} {g : TG} {tt : TT} {mi : MI} {mg : MG} {mt : MT} (hc : X.calm = true) (hN : X.N.Nodup) (hi : QI X K T W tg iter wi mi) (ok : BlkOk X.N X.env.scope scope own)
    (hg : ∀ (s : Shared) (H : Hp) (C : Addr) (cl : List (Str × Addr)) (fp : List Addr), QG (X.blk s H scope (compEnvC scope cl C X.env) fp) K T tg g mg) (ho : GOnly g (own.map (·.2)))
    (ht : ∀ (s : Shared) (H : Hp) (C : Addr) (cl : List (Str × Addr)) (fp : List Addr), QTs (X.blk s H scope (compEnvC scope cl C X.env) fp) K T W0 ifs tt mt)
    (he : ∀ (s : Shared) (H : Hp) (C : Addr) (cl : List (Str × Addr)) (fp : List Addr), QE (X.blk s H scope (compEnvC scope cl C X.env) fp) K T W0 elt te me)
    (hs : ∀ x, foldedSetIterable iter X.env x = pure x := by intro _; rfl) : QE X K T W (.ListComp elt [⟨tg, iter, ifs, 0⟩] scope pos) (tLc wi g tt te (own.map (·.2))) (mLc mi mg mt me (own.map (·.2))) :=
  ⟨pe_lc hc hN hi.p ok (fun s H C cl fp => (hg s H C cl fp).p) (fun s H C cl fp => (ht s H C cl fp).p) (fun s H C cl fp => (he s H C cl fp).p) hs,
    sim_lc hi.s (hg X.s_0 X.H_0 0 [] []).s ho (hg X.s_0 X.H_0 0 [] []).o (ht X.s_0 X.H_0 0 [] []).s (he X.s_0 X.H_0 0 [] []).s⟩
/-! ### statements -/
theorem b_nil : QB X K T W [] tNext mNext := ⟨pss_nil, sim_next⟩
theorem b_cons (h1 : QS X K T W st ts ms) (h2 : QB X K T W sts us ns) : QB X K T W (st :: sts) (tSeq ts us) (mSeq ms ns) := ⟨pss_cons h1.p h2.p, sim_seq h1.s h2.s⟩
theorem b_one (h1 : QS X K T W st ts ms) : QB X K T W [st] ts ms := ⟨pss_one h1.p, h1.s⟩
theorem s_expr (he : QE X K T W e te me) (hs : swapsWith e none pos.line X.env = pure false := by rfl) : QS X K T W (.Expr e pos) (tDrop te) (mDrop me) := ⟨ps_expr he.p hs, sim_drop he.s⟩
theorem s_ret (he : QE X K T W e te me) : QS X K T W (.Return (some e) pos) (tRet te) (mRet me) := ⟨ps_ret he.p, sim_ret he.s⟩
theorem s_if (hc : QT X K T W c tA mA) (h1 : QB X K T W sts ts ms) (h2 : QB X K T W stt us ns) : QS X K T W (.If c sts stt pos) (tIfS tA ts us) (mIf mA ms ns) := ⟨ps_if hc.p h1.p h2.p, sim_if hc.s h1.s h2.s⟩
theorem s_while (hp : PassesOwn (model X.prog X.w) X.A X.env X.xe) (hc : QT X K T W c tA mA) (h1 : QB X K T W sts ts ms) : QS X K T W (.While c sts [] pos) (tWhile tA ts) (mWhile mA ms) := ⟨ps_while hp hc.p h1.p, sim_while hc.s h1.s⟩
theorem s_for {tg iter : Expr} {wi : TI} {mi : MI} {g : TG} {mg : MG} (hp : PassesOwn (model X.prog X.w) X.A X.env X.xe) (hc : X.calm = true) (hi : QI X K T W tg iter wi mi) (hg : QG X K T tg g mg) (h1 : QB X K T W sts ts ms) (hs : ∀ x, foldedSetIterable iter X.env x = pure x := by intro _; rfl) :
    QS X K T W (.For tg iter sts [] pos) (tFor wi g ts) (mFor mi mg ms) := ⟨ps_for hp hc hi.p hg.p h1.p hs, sim_for hi.s hg.s h1.s⟩
theorem s_set {i : Nat} {x : Str} {pos' : Pos} (hN : X.N.Nodup) (hi : X.N[i]? = some x) (hx : Loc X.env.scope x) (he : QE X K T W e te me) (hs : swapsWith e (some (.Name x pos')) pos.line X.env = pure false := by rfl) (hf : X.fn x = true ∨ X.env.scope.names.lookup x = some .local := by first | exact .inl rfl | exact .inr rfl | assumption) :
    QS X K T W (.Assign [.Name x pos'] e pos) (tAsg te (gName i)) (mAsg i me) := ⟨ps_set hN hi hx he.p hs hf, sim_asg he.s⟩
theorem s_setLc {i : Nat} {y : Str} {py : Pos} {elt tg iter : Expr} {ifs : List Expr} {scope : Scope} {own : List (Str × Nat)} {spos : Pos} {wi : TI} {g : TG} {tt : TT} {mi : MI} {mg : MG} {mt : MT} (hc : X.calm = true) (hN : X.N.Nodup) (hy : X.N[i]? = some y) (hyl : X.env.scope.names.lookup y = some .local)
    (hsw : swapsWith (.ListComp elt [⟨tg, iter, ifs, 0⟩] scope pos) (some (.Name y py)) spos.line X.env = pure true) (hi : QI X K T W tg iter wi mi) (ok : BlkOk X.N X.env.scope scope own)
    (hg : ∀ (s : Shared) (H : Hp) (C : Addr) (cl : List (Str × Addr)) (fp : List Addr), QG (X.blk s H scope (compEnvC scope cl C X.env) fp) K T tg g mg) (ho : GOnly g (own.map (·.2)))
    (ht : ∀ (s : Shared) (H : Hp) (C : Addr) (cl : List (Str × Addr)) (fp : List Addr), QTs (X.blk s H scope (compEnvC scope cl C X.env) fp) K T W0 ifs tt mt)
    (he : ∀ (s : Shared) (H : Hp) (C : Addr) (cl : List (Str × Addr)) (fp : List Addr), QE (X.blk s H scope (compEnvC scope cl C X.env) fp) K T W0 elt te me)
    (hs : ∀ x, foldedSetIterable iter X.env x = pure x := by intro _; rfl) : QS X K T W (.Assign [.Name y py] (.ListComp elt [⟨tg, iter, ifs, 0⟩] scope pos) spos) (tAsg (tLc wi g tt te (own.map (·.2))) (gName i)) (mAsg i (mLc mi mg mt me (own.map (·.2)))) :=
  ⟨ps_setLc hc hN hy hyl hsw hi.p ok (fun s H C cl fp => (hg s H C cl fp).p) (fun s H C cl fp => (ht s H C cl fp).p) (fun s H C cl fp => (he s H C cl fp).p) hs,
    sim_asg (sim_lc hi.s (hg X.s_0 X.H_0 0 [] []).s ho (hg X.s_0 X.H_0 0 [] []).o (ht X.s_0 X.H_0 0 [] []).s (he X.s_0 X.H_0 0 [] []).s)⟩
/-- a, b = e -/
theorem s_asgG {tg : Expr} {g : TG} {mg : MG} (he : QE X K T W e te me) (hg : QG X K T tg g mg) (hs : swapsWithSole [tg] e pos.line X.env = pure false := by rfl) (hw : swappedStores [tg] e X.env = pure none := by rfl)
    (h1 : (assignEach [tg] X.env).map (·.2) = [assign tg X.env] := by rfl) : QS X K T W (.Assign [tg] e pos) (tAsg te g) (mAsgG mg (mD me)) := ⟨ps_asg he.p hg.p hs hw h1, sim_asgG (sim_d he.s) hg.s⟩
/-- a, b = x, y -/
theorem s_par {i j : Nat} {x y : Str} {px py pt : Pos} {kt k2 pt2} (hc : X.calm = true) (hN : X.N.Nodup) (hi : X.N[i]? = some x) (hj : X.N[j]? = some y) (hij : i ≠ j)
    (hx : X.env.scope.names.lookup x = some .local) (hy : X.env.scope.names.lookup y = some .local) (ha : QA X K T W [a, b] tr mr)
    (hw : swappedStores [.Tuple [.Name x px, .Name y py] kt pt] (.Tuple [a, b] k2 pt2) X.env = pure (some [x, y]))
    (hs : swapsWithSole [.Tuple [.Name x px, .Name y py] kt pt] (.Tuple [a, b] k2 pt2) pos.line X.env = pure false := by rfl) :
    QS X K T W (.Assign [.Tuple [.Name x px, .Name y py] kt pt] (.Tuple [a, b] k2 pt2) pos) (tPar i j tr) (mPar [i, j] mr) := ⟨ps_par hc hN hi hj hij hx hy ha.p hw hs, sim_par ha.s⟩
end
end Mk

/-! part MkD -/
/-! Mk, part 13: more statements; defs of the text; the draws; what is caught. -/
namespace Mk
open PySem PySem.Spec PyProof.Rows L2 Evl Lk LamX
section
variable {X : Cx} {K : PySem.W.Frag} {T : List (Addr × Str)} {W : WX} {a b c e : Expr} {es : List Expr} {ta tb tc te : TE} {ma mb mc me : ME} {pos : Pos} {tr : TA} {mr : MA}
/-- a, b, .. = x, y, .. by a tuple that nobody keeps -/
theorem s_parN {ts2 : List Expr} {n : Nat} {is : List Nat} {gs : TGs} {mg : MGs} {j1 j2} {pt pt2 : Pos} (hc : X.calm = true) (ha : QA X K T W es tr mr) (hg : QGs X K T ts2 gs mg) (hgs : gs = gNames is) (hn2 : is.length = n) (hz : n ≤ 100000) (hK : X.K = K := by rfl)
    (hn : (assignEach ts2 X.env).length = n := by rfl) (hst : (assignEach ts2 X.env).findIdx? (·.1) = none := by rfl)
    (hs : swapsWithSole [.Tuple ts2 j1 pt] (.Tuple es j2 pt2) pos.line X.env = pure false := by rfl) (hw : swappedStores [.Tuple ts2 j1 pt] (.Tuple es j2 pt2) X.env = pure none := by rfl)
    (h1 : (assignEach [.Tuple ts2 j1 pt] X.env).map (·.2) = [assign (.Tuple ts2 j1 pt) X.env] := by rfl) : QS X K T W (.Assign [.Tuple ts2 j1 pt] (.Tuple es j2 pt2) pos) (tAsg (tTup tr) (gTup K n gs)) (mPar is mr) := by
  subst hK
  exact ⟨ps_asg (pe_tup ha.p) (pg_tup hc hg.p hn hst) hs hw h1, sim_parN ha.s hgs hn2 rfl hz⟩
/-- x op= e, of ints -/
def mAug (i : Nat) (f : Int → Int → Int) (m : MD) : MS := fun s k => match s.env[i]? with
  | some (some (.dat (.int a))) => m s (fun d s1 => match d with
    | .int b => i ∉ s1.bor ∧ i < s1.env.length ∧ k.nx (putO s1 i (.dat (.int (f a b))))
    | _ => False) k.er
  | _ => False
theorem sim_aug {i : Nat} {f : Int → Int → Int} {m : MD} (h : SimD K T W te m) : SimS K T W (tAug i te (ipI f)) (mAug i f m) := fun σ0 σ H s R fps I D k hm x => by
  unfold mAug at hm
  split at hm
  · rename_i a q
    obtain ⟨v, hv, hA⟩ := I.at_ i _ q
    cases hA with
    | dat hA _ =>
      obtain rfl := dp_int hA
      refine ⟨.int a, hv, h σ0 σ H s R fps I _ k.er hm x.xok _ fun w H1 s1 d fps1 g hd q => ?_⟩
      split at q
      · rename_i b
        obtain rfl := dp_int hd
        obtain ⟨fps3, G3⟩ := put_go (v := .int (f a b)) (o := .dat (.int (f a b))) (fp := nol) (i := i) (g.alt0 fun _ z => z) (.dat (.int _) fun _ z => z) (fun _ z => z.elim) q.2.1 q.1
        exact ⟨a, b, rfl, rfl, x.nx _ H1 _ fps3 G3 q.2.2⟩
      · exact q.elim
  · exact hm.elim
theorem s_aug {i : Nat} {x : Str} {op : Operator} {f : Int → Int → Int} {pos' : Pos} (hN : X.N.Nodup) (hi : X.N[i]? = some x) (hx : Loc X.env.scope x) (he : QE X K T W e te me) (ho : PIp X op (ipI f)) (hf : X.fn x = true ∨ X.env.scope.names.lookup x = some .local := by first | exact .inl rfl | exact .inr rfl | assumption) :
    QS X K T W (.AugAssign (.Name x pos') op e pos) (tAug i te (ipI f)) (mAug i f (mD me)) := ⟨ps_aug hN hi hx he.p ho hf, sim_aug (sim_d he.s)⟩
/-- raise C('..') -/
theorem s_raise {C : Addr} {x m : Str} {j : Nat} {p p2 pos' : Pos} (hc : X.calm = true) (tk : Takes X W) (h : XcT X.K X.mg x C) (hg : Gl X x) (r : Raises X (.ref C)) (hdb : (x == ("__debug__" : Str)) = false := by decide) :
    QS X K T W (.Raise (some (.Call (.Name x p) [.Constant (.str m) j p2] [] pos)) none pos') (fun _ σ H => W (.ref C) none σ H) (mRaise C) :=
  ⟨ps_raise hc tk (pmk_own PySem.F.excBase_ValueError h.ex h.gl h.kp r hg hdb), sim_raise⟩
end
/-! ### defs -/
/-- a def of so many parameters and slots, by its body -/
def runF (p N : Nat) (b : MS) : Den := fun os n Q X => os.length = p ∧ runD N b os n Q X
theorem spM_imp {K : PySem.W.Frag} {T : List (Addr × Str)} {G G' : Den} (h : ∀ os n Q X, G os n Q X → G' os n Q X) {vs : List V} {H : Hp} {Q : VK} {E : XK} (q : spM K T G vs H Q E) : spM K T G' vs H Q E := by
  obtain ⟨os, n, R, fps, Qm, Xm, I, hm, r⟩ := q
  exact ⟨os, n, R, fps, Qm, Xm, I, h _ _ _ _ hm, r⟩
theorem spM_len {K : PySem.W.Frag} {T : List (Addr × Str)} {p N : Nat} {b : MS} {vs : List V} {H : Hp} {Q : VK} {E : XK} (q : spM K T (runF p N b) vs H Q E) : vs.length = p := by
  obtain ⟨os, n, R, fps, Qm, Xm, I, hm, _⟩ := q
  have := I.len
  rw [← hm.1]
  simpa using this
section
variable {P : Program} {w : World} {K : PySem.W.Frag} {mg : Str → Option Value} {base : Heap} {T : List (Addr × Str)} {x qual : Str} {params : Arguments} {body : List Stmt} {scope : Scope} {f : Addr} {fd : FuncData} {N ps : List Str} {k : Nat}
theorem scope_le {N ps : List Str} {scope : Scope} (S : FnScope N ps scope) : ps.length ≤ N.length := by
  have := congrArg List.length S.pre
  rw [List.length_take] at this
  omega
/-- THE RULE for a def, by its body -/
theorem fn_m {b : MS} (D : FunD K x qual params body scope [] [] f fd) (S : FnScope N ps scope)
    (h : ∀ (cdv : Value) (A : Around) (outer : List Env) (s : Shared) (H : Hp) (E : XK), Room k (A.deeper (envOfC qual scope s.heap.objs.size f cdv)) →
      ∃ t, QB (cxOf (L2.CX P w) P w K mg base N qual scope f cdv A outer s H E) K T (fun cls d _ H => E cls d H) body t b) :
    FnOk P w K mg base (L2.CX P w) (k + 1) f fd ps (spM K T (runF ps.length N.length b)) := by
  refine D.ok S (fun vs H Q E q => spM_len q) (fun cdv A outer s H vs Q E hr q => ?_)
  obtain ⟨t, ht⟩ := h cdv A outer s H E hr
  exact ⟨t, ht.p, body_ok (by rw [spM_len q]; exact scope_le S) ht.s (spM_imp (fun _ _ _ _ z => z.2) q)⟩
/-- .. that makes lambdas -/
theorem fn_ml {b : MS} {y : Str} (D : FunD K x qual params body scope [] [] f fd) (hf : f = He.fAd K (y, none)) (S : FnScope N ps scope)
    (h : ∀ (A : Around) (outer : List Env) (s : Shared) (H : Hp) (E : XK), Room k (A.deeper (envOfC qual scope s.heap.objs.size f (.ref (He.codeOf K (y, none))))) →
      ∃ t, QB (cxOf (L2.CX P w) P w K mg base N qual scope f (.ref (He.codeOf K (y, none))) A outer s H E) K T (fun cls d _ H => E cls d H) body t b) :
    FnOk P w K mg base (L2.CX P w) (k + 1) f fd ps (spM K T (runF ps.length N.length b)) := by
  obtain ⟨oc, od, dV, kV, doc, pm, an, cdv, ct, osl, rfl, lk, hcd, _, _⟩ := D.ex
  obtain ⟨c, rfl⟩ := He.codeIn_ref hcd
  have e : He.codeOf K (y, none) = c := He.codeOf_eq (by rw [← hf]; exact lk) rfl
  rw [e] at h
  refine fn_of lk hcd S (fun vs H Q E q => spM_len q) fun A outer s H vs Q E hr q => ?_
  obtain ⟨t, ht⟩ := h A outer s H E hr
  exact ⟨t, ht.p, body_ok (by rw [spM_len q]; exact scope_le S) ht.s (spM_imp (fun _ _ _ _ z => z.2) q)⟩
/-- a def that raises nothing, where one may -/
theorem fnok_cx {sp : Sp} (F : FnOk P w K mg base CX0 k f fd ps sp) : FnOk P w K mg base (L2.CX P w) k f fd ps sp := ⟨F.len, fun A outer s H args us vs Q E hr e0 hb hv hs =>
  codeAny_mono (F.run A outer s H args us vs Q E hr e0 hb hv hs) fun r s' h => by
    cases r with
    | ok fl => cases fl <;> exact h
    | error e => exact h.elim⟩
theorem cw_cx {ks : List Str} {sp : Sp} (c : Cw P w K mg base CX0 k x ks sp) : Cw P w K mg base (L2.CX P w) k x ks sp := by
  obtain ⟨f, fd, ps, F, r⟩ := c.ex
  exact ⟨f, fd, ps, fnok_cx F, r⟩
theorem cw_imp {CX : CXT} {ks : List Str} {sp sp' : Sp} (c : Cw P w K mg base CX k x ks sp) (h : ∀ vs H Q E, sp' vs H Q E → sp vs H Q E) : Cw P w K mg base CX k x ks sp' := by
  obtain ⟨f, fd, ps, F, r⟩ := c.ex
  exact ⟨f, fd, ps, F.imp h, r⟩
end
/-! ### contracts by data -/
section
variable {K : PySem.W.Frag} {T : List (Addr × Str)}
theorem iv_dats {σ0 : L2.St} {H : Hp} {n : Nat} {bo : List Nat} {R : Ad} {fps : Nat → Ad} : ∀ {ds : List PyData} {vs : List V}, Iv K T σ0 (vs.map some) H ⟨(ds.map O.dat).map some, n, bo⟩ R fps → DqAll K (hid (Wf R fps) H) vs ds := by
  intro ds vs I
  have l : vs.length = ds.length := by
    have := I.len
    simpa using this
  have key : ∀ (ds : List PyData) (vs : List V), vs.length = ds.length → (∀ (i : Nat) d, ds[i]? = some d → ∃ v, vs[i]? = some v ∧ Dq K (hid (Wf R fps) H) v d) → DqAll K (hid (Wf R fps) H) vs ds := by
    intro ds
    induction ds with
    | nil =>
      intro vs l _
      have := List.eq_nil_of_length_eq_zero l
      subst this
      exact .nil
    | cons d ds ih =>
      intro vs l h
      match vs, l with
      | v :: vs, l =>
        obtain ⟨w, e, hw⟩ := h 0 d rfl
        cases e
        exact .cons hw (ih vs (by simpa using l) fun i d hd => h (i + 1) d hd)
  refine key ds vs l fun i d hd => ?_
  obtain ⟨v, h1, h2⟩ := I.at_ i (.dat d) (by
    show ((ds.map O.dat).map some)[i]? = _
    rw [List.getElem?_map, List.getElem?_map, hd]; rfl)
  cases h2 with
  | dat h2 _ => exact ⟨v, map_at.mp h1, h2⟩
theorem mut_ex {H H' : Hp} {a : Addr} (e : Ex H H') (m : Mut (H a)) : H' a = H a := by
  cases q : H a with
  | none => rw [q] at m; exact m.elim
  | some o => exact e a o q
/-- the heap goes on by new things alone -/
theorem go_ex {σ0 σ : L2.St} {H H' : Hp} {s : S} {R : Ad} {fps : Nat → Ad} (I : Iv K T σ0 σ H s R fps) (e : Ex H H') : Go K T σ0 H s R fps σ H' s R fps := by
  have g : Gr (Wf R fps) H (Wf R fps) H' := gr_ex e fun _ _ _ n => n
  exact ⟨I.step g (fun i a q => mut_ex e (I.live (.inr ⟨i, q⟩))) I.disR (fun a q => by rw [mut_ex e (I.liv a q)]; exact I.liv a q) (I.tab.ext e), fun a q => mut_ex e (I.liv a q), g, rfl, Nat.le_refl _, fun _ z => z⟩
end
section
variable {P : Program} {w : World} {K : PySem.W.Frag} {mg : Str → Option Value} {base : Heap} {T : List (Addr × Str)} {k : Nat} {x : Str} {R : Rel} {G : Den} {ks : List Str}
end
/-! ### the draws -/
def spMixedA : Sp := fun vs H Q _ => ∃ a g c n, vs = [.ref a] ∧ StA H a g c n ∧ n < far ∧ ∀ x H', Kp a g H H' → StA H' a g c (n + 1) → Q (.int x) H'
def spDrawA : Sp := fun vs H Q _ => ∃ a g c n room, vs = [.ref a, .int room] ∧ StA H a g c n ∧ n < far ∧ 0 < room ∧ room.natAbs.log2 < 9000 ∧ ∀ x H', 0 ≤ x → x < room → Kp a g H H' → StA H' a g c (n + 1) → Q (.int x) H'
def spBegunA (K : PySem.W.Frag) : Sp := fun vs H Q _ => ∃ (l : Addr) (cs : List Int), vs = [.ref l] ∧ SqL K H l (cs.map V.int) ∧ cs.length ≤ 40000 ∧ ∀ a g c H', Ex H H' → StA H' a g c 0 → H a = none → H g = none → H c = none → Q (.ref a) H'
def dDraw : Den := fun os n Q _ => ∃ room, os = [.st, .dat (.int room)] ∧ 0 < room ∧ room.natAbs.log2 < 9000 ∧ n < far ∧ ∀ x, 0 ≤ x → x < room → Q (.dat (.int x)) os (n + 1)
def dBegun : Den := fun os n Q _ => ∃ cs : List Int, os = [.dat (.list (cs.map PyData.int))] ∧ cs.length ≤ 40000 ∧ Q .st os n
section
variable {K : PySem.W.Frag} {T : List (Addr × Str)}
theorem sp_draw {vs : List V} {H : Hp} {Q : VK} {E : XK} (h : spM K T dDraw vs H Q E) : spDrawA vs H Q E := by
  obtain ⟨os, n, R, fps, Qm, Xm, I, ⟨room, rfl, h0, hz, hn, q⟩, hQ, hE⟩ := h
  obtain ⟨v0, e0, A0⟩ := I.at_ 0 .st rfl
  obtain ⟨v1, e1, A1⟩ := I.at_ 1 (.dat (.int room)) rfl
  have l : vs.length = 2 := by
    have := I.len
    simpa using this
  cases A0 with
  | st s0 z0 =>
    rename_i a g c
    cases A1 with
    | dat A1 z1 =>
      obtain rfl := dp_int A1
      have ev : vs = [.ref a, .int room] := by
        match vs, l with
        | [x, y], _ =>
          cases e0; cases e1; rfl
      subst ev
      refine ⟨a, g, c, n, room, rfl, s0, hn, h0, hz, fun x H' x0 x1 kp st => ?_⟩
      have wa : ∀ b, (b = a ∨ b = g) → Wf R fps b := fun b z => .inr ⟨0, (z0 b).mpr (z.elim .inl fun y => .inr (.inl y))⟩
      have keep : ∀ b, b ≠ a → b ≠ g → Mut (H b) → H' b = H b := fun b n1 n2 m => by
        cases q : H b with
        | none => rw [q] at m; exact m.elim
        | some o => exact kp b o q n1 n2
      have g : Gr (Wf R fps) H (Wf R fps) H' := gr_of (fun b o h n _ => kp b o h (fun z => n (wa b (.inl z))) fun z => n (wa b (.inr z))) fun _ _ _ n => n
      have nR : ∀ b, R b → b ≠ a ∧ b ≠ _ := fun b z => ⟨fun y => I.disR 0 b ((z0 b).mpr (.inl y)) z, fun y => I.disR 0 b ((z0 b).mpr (.inr (.inl y))) z⟩
      have f0 : ∀ i b, fps i b → i = 0 := fun i b z => by
        cases i with
        | zero => rfl
        | succ i =>
          cases i with
          | zero => exact (z1 b z).elim
          | succ i => exact (I.emp (i + 2) (fun o e => by cases e) b z).elim
      have tb : Tabs T H' := fun p hp => by
        obtain ⟨gs, cs, r, t, sd, _⟩ := s0
        obtain ⟨ps, t1, t2, t3⟩ := I.tab p hp
        have ne : ∀ b o, H b = some o → (∀ kvs, o ≠ .dK kvs) → (∀ xs, o ≠ .lst xs) → H' b = some o := fun b o h n1 n2 => kp b o h (by
          rintro rfl
          exact n1 _ (Option.some.inj (h.symm.trans sd.hd))) (by
          rintro rfl
          exact n2 _ (Option.some.inj (h.symm.trans sd.hg)))
        refine ⟨ps, ne _ _ t1 (fun _ z => nomatch z) (fun _ z => nomatch z), t2, fun pos cv hc => ?_⟩
        obtain ⟨cc, e1, e2⟩ := t3 pos cv hc
        exact ⟨cc, e1, ne _ _ e2 codeO_nd.1 codeO_nd.2⟩
      refine hQ (.int x) H' _ _ (n + 1) nol fps (Go.alt0 ⟨⟨rfl, fun i o e => ?_, I.emp, I.dis, I.disR, fun b z => ?_, tb, fun _ z => nomatch z⟩, fun b z => keep b (nR b z).1 (nR b z).2 (I.liv b z), g, rfl, Nat.le_succ _, fun _ z => z⟩ fun _ z => z) (.dat (.int _) fun _ z => z) (fun _ z => z.elim) (q x x0 x1)
      · match i, e with
        | 0, e => cases e; exact ⟨_, rfl, .st st z0⟩
        | 1, e => cases e; exact ⟨_, rfl, .dat (.int _) z1⟩
        | _ + 2, e => cases e
      · rw [keep b (nR b z).1 (nR b z).2 (I.liv b z)]
        exact I.liv b z
theorem sp_begun {vs : List V} {H : Hp} {Q : VK} {E : XK} (h : spM K T dBegun vs H Q E) : spBegunA K vs H Q E := by
  obtain ⟨os, n, R, fps, Qm, Xm, I, ⟨cs, rfl, hl, q⟩, hQ, hE⟩ := h
  have hd := iv_dats (ds := [.list (cs.map PyData.int)]) I
  obtain _ | ⟨h1, _ | _⟩ := hd
  obtain ⟨l, xs, rfl, h2, h3⟩ := dp_lst h1
  obtain rfl := dps_ints_of h3
  refine ⟨l, cs, rfl, ex_l hid_ex h2, hl, fun a g c H' ex st na ng nc => ?_⟩
  have G := go_ex I ex
  have fr : ∀ b, (b = a ∨ b = g ∨ b = c) → H b = none := fun b z => by
    rcases z with rfl | rfl | rfl
    · exact na
    · exact ng
    · exact nc
  have nW : ∀ b, (b = a ∨ b = g ∨ b = c) → ¬ Wf R fps b := fun b z => I.fresh (fr b z)
  let fp : Ad := fun b => b = a ∨ b = g ∨ b = c
  have g2 : Gr (Wf R fps) H (Wf (alt R fp) fps) H' := gr_ex ex fun b o h n z => by
    rcases z with (z | z) | z
    · exact n (.inl z)
    · rw [fr b z] at h; cases h
    · exact n (.inr z)
  have stm := st.mono (Nat.zero_le n)
  have hA : At K (hid (Wf (alt R fp) fps) H') H' n (.ref a) .st fp := .st stm fun _ => Iff.rfl
  refine hQ (.ref a) H' .st _ n fp fps ⟨I.step g2 (fun i b z => mut_ex ex (I.live (.inr ⟨i, z⟩))) (fun i b z y => ?_) (fun b z => ?_) (I.tab.ext ex), G.kp, g2, rfl, Nat.le_refl _, fun _ z => .inl z⟩ hA (fun b z y => nW b z (.inl y)) q
  · rcases y with y | y
    · exact I.disR i b z y
    · exact nW b y (.inr ⟨i, z⟩)
  · rcases z with z | z
    · rw [mut_ex ex (I.liv b z)]; exact I.liv b z
    · exact hA.live z
end
end Mk

/-! part MkE -/
/-! Mk, part 14: calls by names in another order, reversed tuples, items stored, dicts read. -/
namespace Mk
open PySem PySem.Spec PyProof.Rows L2 Evl Lk LamX
def mCall0 (G : Den) (m : MA) : ME := fun s Q X => mCall G m s Q fun _ _ => False
def mRng1 (m : MA) : MI := fun s Q X => m s (fun rs s1 => match dats rs with
  | some [.int j] => -(2 ^ 62) ≤ j ∧ j < 2 ^ 62 ∧ Q (intsFrom 0 j.toNat) s1
  | _ => False) X
def mRng2 (m : MA) : MI := fun s Q X => m s (fun rs s1 => match dats rs with
  | some [.int i, .int j] => (-(2 ^ 62) ≤ i ∧ i < 2 ^ 62 ∧ -(2 ^ 62) ≤ j ∧ j < 2 ^ 62) ∧ Q (intsFrom i (j - i).toNat) s1
  | _ => False) X
/-- two parameters, the other way round -/
def swap2 (G : Den) : Den := fun os n Q X => match os with
  | [a, b] => G [b, a] n (fun o os' n' => match os' with
    | [c, d] => Q o [d, c] n'
    | _ => False) (fun C os' n' => match os' with
    | [c, d] => X C [d, c] n'
    | _ => False)
  | _ => False
/-- t[::-1] -/
def fRev : PyData → FO
  | .tuple ds, Q => Q (.dat (.tuple ds.reverse))
  | _, _ => False
section
variable {K : PySem.W.Frag} {T : List (Addr × Str)} {W : WX}
end
/-! ### items of a list of one's own -/
def mLPut (i : Nat) (mk mv : MD) : MS := fun s k => mv s (fun d s1 => isLst s1 i ∧ mk s1 (fun y s2 => match s2.env[i]?, y with
  | some (some (.lst ds)), .int j => match ixN ds.length j with
    | some n => k.nx (putO s2 i (.lst (ds.set n d)))
    | none => False
  | _, _ => False) k.er) k.er
theorem dps_set {K : PySem.W.Frag} {F : Hp} : ∀ {vs : List V} {ds : List PyData} (n : Nat) {v : V} {d : PyData}, DqAll K F vs ds → Dq K F v d → DqAll K F (vs.set n v) (ds.set n d)
  | _, _, _, _, _, .nil, _ => .nil
  | _, _, 0, _, _, .cons _ r, h => .cons h r
  | _, _, n + 1, _, _, .cons q r, h => .cons q (dps_set n r h)
section
variable {K : PySem.W.Frag} {T : List (Addr × Str)} {W : WX}
/-- d[k] -/
def mGetD (m : ME) (mk : MD) : ME := fun s Q X => m s (fun r s1 => mk s1 (fun k s2 => match dctOf s2 r, keyOf k with
  | some kvs, some k => match getK kvs k with
    | some d => Q (.val (.dat d)) s2
    | none => False
  | _, _ => False) X) X
end
end Mk

/-! part MkF -/
/-! Mk, part 15: packaged rules of parts 14: reversed tuples, items stored, dicts read, names in another order, sorted sets, what is caught. -/
namespace Mk
open PySem PySem.Spec PyProof.Rows L2 Evl Lk LamX
/-- sorted(set(l)) of whole numbers -/
def fSortSetI : PyData → FO
  | .list ds, Q => ∃ ns : List Int, ds = ns.map PyData.int ∧ ns.length < 64 ∧ ∀ out : List Int, out.Pairwise (· < ·) → (∀ k, k ∈ out ↔ k ∈ ns) → Q (.lst (out.map PyData.int))
  | _, _ => False
def rSortI (K : PySem.W.Frag) : V → Hp → VK → Prop := fun x H1 Q => ∃ (p : Addr) (ns : List Int), x = .ref p ∧ SqL K H1 p (ns.map V.int) ∧ ns.length < 64 ∧ ∀ (out : List Int) (q : Addr), out.Pairwise (· < ·) → (∀ k, k ∈ out ↔ k ∈ ns) → H1 q = none → Q (.ref q) (upd H1 q (.lst (out.map V.int)))
section
variable {K : PySem.W.Frag}
theorem dpsI {F : Hp} : ∀ (l : List Int), DqAll K F (l.map V.int) (l.map PyData.int)
  | [] => .nil
  | i :: l => .cons (.int i) (dpsI l)
theorem ps_sortI : PS1 K (rSortI K) fSortSetI := by
  intro F H x d Qo Q ex hx hf k
  cases d <;> first
    | exact hf.elim
    | skip
  obtain ⟨ns, rfl, hl, hf⟩ := hf
  obtain ⟨a, xs, rfl, h1, h2⟩ := hx.list ex
  obtain rfl := dps_ints_of h2
  exact ⟨a, ns, rfl, h1, hl, fun out q h3 h4 hq => k _ _ _ (.lst hq (dpsI out)) (hf out h3 h4)⟩
end
section
variable {X : Cx} {K : PySem.W.Frag} {T : List (Addr × Str)} {W : WX} {a b c e o : Expr} {es : List Expr} {ta tb tc te to : TE} {ma mb mc me mo : ME} {pos p1 p2 p3 : Pos} {tr : TA} {mr : MA} {k : Nat}
theorem e_sortSetI {p q : Pos} (hc : X.calm = true) (_hu : X.A.units + 64 < cLine) (hg : Gl X "sorted") (hm : X.mg "sorted" = none) (hg2 : Gl X "set") (hm2 : X.mg "set" = none) (ha : QE X K T W a ta ma) (hK : X.K = K := by rfl)
    (na : starEach [a] X.env = (false, eval a X.env) :: starEach [] X.env := by rfl) : QE X K T W (.Call (.Name "sorted" p) [.Call (.Name "set" p2) [a] [] q] [] pos) (tSortI K ta) (mUn fSortSetI ma) := by
  subst hK
  exact ⟨pe_sortI hc hg hm hg2 hm2 ha.p na, (sim_un ps_sortI ha.s : SimE X.K T W (tUn (rSortI X.K) ta) (mUn fSortSetI ma))⟩
end
section
variable {X : Cx} {K : PySem.W.Frag} {T : List (Addr × Str)} {W : WX} {a b c : Expr} {pos : Pos} {tr : TA} {mr : MA}
end
/-! ### two names, the other way round -/
section
variable {K : PySem.W.Frag} {T : List (Addr × Str)} {σ : L2.St} {H H' : Hp} {n n' : Nat} {x y : Option V} {a b : Option O} {R : Ad} {f f' : Nat → Ad}
end
section
variable {K : PySem.W.Frag} {T : List (Addr × Str)} {W : WX}
theorem sim_callP {G : Den} {ta : TA} {m : MA} {B : List V → Hp → VK → Prop} (hB : ∀ vs H Q, spM K T G vs H Q E0 → B vs H Q) (ha : SimA K T W ta m) : SimE K T W (fun σ H Q => ta σ H fun vs H1 => B vs H1 Q) (mCall0 G m) := by
  intro σ0 σ H s R fps I Qm Xm hm hx Q hQ
  refine ha σ0 σ H s R fps I _ (fun _ _ => False) hm (fun _ _ _ _ _ z => z.elim) _ fun vs H1 s1 rs l fps1 g hrs ap nR q => hB _ _ _ ?_
  split at q
  · rename_i os e
    obtain ⟨nd, q⟩ := q
    obtain ⟨I1, eW⟩ := call_in g.iv hrs e ap nd
    refine ⟨os, s1.n, _, _, _, _, I1, q, fun v H2 o os' n' fp fpc g2 hA nfp z => ?_, fun C H2 os' n' fpc g2 z => z.elim⟩
    obtain ⟨fps2, g3, gs, nf⟩ := call_out g hrs nR e ap nd g2 nfp
    obtain ⟨b1, b2, b3⟩ := backs_len rs os' ⟨s1.env, n', s1.bor⟩
    refine hQ v H2 _ (.val o) fp fps2 g3 (.val ?_) nf z
    rw [b2]
    exact hA.keep gs (fun _ _ => rfl) (Nat.le_refl _)
  · exact q.elim
end
/-- .. called so -/
structure Cdv (P : Program) (w : World) (K : PySem.W.Frag) (mg : Str → Option Value) (base : Heap) (T : List (Addr × Str)) (k : Nat) (x : Str) (ks : List Str) (G : Den) : Prop where
  ex : ∃ (f : Addr) (fd : FuncData) (ps : List Str), FnOk P w K mg base (L2.CX P w) k f fd ps (spM K T G) ∧ mg x = some (.ref f) ∧ PySem.W.keepIn K (.ref f) = true ∧ KBinds K fd ps ks (fun us ws => us ++ ws.reverse) (fun vs zs => vs ++ zs.reverse)
section
variable {X : Cx} {K : PySem.W.Frag} {T : List (Addr × Str)} {W : WX} {k j : Nat} {x : Str} {G : Den} {p pos : Pos} {kws : List Keyword} {ks : List Str} {tr : TA} {mr : MA}
end
end Mk

/-! part MkH -/
/-! Mk, part 20: whether what was caught is None. -/
namespace Mk
open PySem PySem.Spec PyProof.Rows L2 Evl Lk LamX
def mIsNone (neg : Bool) (m : ME) : ME := fun s Q X => m s (fun r s1 => match r with
  | .val (.exc _) => Q (.val (.dat (.bool neg))) s1
  | .val (.dat .none) => Q (.val (.dat (.bool (!neg)))) s1
  | _ => False) X
section
variable {K : PySem.W.Frag} {T : List (Addr × Str)} {W : WX} {X : Cx}
theorem ref_non (a : Addr) : decide (V.ref a = V.non) = false := decide_eq_false fun z => by cases z
theorem sim_isNE {te : TE} {m : ME} (h : SimE K T W te m) : SimE K T W (tOp (fun x y H Q => y = .non ∧ Q (.bl (decide (x = .non))) H) te (tC .non)) (mIsNone false m) := by
  intro σ0 σ H s R fps I Qm Xm hm hx Q hQ
  refine h σ0 σ H s R fps I _ Xm hm hx _ fun v H1 s1 r fp fps1 g1 hr nR q => ?_
  have g2 := g1.drop (R2 := R) (fun _ z => z) fun _ z => .inl z
  split at q
  · cases hr with
    | val hr =>
      cases hr with
      | exc hr _ =>
        refine ⟨rfl, ?_⟩
        show Q (.bl (decide (V.ref _ = V.non))) H1
        rw [ref_non]
        exact out_e g2 (fun _ => .bl _) hQ q
  · cases hr with
    | val hr =>
      cases hr with
      | dat hr _ =>
        obtain rfl := dp_none hr
        exact ⟨rfl, out_e g2 (fun _ => .bl _) hQ q⟩
  · exact q.elim
variable {a : Expr} {ta : TE} {ma : ME} {pos p : Pos}
theorem e_isNE {j} (ha : QE X K T W a ta ma) (hm : behindInMarks .Is (.Constant .none j p) = false) : QE X K T W (.Compare a [.Is] [.Constant .none j p] pos) (tOp (fun x y H Q => y = .non ∧ Q (.bl (decide (x = .non))) H) ta (tC .non)) (mIsNone false ma) := ⟨pe_cmpR op_isN ha.p pe_non hm, sim_isNE ha.s⟩
def noneK (neg : Bool) (r : Rs) (s : S) (P : Rs → S → Prop) : Prop := match r with
  | .val (.exc _) => P (.val (.dat (.bool neg))) s
  | .val (.dat .none) => P (.val (.dat (.bool (!neg)))) s
  | _ => False
theorem x_isNone {neg : Bool} {m : ME} {s : S} {P : Rs → S → Prop} {Y : XM} (h : m s (fun r s1 => noneK neg r s1 P) Y) : mIsNone neg m s P Y := h
theorem x_noneX {neg : Bool} {C : Addr} {s : S} {P : Rs → S → Prop} (h : P (.val (.dat (.bool neg))) s) : noneK neg (.val (.exc C)) s P := h
theorem x_noneN {neg : Bool} {s : S} {P : Rs → S → Prop} (h : P (.val (.dat (.bool (!neg)))) s) : noneK neg (.val (.dat .none)) s P := h
end
end Mk

/-! part MkG -/
/-! Mk, part 16: the head: what the top has written, contracts of defs, the law's call. -/
namespace Mk
open PySem PySem.Spec PyProof.Rows L2 Evl Lk LamX
theorem excB_ok {K : PySem.W.Frag} {x : Str} (h : excB K x = true) : ExcC K (He.ga K x) := by
  unfold excB at h
  simp only [Bool.and_eq_true, decide_eq_true_eq] at h
  obtain ⟨h1, h2, h3, h4, h5, h6, h7, h8⟩ := h
  exact ⟨He.eqO_ok h1, He.eqO_ok h2, h3, h4, He.eqO_ok h5, He.eqO_ok h6, h7, h8⟩
theorem lam_one {T : List (Addr × Str)} (nd : (T.map (·.1)).Nodup) {a : Addr} {q : Str} (h : (a, q) ∈ T) : ∀ p ∈ T, p.1 = a → p.2 = q := by
  induction T with
  | nil => cases h
  | cons t T ih =>
    rw [List.map_cons, List.nodup_cons] at nd
    intro p hp e
    rcases List.mem_cons.mp h with h' | h'
    · rcases List.mem_cons.mp hp with hp | hp
      · subst hp; rw [← h']
      · exact (nd.1 (by rw [← h']; show a ∈ T.map (·.1); rw [← e]; exact List.mem_map_of_mem (f := fun z : Addr × Str => z.1) hp)).elim
    · rcases List.mem_cons.mp hp with hp | hp
      · subst hp
        exact (nd.1 (by rw [e]; exact List.mem_map_of_mem (f := fun z : Addr × Str => z.1) h')).elim
      · exact ih nd.2 h' p hp e
section
variable {P : Program} {w : World} {K : PySem.W.Frag} {mg : Str → Option Value} {base : Heap} {T : List (Addr × Str)} {CX : CXT} {k : Nat} {x : Str} {sp : Sp} {f : Addr} {fd : FuncData} {ps ks : List Str} {G : Den}
theorem cd_mk (o : FnOk P w K mg base (L2.CX P w) k f fd ps (spM K T G)) (g : mg x = some (.ref f)) (kp : PySem.W.keepIn K (.ref f) = true) (b : L2.Binds K fd ps []) : Cd P w K mg base T k x G := ⟨_, _, _, o, g, kp, b⟩
theorem cdk_mk (o : FnOk P w K mg base (L2.CX P w) k f fd ps (spM K T G)) (g : mg x = some (.ref f)) (kp : PySem.W.keepIn K (.ref f) = true) (b : KBinds K fd ps ks (fun us ws => us ++ ws) (fun vs zs => vs ++ zs)) : Cdk P w K mg base T k x ks G := ⟨_, _, _, o, g, kp, b⟩
theorem ok_never : FnOk P w K mg base CX k f fd ps (spM K T fun _ _ _ _ => False) :=
  ⟨fun vs H Q E h => by obtain ⟨_, _, _, _, _, _, _, z, _⟩ := h; exact z.elim, fun A outer s H args us vs Q E _ _ _ _ h => by obtain ⟨_, _, _, _, _, _, _, z, _⟩ := h; exact z.elim⟩
/-- the law's own call -/
theorem sp_law {H : Hp} {a : Addr} {ns : List Int} (t : Tabs T H) (hl : SqL K H a (ns.map V.int))
    (h : G [.dat (.list (ns.map PyData.int))] 0 (fun o _ _ => o = .dat (.bool true)) (fun _ _ _ => False)) : spM K T G [.ref a] H (fun v _ => v = .bl true) fun _ _ _ => False := by
  have hl2 : SqL K (hid (Wf nol fun _ => nol) H) a (ns.map V.int) := by
    have nW : ∀ b, ¬ Wf nol (fun _ => nol) b := fun b z => z.elim id fun ⟨_, z⟩ => z
    rcases hl with (hl | ⟨o, hl⟩) | hl
    · exact .inl (.inl (hid_some.mpr ⟨hl, nW _, fun _ z => nomatch z⟩))
    · exact .inl (.inr ⟨o, hid_some.mpr ⟨hl, nW _, fun _ z => nomatch z⟩⟩)
    · exact .inr hl
  refine ⟨_, 0, nol, fun _ => nol, _, _, ⟨rfl, fun i o e => ?_, fun _ _ _ z => z, fun _ _ _ z => z.elim, fun _ _ z => z.elim, fun _ z => z.elim, t, fun _ z => nomatch z⟩, h, fun v H' o os' n' fp fps' _ hA _ q => ?_, fun _ _ _ _ _ _ z => z⟩
  · match i, e with
    | 0, e =>
      cases e
      exact ⟨.ref a, rfl, .dat (.lst hl2 (dpsI ns)) fun _ z => z⟩
    | _ + 1, e => cases e
  · subst q
    cases hA with
    | dat h _ => exact dp_bool h
end
end Mk

/-! part MkI -/
/-! Mk, part 21: enumerate, of a list or of a tuple. -/
namespace Mk
open PySem PySem.Spec PyProof.Rows L2 Evl Lk LamX
set_option maxHeartbeats 1000000 in
theorem enum_made {v : Value} {o : Obj} {G : Heap → Prop} (bg : Begins v o G) :
    Meets (Builtin.«enumerate.__new__» ⟨[.type "enumerate", v], []⟩) (fun _ R s => G s.heap ∧ R (.ok (.ret (.ref (s.heap.push o).objs.size)))
      { s with heap := (s.heap.push o).push { cls := .type "enumerate", data := .fields #[.none, .bool false, .ref s.heap.objs.size, rawInt 0, .none, .none] } }) := .of_wp fun prog w A R s z => by
  obtain ⟨hp, g, d, tk, os⟩ := s
  obtain ⟨z1, z2⟩ := z
  have sube := sub_enumerate
  have go : ∀ {A' : Around} {E Q : Value → Shared → Prop}, Q (.ref hp.objs.size) ⟨hp.push o, g, d, tk, os⟩ → wpAny (model prog w) A' (pyIter v) Q E ⟨hp, g, d, tk, os⟩ := fun q => bg.iter prog w _ _ ⟨hp, g, d, tk, os⟩ _ z1 q
  wp_walk using go
  refine wpAny_stack_any fun _ => wpAny_pure ?_
  split
  · rename_i c _ _ _ _ _
    cases (c == Value.type "enumerate") <;> (wp_walk using go; exact ⟨_, rfl, z2⟩)
  · wp_walk using go
    exact ⟨_, rfl, z2⟩
section
variable {prog : Program} {w : World} {A : Around} {E Q : Value → Shared → Prop} {s : Shared}
theorem enum_of {v : Value} {o : Obj} {G : Heap → Prop} (bg : Begins v o G) (z : G s.heap)
    (k : ∀ h', IsEnum h' (s.heap.objs.size + 1) s.heap.objs.size 0 .none → h'.get? s.heap.objs.size = some o → h'.objs.size = s.heap.objs.size + 2 → (∀ b u, s.heap.get? b = some u → h'.get? b = some u) → Q (.ref (s.heap.objs.size + 1)) { s with heap := h' }) :
    wpAny (model prog w) A (call (.type "enumerate") [v]) Q E s := by
  refine callType_new F.called_enumerate (by decide) (F.typeCall_enumerate_1 _) (F.newCall_enumerate_1 _) (fun obj => F.args_object_init_2 obj _) F.entry_enumerate_new (enum_made bg) ⟨z, ?_⟩
  have hz : (s.heap.push o).objs.size = s.heap.objs.size + 1 := Heap.size_push ..
  show _ ∧ _
  rw [hz]
  have he : IsEnum ((s.heap.push o).push { cls := .type "enumerate", data := .fields #[.none, .bool false, .ref s.heap.objs.size, rawInt 0, .none, .none] }) (s.heap.objs.size + 1) s.heap.objs.size 0 .none := by
    have := Heap.get?_push_size (s.heap.push o) (o := { cls := .type "enumerate", data := .fields #[.none, .bool false, .ref s.heap.objs.size, rawInt 0, .none, .none] }) rfl
    rw [hz] at this; exact this
  exact ⟨⟨_, he, rfl⟩, k _ he (Heap.get?_push_of_some _ (Heap.get?_push_size _ bg.free)) (by rw [Heap.size_push, hz]) fun b u x => Heap.get?_push_of_some _ (Heap.get?_push_of_some _ x)⟩
end
/-- the tuple at a, each item in a new pair -/
def IteT (K : PySem.W.Frag) (a : Addr) : It where
  go := fun i H => ∃ (xs : List V) (x : V), SqT K H a xs ∧ xs[i]? = some x
  yld := fun i H v H' => ∃ T x, v = .ref T ∧ H T = none ∧ H' = upd H T (.tup [.int (i : Nat), x]) ∧ ∀ xs, SqT K H a xs → xs[i]? = some x
  stop := fun i H => ∃ xs : List V, SqT K H a xs ∧ xs.length ≤ i
theorem turn_enumT {P : Program} {w : World} {K : PySem.W.Frag} {elts : List Expr} {kk : Nat} {tpos : Pos} (a e it : Addr) :
    Turn P w K (.Tuple elts kk tpos) (IteT K a) [e, it] e (fun i h => (∃ old, IsEnum h e it ((i : Nat) : Int) old) ∧ h.IsTupleIter it a i ∧ e ≠ it) where
  mem := by simp
  obj := fun i h ⟨⟨old, he⟩, ⟨o, ho, hc, hd⟩, _⟩ b hb => by
    rcases (show b = e ∨ b = it by simpa using hb) with rfl | rfl
    · exact ⟨_, he, fun v q => nomatch q⟩
    · exact ⟨o, ho, fun v q => by rw [hd] at q; cases q⟩
  keep := fun i h h' ⟨⟨old, he⟩, hi, hne⟩ k => ⟨⟨old, k e (by simp) _ he⟩, hi.at fun o q => k it (by simp) o q, hne⟩
  item := by
    intro X eP eW eK hc i pins s σ H E I hf st ⟨xs, x, hq, hx⟩
    subst eP eW eK
    obtain ⟨⟨old, he⟩, hit, hne⟩ := st
    obtain ⟨its, rv, p, hz⟩ := I.tuple hq
    obtain ⟨u, hu, ru⟩ := rv.get hx
    have pt : s.heap.IsTuple a its.toArray := p
    have na : a ≠ it := fun z => by
      subst z
      obtain ⟨o, q1, c1, _⟩ := pt
      obtain ⟨o', q2, c2, _⟩ := hit
      rw [q1] at q2; cases q2
      rw [c1] at c2
      exact absurd (Value.type.inj c2) (by decide)
    have nea : e ≠ a := fun z => by
      subst z
      obtain ⟨o, q1, c1, _⟩ := pt
      have q2 : s.heap.get? e = _ := he
      rw [q1] at q2; cases q2
      exact absurd (Value.type.inj c1) (by decide)
    have hel : e < s.heap.objs.size := Heap.lt_size he
    have hil : it < s.heap.objs.size := by obtain ⟨_, q, _⟩ := hit; exact Heap.lt_size q
    have D := Draws.tuple (prog := X.prog) (w := X.w) (A := X.A.in1) (I.ok.hd hc) it a na its.toArray
    refine wpAny_pyNext_enum_itemD D he ⟨hit, pt⟩ (by have := rv.length; have := List.getElem?_eq_some_iff.mp hx; obtain ⟨hlt, _⟩ := this; simp; omega) hne (by simp; exact ⟨hne, nea⟩) fun y h' tk hy ho hst hT hsz hk => ?_
    have ey : y = u := by
      have : its.toArray[i]? = some u := by simpa using hu
      rw [this] at hy
      exact (Option.some.inj hy).symm
    subst ey
    refine ⟨_, rfl, wpAny_letOwnedTupleGo_enum (s := { s with heap := h', toks := tk + 1 }) ho fun h2 he' sb => ?_⟩
    have hT2 : h2.get? s.heap.objs.size = some { cls := .type "tuple", data := .seq #[.int i tk, y] } := (sb.2 _ (Nat.ne_of_gt hel)).trans hT
    have new : ObjOk X.prog X.w (upd H s.heap.objs.size (.tup [.int (i : Nat), x])) h2 s.heap.objs.size (.tup [.int (i : Nat), x]) :=
      ⟨show 2 ≤ sizeLine by decide, [.int i tk, y], .cons ⟨_, rfl⟩ (.cons ru .nil), _, hT2, rfl, _, rfl⟩
    have I1 : Inv X pins σ (upd H s.heap.objs.size (.tup [.int (i : Nat), x])) { s with heap := h2, toks := tk + 1 } :=
      I.turnedNew (ch := [e, it]) (fun b ob hb q => by
        have n1 : b ≠ e := fun z => hb (by simp [z])
        have n2 : b ≠ it := fun z => hb (by simp [z])
        exact (sb.2 b n1).trans (hk b ob n1 n2 q)) hf (Nat.le_refl _) new
    refine ⟨.ref s.heap.objs.size, _, I1, rfl, ⟨_, x, rfl, I.hok.fresh (Nat.le_refl _), rfl, fun ys hy => by rw [I.tuple_inj hy hq]; exact hx⟩, ⟨⟨y, ?_⟩, hst.1.at fun o q => (sb.2 it (Ne.symm hne)).trans q, hne⟩, fun b hb => ?_⟩
    · rw [show ((i + 1 : Nat) : Int) = (i : Int) + 1 by omega]; exact he'
    · have lt : b < s.heap.objs.size := by
        rcases (show b = e ∨ b = it by simpa using hb) with rfl | rfl
        · exact hel
        · exact hil
      rw [upd_ne (Nat.ne_of_lt lt)]
      exact (hf b hb).1
  done := by
    intro X eP eW eK hc i pins s σ H E I hf st ⟨xs, hq, hx⟩
    subst eP eW eK
    obtain ⟨⟨old, he⟩, hit, hne⟩ := st
    obtain ⟨its, rv, p, hz⟩ := I.tuple hq
    have pt : s.heap.IsTuple a its.toArray := p
    have na : a ≠ it := fun z => by
      subst z
      obtain ⟨o, q1, c1, _⟩ := pt
      obtain ⟨o', q2, c2, _⟩ := hit
      rw [q1] at q2; cases q2
      rw [c1] at c2
      exact absurd (Value.type.inj c2) (by decide)
    obtain ⟨f0, f1, f2, f3, f4, f5⟩ := hf it (by simp)
    have hl := rv.length
    have D : Draws X.prog X.w X.A.in1 it [it, a] i (fun _ _ => True) (fun j h => (h.IsTupleIter it a j ∧ h.IsTuple a its.toArray) ∧ j = i) :=
      { live := fun _ _ st => let ⟨o, ho, _⟩ := st.1.1; ⟨o, ho⟩
        frame := fun _ _ _ st hk => ⟨⟨st.1.1.at fun o e => hk it (by simp) o e, st.1.2.at fun o e => hk a (by simp) o e⟩, st.2⟩
        item := fun j s Q E hj st hQ => by have := st.2; omega
        done := fun s Q E st hE => wpAny_nextOf_tuple_end (I.ok.hd hc) st.1.1 st.1.2 (by simp; omega) hE }
    exact wpAny_pyNext_enum_endD D he ⟨⟨hit, pt⟩, rfl⟩ fun h' eb => ⟨rfl, I.turned (t' := s.toks) (fun b o hb q => eb b o hb q) f0 f1 f3 f4 f5⟩
  self := fun A i s Q E ⟨⟨_, he⟩, _⟩ h => wpAny_pyIter_enum he h
def iEnumA (K : PySem.W.Frag) (te : TE) : TI := fun σ H R => te σ H fun x H1 => (∃ a, x = .ref a ∧ (∃ xs, SqL K H1 a xs) ∧ R (Ite K a) H1) ∨ ∃ a, x = .ref a ∧ (∃ xs, SqT K H1 a xs) ∧ R (IteT K a) H1
theorem pi_enumA {X : Cx} {e : Expr} {te : TE} {p pos tpos : Pos} {elts : List Expr} {kk : Nat} (hg : Gl X "enumerate") (hm : X.mg "enumerate" = none) (he : PE X e te) (ha : PA X [e] (tCons te tNil)) (hs : starEach [e] X.env = [(false, eval e X.env)] := by rfl) :
    PI X (.Tuple elts kk tpos) (.Call (.Name "enumerate" p) [e] [] pos) (iEnumA X.K te) := by
  refine ⟨fun pins s σ H R I h => Call_ (ld_blt I hg hm boot_enumerate (PyProof.Rows.callWith_type1 (thn (ha.run pos pins s σ H (fun vs H1 => ∃ v, vs = [v] ∧ ((∃ a, v = .ref a ∧ (∃ xs, SqL X.K H1 a xs) ∧ R (Ite X.K a) H1) ∨ ∃ a, v = .ref a ∧ (∃ xs, SqT X.K H1 a xs) ∧ R (IteT X.K a) H1)) I ?_) fun us s1 ⟨vs, H1, I1, r1, q1⟩ => ?_) hs rfl))⟩
  · show te σ H fun x H1 => _
    refine Eq.mp (congrArg (te σ H) ?_) h
    funext x H1
    exact propext ⟨fun z => ⟨x, rfl, z⟩, fun ⟨v, e, z⟩ => by cases e; exact z⟩
  obtain ⟨v, rfl, q1⟩ := q1
  cases r1 with
  | cons r rr =>
    cases rr
    have room : ∀ b ∈ [s1.heap.objs.size + 1, s1.heap.objs.size], FpOk X pins H1 b := fun b hb => by
      have hle : s1.heap.objs.size ≤ b := by
        rcases (show b = s1.heap.objs.size + 1 ∨ b = s1.heap.objs.size by simpa using hb) with z | z <;> omega
      exact I1.fpOk hle (I1.hok.fresh hle)
    rcases q1 with ⟨a, rfl, ⟨xs, hq⟩, q⟩ | ⟨a, rfl, ⟨xs, hq⟩, q⟩
    · cases r
      obtain ⟨its, rv, lp, hz⟩ := I1.list hq
      refine enum_of (begins_list a its.toArray) lp.isList fun h' he hit hsz hk => wpAny_pyIter_enum he ?_
      exact ⟨s1.heap.objs.size + 1, [s1.heap.objs.size + 1, s1.heap.objs.size], _, _, H1, rfl, I1.kept (t' := s1.toks) hk, turn_enum a _ _, ⟨⟨.none, he⟩, ⟨_, hit, rfl, rfl⟩, Nat.succ_ne_self _⟩, room, q⟩
    · cases r
      obtain ⟨its, rv, tp, hz⟩ := I1.tuple hq
      refine enum_of (begins_tuple a its.toArray) tp fun h' he hit hsz hk => wpAny_pyIter_enum he ?_
      exact ⟨s1.heap.objs.size + 1, [s1.heap.objs.size + 1, s1.heap.objs.size], _, _, H1, rfl, I1.kept (t' := s1.toks) hk, turn_enumT a _ _, ⟨⟨.none, he⟩, ⟨_, hit, rfl, rfl⟩, Nat.succ_ne_self _⟩, room, q⟩
/-- a list's items with their places -/
def enumD : Int → List PyData → List PyData
  | _, [] => []
  | k, d :: ds => .tuple [.int k, d] :: enumD (k + 1) ds
theorem enumD_len : ∀ {ds : List PyData} {k : Int}, (enumD k ds).length = ds.length
  | [], _ => rfl
  | _ :: ds, k => by rw [enumD, List.length_cons, List.length_cons, enumD_len]
theorem enumD_at : ∀ {ds : List PyData} {k : Int} {i : Nat} {d : PyData}, (enumD k ds)[i]? = some d → ∃ e, ds[i]? = some e ∧ d = .tuple [.int (k + i), e]
  | [], _, _, _, h => by cases h
  | a :: ds, k, 0, d, h => by
    rw [enumD, List.getElem?_cons_zero] at h
    cases h
    exact ⟨a, rfl, by rw [show k + ((0 : Nat) : Int) = k by omega]⟩
  | a :: ds, k, i + 1, d, h => by
    rw [enumD, List.getElem?_cons_succ] at h
    obtain ⟨e, he, rfl⟩ := enumD_at h
    exact ⟨e, by rw [List.getElem?_cons_succ]; exact he, by rw [show k + 1 + (i : Int) = k + ((i + 1 : Nat) : Int) by omega]⟩
section
variable {K : PySem.W.Frag} {T : List (Addr × Str)} {W : WX}
theorem pair_go {σ0 σ : L2.St} {H : Hp} {s : S} {R : Ad} {fps : Nat → Ad} {p : Addr} {i : Nat} {v : V} {d : PyData} (I : Iv K T σ0 σ H s R fps) (hp : H p = none) (hd : Dq K (hid (Wf R fps) H) v d) :
    Go K T σ0 H s R fps σ (upd H p (.tup [.int (i : Nat), v])) s R fps ∧ Dq K (hid (Wf R fps) (upd H p (.tup [.int (i : Nat), v]))) (.ref p) (.tuple [.int (0 + (i : Int)), d]) := by
  have e0 : (0 : Int) + (i : Int) = ((i : Nat) : Int) := by omega
  rw [e0]
  obtain ⟨fp, g, ha, _⟩ := res_go I (Res.tup (vs := [.int (i : Nat), v]) (ds := [.int (i : Nat), d]) hp (.cons (.int _) (.cons hd .nil)))
  cases ha with
  | dat h e =>
    have ef : alt R fp = R := funext fun a => propext ⟨fun z => z.elim id fun q => (e a q).elim, .inl⟩
    rw [ef] at g h
    exact ⟨g, h⟩
theorem steady_e {a : Addr} {xs : List V} {ds : List PyData} {F : Hp} (h : SqL K F a xs) (hd : DqAll K F xs ds) : Steady K T (Ite K a) (enumD 0 ds) F := by
  intro σ0 σ H s R fps I e i
  have h1 : SqL K H a xs := ex_l (e.trans hid_ex) h
  refine ⟨fun d hi => ?_, fun hi => ⟨xs, h1, by rw [dps_len hd]; rw [enumD_len] at hi; exact hi⟩⟩
  obtain ⟨b, hb, rfl⟩ := enumD_at hi
  obtain ⟨v, hv, dv⟩ := dps_at (i := i) hd hb
  refine ⟨⟨xs, v, h1, hv⟩, fun x H' y => ?_⟩
  obtain ⟨p, u, rfl, hp, rfl, y⟩ := y
  have ev := y xs h1
  rw [hv] at ev
  cases ev
  exact pair_go I hp (dp_ex e _ _ dv)
theorem steady_eT {a : Addr} {xs : List V} {ds : List PyData} {F : Hp} (h : SqT K F a xs) (hd : DqAll K F xs ds) : Steady K T (IteT K a) (enumD 0 ds) F := by
  intro σ0 σ H s R fps I e i
  have h1 : SqT K H a xs := ex_t (e.trans hid_ex) h
  refine ⟨fun d hi => ?_, fun hi => ⟨xs, h1, by rw [dps_len hd]; rw [enumD_len] at hi; exact hi⟩⟩
  obtain ⟨b, hb, rfl⟩ := enumD_at hi
  obtain ⟨v, hv, dv⟩ := dps_at (i := i) hd hb
  refine ⟨⟨xs, v, h1, hv⟩, fun x H' y => ?_⟩
  obtain ⟨p, u, rfl, hp, rfl, y⟩ := y
  have ev := y xs h1
  rw [hv] at ev
  cases ev
  exact pair_go I hp (dp_ex e _ _ dv)
def listOf : PyData → Option (List PyData)
  | .list ds => some ds
  | .tuple ds => some ds
  | _ => none
def mEnum (m : ME) : MI := fun s Q X => mD m s (fun d s1 => match listOf d with
  | some ds => Q (enumD 0 ds) s1
  | none => False) X
theorem sim_enum {K' : PySem.W.Frag} {te : TE} {m : ME} (h : SimE K T W te m) (hK : K' = K) : SimI K T W (iEnumA K' te) (mEnum m) := by
  subst hK
  intro σ0 σ H s R fps I Qm Xm hm hx Q hQ
  refine sim_d h σ0 σ H s R fps I _ Xm hm hx _ fun v H1 s1 d fps1 g hd q => ?_
  cases d with
  | list ds =>
    obtain ⟨a, xs, rfl, hs, hds⟩ := dp_lst hd
    exact .inl ⟨a, rfl, ⟨xs, ex_l hid_ex hs⟩, hQ _ H1 s1 _ fps1 g (steady_e hs hds) q⟩
  | tuple ds =>
    obtain ⟨a, xs, rfl, hs, hds⟩ := dp_tup hd
    exact .inr ⟨a, rfl, ⟨xs, ex_t hid_ex hs⟩, hQ _ H1 s1 _ fps1 g (steady_eT hs hds) q⟩
  | _ => exact q.elim
variable {X : Cx} {e : Expr} {te : TE} {me : ME} {p pos tpos : Pos} {elts : List Expr} {kk : Nat}
theorem i_enum (hg : Gl X "enumerate") (hm : X.mg "enumerate" = none) (h : QE X K T W e te me) (hK : X.K = K := by rfl) (hs : starEach [e] X.env = (false, eval e X.env) :: starEach [] X.env := by rfl) : QI X K T W (.Tuple elts kk tpos) (.Call (.Name "enumerate" p) [e] [] pos) (iEnumA K te) (mEnum me) := by
  subst hK
  exact ⟨pi_enumA hg hm h.p (pa_cons h.p pa_nil hs) hs, sim_enum h.s rfl⟩
end
end Mk

/-! part MkJ -/
/-! Mk, part 22: greatest, least, sorted, joined texts, texts in capitals, the place in a list. -/
namespace Mk
open PySem PySem.Spec PyProof.Rows L2 Evl Lk LamX
section
variable {K : PySem.W.Frag}
/-! ### max, min -/
/-! ### sorted -/
theorem dps_strs_of {F : Hp} : ∀ {l : List Str} {vs : List V}, DqAll K F vs (l.map PyData.str) → vs = l.map V.str
  | [], _, .nil => rfl
  | i :: l, _, .cons h r => by
    obtain rfl := dp_str h
    rw [List.map_cons, dps_strs_of r]
/-! ### texts -/
variable {X : Cx} {T : List (Addr × Str)} {W : WX} {e : Expr} {te : TE} {me : ME} {pos apos p : Pos}
def fJoin (a : Str) : PyData → FO := fun d Q => ∃ ys : List Str, (d = .list (ys.map PyData.str) ∨ d = .tuple (ys.map PyData.str)) ∧ (ys.map (·.length)).sum + ys.length * a.length ≤ 16777216 ∧ Q (.dat (.str (Txt.join a ys)))
def fUpper : PyData → FO
  | .str a, Q => a.length ≤ 5592405 ∧ Q (.dat (.str (Txt.upper a)))
  | _, _ => False
theorem e_join {a : Str} {j} (he : QE X K T W e te me) (hK : X.K = K := by rfl) (hs : starEach [e] X.env = [(false, eval e X.env)] := by rfl) (hline : (apos.endLine == pos.line) = true := by rfl) : QE X K T W (.Call (.Attribute (.Constant (.str a) j p) "join" apos) [e] [] pos) (tM1 (fun x xs H Q => ∃ a p, ∃ ys : List Str, x = .str a ∧ xs = [.ref p] ∧ (SqL X.K H p (ys.map V.str) ∨ SqT X.K H p (ys.map V.str)) ∧ (ys.map (·.length)).sum + ys.length * a.length ≤ 16777216 ∧ Q (.str (Txt.join a ys)) H) (tC (.str a)) te) (mUn (fJoin a) me) := by
  subst hK
  refine ⟨pe_join pe_str he.p (hs := hs) (hline := hline), fun σ0 σ H s R fps I Qm Xm hm hx Q hQ => ⟨⟨a, rfl⟩, ?_⟩⟩
  have sj : SimE X.K T W (tUn (fun y H Q => ∃ p, ∃ ys : List Str, y = .ref p ∧ (SqL X.K H p (ys.map V.str) ∨ SqT X.K H p (ys.map V.str)) ∧ (ys.map (·.length)).sum + ys.length * a.length ≤ 16777216 ∧ Q (.str (Txt.join a ys)) H) te) (mUn (fJoin a) me) := sim_un (fun F H x d Qo Q ex hx hf k => by
    obtain ⟨ys, rfl | rfl, hl, q⟩ := hf
    · obtain ⟨b, xs, rfl, h3, h4⟩ := hx.list ex
      obtain rfl := dps_strs_of h4
      exact ⟨b, ys, rfl, .inl h3, hl, k _ _ _ (.dat (.str _)) q⟩
    · obtain ⟨b, xs, rfl, h3, h4⟩ := hx.tuple ex
      obtain rfl := dps_strs_of h4
      exact ⟨b, ys, rfl, .inr h3, hl, k _ _ _ (.dat (.str _)) q⟩) he.s
  have z := sj σ0 σ H s R fps I Qm Xm hm hx Q hQ
  refine Eq.mp (congrArg (te σ H) ?_) z
  funext y H2
  exact propext ⟨fun ⟨p, ys, e1, e2, e3, e4⟩ => ⟨a, p, ys, rfl, by rw [e1], e2, e3, e4⟩, fun ⟨a', p, ys, e0, e1, e2, e3, e4⟩ => by
    cases e0
    exact ⟨p, ys, (List.cons.inj e1).1, e2, e3, e4⟩⟩
theorem ps_up : PS1 K (fun x H Q => ∃ a, x = .str a ∧ a.length ≤ 5592405 ∧ Q (.str (Txt.upper a)) H) fUpper := fun F H x d Qo Q ex hx hf k => by
  cases d <;> first
    | exact hf.elim
    | skip
  obtain rfl := hx.str
  exact ⟨_, rfl, hf.1, k _ _ _ (.dat (.str _)) hf.2⟩
theorem e_upper (he : QE X K T W e te me) (hbase : attributeBase e "upper" X.env (eval e X.env) = eval e X.env := by rfl) (hline : (apos.endLine == pos.line) = true := by rfl) : QE X K T W (.Call (.Attribute e "upper" apos) [] [] pos) (tM0 (fun x xs H Q => ∃ a, x = .str a ∧ xs = [] ∧ a.length ≤ 5592405 ∧ Q (.str (Txt.upper a)) H) te) (mUn fUpper me) := by
  refine ⟨pe_upper he.p (hbase := hbase) (hline := hline), fun σ0 σ H s R fps I Qm Xm hm hx Q hQ => ?_⟩
  have z := (sim_un (W := W) ps_up he.s : SimE K T W (tUn _ te) (mUn fUpper me)) σ0 σ H s R fps I Qm Xm hm hx Q hQ
  refine Eq.mp (congrArg (te σ H) ?_) z
  funext y H2
  exact propext ⟨fun ⟨a, e1, e2, e3⟩ => ⟨⟨a, e1⟩, a, e1, rfl, e2, e3⟩, fun ⟨_, a, e1, _, e2, e3⟩ => ⟨a, e1, e2, e3⟩⟩
end
end Mk

/-! part MkK -/
/-! Mk, part 23: the place of a thing in a list. -/
namespace Mk
open PySem PySem.Spec PyProof.Rows L2 Evl Lk LamX
def indexK (r : Rs) (d : PyData) (s : S) (P : Rs → S → Prop) : Prop := match rd s r with
  | some (.list ds) => SeqAt.shaped (.list ds) = true ∧ SeqAt.shaped d = true ∧ ∃ j z, ds[j]? = some z ∧ PyData.eqv z d = true ∧ (∀ (m : Nat) (z' : PyData), m < j → ds[m]? = some z' → PyData.eqv z' d = false) ∧ P (.val (.dat (.int (j : Nat)))) s
  | _ => False
def mIndex (mo : ME) (ma : MD) : ME := fun s Q X => mo s (fun r s1 => (∃ ds, rd s1 r = some (.list ds)) ∧ ma s1 (fun d s2 => indexK r d s2 Q) X) X
section
variable {K : PySem.W.Frag} {T : List (Addr × Str)} {W : WX} {X : Cx} {o e : Expr} {to te : TE} {mo me : ME} {apos cpos : Pos}
theorem sim_index {K' : PySem.W.Frag} {ma : MD} (h : SimE K T W to mo) (ha : SimD K T W te ma) (hK : K' = K) : SimE K T W (tBM K' "list" (rIndexD K') to (tCons te tNil)) (mIndex mo ma) := by
  subst hK
  intro σ0 σ H s R fps I Qm Xm hm hx Q hQ
  refine h σ0 σ H s R fps I _ Xm hm hx _ fun v H1 s1 r fp fps1 g1 hr nR q => ?_
  obtain ⟨⟨ds0, e0⟩, q⟩ := q
  obtain ⟨a, xs, rfl, hl, _⟩ := (rd_at g1.iv hr e0).list hid_ex
  refine ⟨.inl ⟨rfl, xs, hl⟩, ?_⟩
  refine ha σ0 σ H1 s1 _ fps1 g1.iv _ Xm q (hx.go g1) _ fun y H2 s2 d fps2 g2 hy q => ?_
  have hr2 := hr.keep g2.gr (fun a z => g2.kp a (.inr z)) g2.le
  unfold indexK at q
  split at q
  · rename_i ds e2
    obtain ⟨h1, h2, j, z, h3, h4, h5, q⟩ := q
    have hv := (rd_at g2.iv hr2 e2).full hid_ex
    exact ⟨a, y, d, ds, j, z, rfl, rfl, sh_dp h1 hv, sh_dp h2 (dp_ex hid_ex _ _ hy), h1, h2, h3, h4, h5, out_res (g1.trans g2) (.dat (.int _)) hQ q⟩
  · exact q.elim
theorem e_index (hu : X.A.units + 65 < cLine) (ho : QE X K T W o to mo) (ha : QE X K T W e te me) (hK : X.K = K := by rfl)
    (hbase : attributeBase o "index" X.env (eval o X.env) = eval o X.env := by rfl)
    (hfew : ((backTo cpos (starEach [e] X.env)).all (fun x => !x.1) && (backToKw cpos (keywordEach [] X.env)).all (fun x => x.1.isSome)
      && decide ([e].length + ([] : List Keyword).length + (if ([] : List Keyword).isEmpty then 0 else 1) < 30)) = true := by rfl)
    (hline : (apos.endLine == cpos.line) = true := by rfl) (hs : starEach [e] X.env = (false, eval e X.env) :: starEach [] X.env := by rfl) (hplain : (backTo cpos (starEach [] X.env)).any (·.1) = false := by rfl) :
    QE X K T W (.Call (.Attribute o "index" apos) [e] [] cpos) (tBM K "list" (rIndexD K) to (tCons te tNil)) (mIndex mo (mD me)) := by
  subst hK
  exact ⟨pe_bm PySem.F.plainAttrs_list PySem.F.slot_list_index PySem.F.type_list_index (mt_indexD hu) ho.p (pa_cons ha.p pa_nil hs) hbase hfew hline hs hplain, sim_index ho.s (sim_d ha.s) rfl⟩
end
end Mk

/-! part MkL -/
/-! Mk, part 24: isinstance of one of two types. -/
namespace Mk
open PySem PySem.Spec PyProof.Rows L2 Evl Lk LamX
section
variable {K : PySem.W.Frag} {T : List (Addr × Str)} {W : WX} {X : Cx} {e : Expr} {te : TE} {me : ME} {pos : Pos}
/-- a new object that nobody owns -/
theorem new_go {σ0 σ : L2.St} {H : Hp} {s : S} {R : Ad} {fps : Nat → Ad} {p : Addr} {o : HO} (I : Iv K T σ0 σ H s R fps) (hp : H p = none) : Go K T σ0 H s R fps σ (upd H p o) s R fps := by
  have hW := I.fresh hp
  have g : Gr (Wf R fps) H (Wf R fps) (upd H p o) := gr_ex (Ex.new hp) (fun _ _ _ n => n)
  refine ⟨I.step g (fun i a q => upd_ne fun z => hW (.inr ⟨i, z ▸ q⟩)) I.disR (fun a q => ?_) (tabs_new I.tab hp), fun a q => upd_ne fun z => hW (.inl (z ▸ q)), g, rfl, Nat.le_refl _, fun _ z => z⟩
  have e := I.liv a q
  rw [upd_ne (show a ≠ p from fun z => hW (.inl (z ▸ q)))]
  exact e
theorem kit_any2 {t : Value} {n1 n2 : String} {a b : Bool} (h1 : PySem.W.kitOne K t (.type n1) = some a) (h2 : PySem.W.kitOne K t (.type n2) = some b) : PySem.W.kitAny K t [.type n1, .type n2] = some (a || b) := by
  cases a <;> cases b <;> simp [PySem.W.kitAny, h1, h2]
theorem sim_isi2 {K' : PySem.W.Frag} {n1 n2 : String} {f1 f2 : PyData → Bool} (h : SimE K T W te me) (hf1 : ∀ d, kitB (tyN d) n1 = some (f1 d)) (hf2 : ∀ d, kitB (tyN d) n2 = some (f2 d)) (hK : K' = K) :
    SimE K T W (tCB (rIsiT K') (tCons te (tCons (tTup (tCons (tC (.ty n1)) (tCons (tC (.ty n2)) tNil))) tNil))) (mIsi (fun d => f1 d || f2 d) me) := by
  subst hK
  intro σ0 σ H s R fps I Qm Xm hm hx Q hQ
  refine h σ0 σ H s R fps I _ Xm hm hx _ fun v H1 s1 r fp fps1 g1 hr nR q => ?_
  split at q
  · rename_i d e
    refine ⟨show 2 ≤ sizeLine by decide, fun p hp => ?_⟩
    have hv := dp_ex (Ex.new (o := .tup [.ty n1, .ty n2]) hp) _ _ ((rd_at g1.iv hr e).full hid_ex)
    have g2 := g1.trans (new_go (o := .tup [.ty n1, .ty n2]) g1.iv hp)
    exact ⟨v, p, [.ty n1, .ty n2], .type (tyN d), [.type n1, .type n2], _, rfl, upd_same, .cons (.ty n1) (.cons (.ty n2) .nil), dp_ty hv, kit_any2 (kit_ty (hf1 d)) (kit_ty (hf2 d)), out_e (g2.drop (fun _ z => z) fun _ z => .inl z) (fun _ => .bl _) hQ q⟩
  · exact q.elim
theorem e_isi2 {y1 y2 : Str} {n1 n2 : String} {f1 f2 : PyData → Bool} {p q1 q2 tp : Pos} {k : Nat} (hf1 : ∀ d, kitB (tyN d) n1 = some (f1 d)) (hf2 : ∀ d, kitB (tyN d) n2 = some (f2 d)) (hg : Gl X "isinstance") (hm : X.mg "isinstance" = none)
    (a1 : Gl X y1) (a2 : X.mg y1 = none) (a3 : bootBuiltins y1 = some (.type n1)) (b1 : Gl X y2) (b2 : X.mg y2 = none) (b3 : bootBuiltins y2 = some (.type n2)) (ha : QE X K T W e te me) (hK : X.K = K := by rfl)
    (a4 : y1 ≠ "__name__" := by decide) (a5 : (y1 == ("__debug__" : Str)) = false := by decide) (b4 : y2 ≠ "__name__" := by decide) (b5 : (y2 == ("__debug__" : Str)) = false := by decide)
    (he : starEach [e, .Tuple [.Name y1 q1, .Name y2 q2] k tp] X.env = (false, eval e X.env) :: starEach [.Tuple [.Name y1 q1, .Name y2 q2] k tp] X.env := by rfl)
    (he2 : starEach [.Tuple [.Name y1 q1, .Name y2 q2] k tp] X.env = (false, eval (.Tuple [.Name y1 q1, .Name y2 q2] k tp) X.env) :: starEach [] X.env := by rfl)
    (he3 : starEach [.Name y1 q1, .Name y2 q2] X.env = (false, eval (.Name y1 q1) X.env) :: starEach [.Name y2 q2] X.env := by rfl) (he4 : starEach [.Name y2 q2] X.env = (false, eval (.Name y2 q2) X.env) :: starEach [] X.env := by rfl)
    (hpl : (backTo pos (starEach [.Tuple [.Name y1 q1, .Name y2 q2] k tp] X.env)).any (·.1) = false := by rfl) :
    QE X K T W (.Call (.Name "isinstance" p) [e, .Tuple [.Name y1 q1, .Name y2 q2] k tp] [] pos) (tCB (rIsiT K) (tCons te (tCons (tTup (tCons (tC (.ty n1)) (tCons (tC (.ty n2)) tNil))) tNil))) (mIsi (fun d => f1 d || f2 d) me) := by
  subst hK
  exact ⟨pe_callB call_isiT hg hm (by decide +kernel) (pa_cons ha.p (pa_cons (pe_tup (pa_cons (pe_bltn (v := .ty n1) a1 a2 a3 rfl a4 a5) (pa_cons (pe_bltn (v := .ty n2) b1 b2 b3 rfl b4 b5) pa_nil he4) he3)) pa_nil he2) he) (by decide) (by decide) he hpl, sim_isi2 ha.s hf1 hf2 rfl⟩
end
end Mk

/-! part MkM -/
/-! Mk, part 26: calls that name their values in another order (the order is its own inverse). -/
namespace Mk
open PySem PySem.Spec PyProof.Rows L2 Evl Lk LamX
/-- an order that undoes itself -/
structure Invo (p : List Nat) : Prop where
  lt : ∀ i ∈ p, i < p.length
  inv : ∀ i, i < p.length → p.getD (p.getD i 0) 0 = i
def permL {α : Type} (p : List Nat) (d : α) (l : List α) : List α := p.map fun i => l.getD i d
def permF (p : List Nat) (f : Nat → Ad) : Nat → Ad := fun i => if i < p.length then f (p.getD i 0) else f i
section
variable {p : List Nat}
theorem Invo.at_lt (h : Invo p) {i : Nat} (hi : i < p.length) : p.getD i 0 < p.length := by
  rw [List.getD_eq_getElem?_getD, List.getElem?_eq_getElem hi]
  exact h.lt _ (List.getElem_mem hi)
theorem permL_len {α : Type} {d : α} {l : List α} : (permL p d l).length = p.length := List.length_map _
theorem permL_at {α : Type} {d : α} {l : List α} {i : Nat} (hi : i < p.length) : (permL p d l)[i]? = some (l.getD (p.getD i 0) d) := by
  unfold permL
  rw [List.getElem?_map, List.getElem?_eq_getElem hi, List.getD_eq_getElem?_getD (l := p), List.getElem?_eq_getElem hi]
  rfl
theorem permL_get {α : Type} {d : α} {l : List α} (h : Invo p) (hl : l.length = p.length) {i : Nat} (hi : i < p.length) : (permL p d l)[i]? = l[p.getD i 0]? := by
  have := h.at_lt hi
  rw [permL_at hi, List.getD_eq_getElem?_getD, List.getElem?_eq_getElem (by omega)]
  rfl
theorem permL_permL {α : Type} {d : α} {l : List α} (h : Invo p) (hl : l.length = p.length) : permL p d (permL p d l) = l := by
  refine List.ext_getElem? fun i => ?_
  by_cases hi : i < p.length
  · rw [permL_get h permL_len hi, permL_get h hl (h.at_lt hi), h.inv i hi]
  · rw [List.getElem?_eq_none (by rw [permL_len]; omega), List.getElem?_eq_none (by omega)]
theorem permL_map {α β : Type} {d : α} {e : β} {l : List α} (f : α → β) (h : Invo p) (hl : l.length = p.length) : permL p e (l.map f) = (permL p d l).map f := by
  refine List.ext_getElem? fun i => ?_
  by_cases hi : i < p.length
  · rw [permL_get h (by rw [List.length_map]; exact hl) hi, List.getElem?_map, List.getElem?_map, permL_get h hl hi]
  · rw [List.getElem?_eq_none (by rw [permL_len]; omega), List.getElem?_eq_none (by rw [List.length_map, permL_len]; omega)]
theorem permF_permF (h : Invo p) (f : Nat → Ad) : permF p (permF p f) = f := by
  funext i
  unfold permF
  by_cases hi : i < p.length
  · rw [if_pos hi, if_pos (h.at_lt hi), h.inv i hi]
  · rw [if_neg hi, if_neg hi]
theorem wf_perm (h : Invo p) {R : Ad} {f : Nat → Ad} : Wf R (permF p f) = Wf R f := by
  have one : ∀ {g : Nat → Ad} {a : Addr}, Wf R (permF p g) a → Wf R g a := fun {g a} z => z.imp id fun ⟨i, q⟩ => by
    unfold permF at q
    split at q
    · exact ⟨_, q⟩
    · exact ⟨_, q⟩
  funext a
  refine propext ⟨one, fun z => one ?_⟩
  rw [permF_permF h]
  exact z
def swapP (p : List Nat) (G : Den) : Den := fun os n Q X => os.length = p.length ∧ G (permL p .st os) n (fun o os' n' => os'.length = p.length ∧ Q o (permL p .st os') n') (fun C os' n' => os'.length = p.length ∧ X C (permL p .st os') n')
variable {K : PySem.W.Frag} {T : List (Addr × Str)} {σ0 σ : L2.St} {H H' : Hp} {n n' : Nat} {e e' : List (Option O)} {R R' : Ad} {f f' : Nat → Ad}
theorem iv_perm (h : Invo p) (l0 : σ0.length = p.length) (l : σ.length = p.length) (I : Iv K T σ0 σ H ⟨e, n, []⟩ R f) : Iv K T (permL p none σ0) (permL p none σ) H ⟨permL p none e, n, []⟩ R (permF p f) := by
  have le : e.length = p.length := I.len.symm.trans l
  refine ⟨by rw [permL_len]; exact permL_len.symm, fun i o q => ?_, fun i q a z => ?_, fun i j a y z => ?_, fun i a y z => ?_, I.liv, I.tab, fun _ z => nomatch z⟩
  · have q : (permL p none e)[i]? = some (some o) := q
    by_cases hi : i < p.length
    · rw [permL_get h le hi] at q
      obtain ⟨v, h1, h2⟩ := I.at_ _ o q
      refine ⟨v, by rw [permL_get h l hi]; exact h1, ?_⟩
      rw [wf_perm h]
      unfold permF
      rw [if_pos hi]
      exact h2
    · rw [List.getElem?_eq_none (by rw [permL_len]; omega)] at q
      cases q
  · unfold permF at z
    by_cases hi : i < p.length
    · rw [if_pos hi] at z
      refine I.emp _ (fun o r => q o ?_) a z
      show (permL p none e)[i]? = _
      rw [permL_get h le hi]
      exact r
    · rw [if_neg hi] at z
      refine I.emp _ (fun o r => ?_) a z
      have r : e[i]? = some (some o) := r
      rw [List.getElem?_eq_none (by omega)] at r
      cases r
  · unfold permF at y z
    by_cases hi : i < p.length <;> by_cases hj : j < p.length
    · rw [if_pos hi] at y
      rw [if_pos hj] at z
      have := I.dis _ _ a y z
      rw [← h.inv i hi, ← h.inv j hj, this]
    · rw [if_pos hi] at y
      rw [if_neg hj] at z
      have := I.dis _ _ a y z
      have := h.at_lt hi
      omega
    · rw [if_neg hi] at y
      rw [if_pos hj] at z
      have := I.dis _ _ a y z
      have := h.at_lt hj
      omega
    · rw [if_neg hi] at y
      rw [if_neg hj] at z
      exact I.dis _ _ a y z
  · unfold permF at y
    split at y
    · exact I.disR _ a y z
    · exact I.disR _ a y z
theorem go_perm (h : Invo p) (l0 : σ0.length = p.length) (l : σ.length = p.length) (g : Go K T σ0 H ⟨e, n, []⟩ R f σ H' ⟨e', n', []⟩ R' f') : Go K T (permL p none σ0) H ⟨permL p none e, n, []⟩ R (permF p f) (permL p none σ) H' ⟨permL p none e', n', []⟩ R' (permF p f') :=
  ⟨iv_perm h l0 l g.iv, g.kp, by rw [wf_perm h, wf_perm h]; exact g.gr, rfl, g.le, g.sb⟩
theorem sp_perm {G : Den} {vs : List V} {Q : VK} {E : XK} (h : Invo p) (z : spM K T (swapP p G) vs H Q E) : spM K T G (permL p .non vs) H Q E := by
  obtain ⟨os, n, R, fps, Qm, Xm, I, ⟨lo, hm⟩, hQ, hE⟩ := z
  have lv : vs.length = p.length := by
    have := I.len
    rw [List.length_map, List.length_map] at this
    omega
  have lm : (vs.map some).length = p.length := by rw [List.length_map]; exact lv
  have em : permL p none (vs.map some) = (permL p .non vs).map some := permL_map some h lv
  have eo : ∀ {l : List O}, l.length = p.length → permL p none (l.map some) = (permL p .st l).map some := fun hl => permL_map some h hl
  refine ⟨permL p .st os, n, R, permF p fps, _, _, by rw [← em, ← eo lo]; exact iv_perm h lm lm I, hm, fun u H' o os' n' fp fps' g ha nR q => ?_, fun C H' os' n' fps' g q => ?_⟩
  · obtain ⟨l', q⟩ := q
    have g2 := go_perm (p := p) h (by rw [List.length_map, permL_len]) (by rw [List.length_map, permL_len]) g
    rw [permF_permF h, ← em, permL_permL h lm, ← eo lo, permL_permL h (by rw [List.length_map]; exact lo), eo l'] at g2
    refine hQ u H' o (permL p .st os') n' fp (permF p fps') g2 ?_ nR q
    rw [wf_perm h]
    exact ha
  · obtain ⟨l', q⟩ := q
    have g2 := go_perm (p := p) h (by rw [List.length_map, permL_len]) (by rw [List.length_map, permL_len]) g
    rw [permF_permF h, ← em, permL_permL h lm, ← eo lo, permL_permL h (by rw [List.length_map]; exact lo), eo l'] at g2
    exact hE C H' (permL p .st os') n' (permF p fps') g2 q
end
/-! ### the call -/
def ordP {α : Type} (p : List Nat) (d : α) (us ws : List α) : List α := if us.length = 0 ∧ ws.length = p.length then permL p d ws else []
theorem vals_perm {zs : List V} {ws : List Value} (h : Vals zs ws) : ∀ {q : List Nat}, (∀ i ∈ q, i < zs.length) → Vals (q.map fun i => zs.getD i .non) (q.map fun i => ws.getD i .none)
  | [], _ => .nil
  | i :: q, hq => by
    have hi := hq i List.mem_cons_self
    obtain ⟨u, hu, ru⟩ := h.get (List.getElem?_eq_getElem hi)
    refine .cons ?_ (vals_perm h fun j hj => hq j (List.mem_cons_of_mem _ hj))
    show RelV (zs.getD i .non) (ws.getD i .none)
    rw [List.getD_eq_getElem?_getD, List.getD_eq_getElem?_getD, List.getElem?_eq_getElem hi, hu]
    exact ru
/-- .. called so -/
structure Cdp (P : Program) (w : World) (K : PySem.W.Frag) (mg : Str → Option Value) (base : Heap) (T : List (Addr × Str)) (k : Nat) (x : Str) (ks : List Str) (p : List Nat) (G : Den) : Prop where
  ok : Invo p
  ex : ∃ (f : Addr) (fd : FuncData) (ps : List Str), FnOk P w K mg base (L2.CX P w) k f fd ps (spM K T G) ∧ mg x = some (.ref f) ∧ PySem.W.keepIn K (.ref f) = true ∧ KBinds K fd ps ks (ordP p .none) (ordP p .non)
section
variable {P : Program} {w : World} {K : PySem.W.Frag} {mg : Str → Option Value} {base : Heap} {T : List (Addr × Str)} {f : Addr} {fd : FuncData} {ps : List Str}
variable {X : Cx} {W : WX} {k j : Nat} {x : Str} {ks : List Str} {p : List Nat} {G : Den} {pn pos : Pos} {kws : List Keyword} {tr : TA} {mr : MA}
theorem cdp_mk (h : Invo p) (o : FnOk P w K mg base (L2.CX P w) k f fd ps (spM K T G)) (g : mg x = some (.ref f)) (kp : PySem.W.keepIn K (.ref f) = true) (b : KBinds K fd ps ks (ordP p .none) (ordP p .non)) : Cdp P w K mg base T k x ks p G := ⟨h, _, _, _, o, g, kp, b⟩
theorem kbindsP {qual : Str} {params : Arguments} {body : List Stmt} {scope : Scope} (F : FunD K x qual params body scope [] [] f fd) (h : Invo p) (hp : p.length = ps.length) (h0 : 0 < ps.length)
    (hb : ∀ (kV doc pm : Value) (an : Option Addr) (cdv ct : Value) (ws : List Value), ws.length = p.length → bindArgs (PySem.W.fnOf x qual params body scope .none kV doc pm an cdv ct) ⟨[], ks.zip ws⟩ = pure (ps.zip (permL p .none ws))) :
    KBinds K fd ps ks (ordP p .none) (ordP p .non) := by
  obtain ⟨oc, od, dV, kV, doc, pm, an, cdv, ct, osl, rfl, lk, hcd, hD, hK⟩ := F.ex
  rcases hD with ⟨_, rfl⟩ | ⟨e, _⟩
  · refine ⟨fun s us ws _ hl => ?_, fun {vs us zs ws} r rz => ?_⟩
    · unfold ordP at hl ⊢
      by_cases c : us.length = 0 ∧ ws.length = p.length
      · rw [if_pos c]
        obtain rfl := List.eq_nil_of_length_eq_zero c.1
        exact .of_eq (hb kV doc pm an cdv ct ws c.2)
      · rw [if_neg c, List.length_nil] at hl
        omega
    · unfold ordP
      have l1 := r.length
      have l2 := rz.length
      by_cases c : us.length = 0 ∧ ws.length = p.length
      · rw [if_pos c, if_pos (by omega)]
        exact vals_perm rz fun i hi => by have := h.lt i hi; omega
      · rw [if_neg c, if_neg (by omega)]
        exact .nil
  · exact absurd rfl e
theorem e_kwP (h : Cdp X.prog X.w X.K X.mg X.base T k x ks p G) (hr : Room j X.A) (hk : k ≤ j) (hg : Gl X x) (hkw : QK X K T W kws tr mr) (hK : X.K = K := by rfl)
    (hall : (backToKw pos (keywordEach kws X.env)).all (·.1.isSome) = true := by rfl) (hks : (backToKw pos (keywordEach kws X.env)).filterMap (·.1) = ks := by rfl) (hdb : (x == ("__debug__" : Str)) = false := by decide)
    (hpl : ((backTo pos (starEach [] X.env)).any (·.1) || (backToKw pos (keywordEach kws X.env)).any (·.1.isNone)) = false := by rfl) :
    QE X K T W (.Call (.Name x pn) [] kws pos) (tCallK (spM K T G) (ordP p .non) E0 tNil tr) (mCall0 (swapP p G) mr) := by
  subst hK
  obtain ⟨f, fd, ps, F, hm, kp, b⟩ := h.ex
  refine ⟨pe_kwOnly F (hr.mono hk) hg hm kp b passL hkw.p hall hks hdb hpl, ?_⟩
  refine sim_callP (B := fun zs H Q => spM X.K T G (ordP p .non [] zs) H Q E0) (fun vs H Q q => ?_) hkw.s
  have l : vs.length = p.length := by
    obtain ⟨os, n, R, fps, Qm, Xm, I, ⟨lo, _⟩, _, _⟩ := q
    have := I.len
    rw [List.length_map, List.length_map] at this
    omega
  have e : ordP p .non [] vs = permL p .non vs := by
    unfold ordP
    rw [if_pos ⟨rfl, l⟩]
  show spM X.K T G (ordP p .non [] vs) H Q E0
  rw [e]
  exact sp_perm h.ok q
end
end Mk

/-! part MkN -/
/-! Mk, part 27: lists of what was caught: [c], xs.append(c), xs[j]. -/
namespace Mk
open PySem PySem.Spec PyProof.Rows L2 Evl Lk LamX
/-- what was caught, of a result -/
def capt : Rs → Option (Option Addr)
  | .val (.exc C) => some (some C)
  | .val (.dat .none) => some none
  | _ => none
def ofCapt : Option Addr → Rs
  | some C => .val (.exc C)
  | none => .val (.dat .none)
def mXs1 (m : ME) : ME := fun s Q X => m s (fun r s1 => match capt r with
  | some c => Q (.val (.xs [c])) s1
  | none => False) X
def isXs (s : S) (i : Nat) : Prop := match s.env[i]? with
  | some (some (.xs _)) => True
  | _ => False
def mXApp (i : Nat) (m : ME) : ME := fun s Q X => isXs s i ∧ m s (fun r s1 => match capt r, s1.env[i]? with
  | some c, some (some (.xs es)) => es.length < 100 ∧ Q (.val (.dat .none)) (putO s1 i (.xs (es ++ [c])))
  | _, _ => False) X
def mXIx (i j : Nat) : ME := fun s Q _ => match s.env[i]? with
  | some (some (.xs es)) => match es[j]? with
    | some c => Q (ofCapt c) s
    | none => False
  | _ => False
section
variable {K : PySem.W.Frag} {T : List (Addr × Str)} {W : WX} {σ0 σ : L2.St} {H H' H0 : Hp} {s s0 : S} {R fp : Ad} {fps fps0 : Nat → Ad} {v : V} {r : Rs} {c : Option Addr}
theorem alt_none (h : ∀ a, ¬ fp a) : alt R fp = R := funext fun a => propext ⟨fun z => z.elim id fun q => (h a q).elim, .inl⟩
theorem capt_at {F : Hp} {n : Nat} (h : RAt K F H n σ v r fp) (e : capt r = some c) : XAll F [v] [c] ∧ ∀ a, ¬ fp a := by
  unfold capt at e
  split at e
  · cases e
    cases h with
    | val h =>
      cases h with
      | exc h z => exact ⟨.exc h .nil, z⟩
  · cases e
    cases h with
    | val h =>
      cases h with
      | dat h z =>
        obtain rfl := dp_none h
        exact ⟨.non .nil, z⟩
  · cases e
/-- a new list of what was caught -/
theorem xs_new {p : Addr} {vs : List V} {es : List (Option Addr)} (I : Iv K T σ0 σ H s R fps) (hp : H p = none) (h : XAll (hid (Wf R fps) H) vs es) :
    Go K T σ0 H s R fps σ (upd H p (.lst vs)) s (alt R fun a => a = p) fps ∧ At K (hid (Wf (alt R fun a => a = p) fps) (upd H p (.lst vs))) (upd H p (.lst vs)) s.n (.ref p) (.xs es) (fun a => a = p) := by
  have hW := I.fresh hp
  have g : Gr (Wf R fps) H (Wf (alt R fun a => a = p) fps) (upd H p (.lst vs)) := gr_ex (Ex.new hp) (fun a u e n z => by
    rcases z with (z | z) | z
    · exact n (.inl z)
    · rw [z, hp] at e; cases e
    · exact n (.inr z))
  refine ⟨⟨I.step g (fun i a q => upd_ne fun z => hW (.inr ⟨i, z ▸ q⟩)) (fun i a q z => ?_) (fun a q => ?_) (tabs_new I.tab hp), fun a q => upd_ne fun z => hW (.inl (z ▸ q)), g, rfl, Nat.le_refl _, fun _ z => .inl z⟩, .xs upd_same (xall_ex g h) fun _ => Iff.rfl⟩
  · rcases z with z | z
    · exact I.disR i a q z
    · exact hW (.inr ⟨i, z ▸ q⟩)
  · rcases q with q | q
    · have e := I.liv a q
      rw [upd_ne (show a ≠ p from fun z => hW (.inl (z ▸ q)))]
      exact e
    · rw [q, upd_same]
      exact trivial
theorem sim_xs1 {te : TE} {m : ME} (h : SimE K T W te m) : SimE K T W (tLst (tCons te tNil)) (mXs1 m) := by
  intro σ0 σ H s R fps I Qm Xm hm hx Q hQ
  refine h σ0 σ H s R fps I _ Xm hm hx _ fun v H1 s1 r fp fps1 g1 hr nR q => ?_
  split at q
  · rename_i c e
    obtain ⟨hd, z⟩ := capt_at hr e
    have ef := alt_none (R := R) z
    rw [ef] at g1 hd
    refine ⟨show 1 ≤ sizeLine by decide, fun p hp => ?_⟩
    obtain ⟨g2, ha⟩ := xs_new g1.iv hp hd
    refine hQ (.ref p) _ s1 (.val (.xs [c])) _ fps1 (g1.trans g2) (.val ha) (fun a e y => ?_) q
    have := g1.iv.liv a y
    rw [e, hp] at this
    exact this
  · exact q.elim
theorem isXs_yes {i : Nat} (h : isXs s i) : ∃ es, s.env[i]? = some (some (.xs es)) := by
  unfold isXs at h
  split at h
  · exact ⟨_, by assumption⟩
  · exact h.elim
theorem mutX_go {i : Nat} {a : Addr} {vs vs' : List V} {es es' : List (Option Addr)} (G : Go K T σ0 H0 s0 R fps0 σ H s R fps) (hv : σ[i]? = some (some (.ref a))) (he : s.env[i]? = some (some (.xs es))) (ha : H a = some (.lst vs))
    (hd : XAll (hid (Wf R fps) H) vs' es') : ∃ fps', Go K T σ0 H0 s0 R fps0 σ (upd H a (.lst vs')) (putO s i (.xs es')) R fps' := by
  have I := G.iv
  have hA := I.slotv he hv
  cases hA with
  | xs hA hdA hz =>
    have wa : Wf R fps a := .inr ⟨i, (hz a).mpr rfl⟩
    have nR : ¬ R a := I.disR i a ((hz a).mpr rfl)
    have g : Gr (Wf R fps) H (Wf R (fset fps i (fps i))) (upd H a (.lst vs')) := gr_of (fun b o h n _ => by
      rw [upd_ne (show b ≠ a from fun z => n (z ▸ wa))]
      exact h) (fun b o h n z => by
      rcases wf_fset z with z | z | ⟨j, _, z⟩
      · exact n (.inl z)
      · exact n (.inr ⟨i, z⟩)
      · exact n (.inr ⟨j, z⟩))
    have P := I.put (R' := R) (i := i) (v' := .ref a) (o' := .xs es') (fp' := fps i) (n' := s.n) (lt_of_slot hv) (fun _ z => z) g (fun j b hj z => upd_ne (show b ≠ a from fun y => hj (I.dis j i a (y ▸ z) ((hz a).mpr rfl))))
      (fun b z => upd_ne (show b ≠ a from fun y => nR (y ▸ z))) (Tabs.lst I.tab ha) (Nat.le_refl _) (.xs upd_same (xall_ex g hd) hz) (fun b z => I.disR i b z) (fun j b hj z y => hj (I.dis j i b y z)) (fun _ => hv)
    rw [set_same hv] at P
    exact ⟨_, ⟨P, fun b z => (upd_ne (show b ≠ a from fun y => nR (y ▸ z))).trans (G.kp b z), G.gr.trans g, G.bo, G.le, fun _ z => z⟩⟩
theorem sim_xapp {K' : PySem.W.Frag} {te : TE} {m : ME} {i : Nat} (h : SimE K T W te m) (hK : K' = K) : SimE K T W (tBM K' "list" rAppend (tVar i) (tCons te tNil)) (mXApp i m) := by
  subst hK
  intro σ0 σ H s R fps I Qm Xm hm hx Q hQ
  obtain ⟨es0, e0⟩ := isXs_yes hm.1
  obtain ⟨v, hv, hA0⟩ := I.at_ i _ e0
  cases hA0 with
  | xs hA hd hz =>
    rename_i a vs0
    refine ⟨.ref a, hv, Or.inl ⟨rfl, vs0, sq_of hA⟩, ?_⟩
    refine h σ0 σ H s R fps I _ Xm hm.2 hx _ fun w H1 s1 r fp fps1 g1 hr nR q => ?_
    split at q
    · rename_i c es e1 e2
      obtain ⟨hc, z⟩ := capt_at hr e1
      have ef := alt_none (R := R) z
      rw [ef] at g1 hc
      have hA1 := g1.iv.slotv e2 hv
      cases hA1 with
      | xs hA1 hd1 hz1 =>
        obtain ⟨fps2, G2⟩ := mutX_go g1 hv e2 hA1 (xall_app hd1 hc)
        refine ⟨a, _, w, rfl, rfl, hA1, sz_lt (by rw [xall_len hd1]; omega), hQ .non _ _ (.val (.dat .none)) nol fps2 (G2.alt0 fun _ z => z) (.val (.dat .non fun _ z => z)) (fun _ z => z.elim) q.2⟩
    · exact q.elim
theorem xall_at {F : Hp} : ∀ {vs : List V} {es : List (Option Addr)} {j : Nat} {c : Option Addr}, XAll F vs es → es[j]? = some c → ∃ v, vs[j]? = some v ∧ XAll F [v] [c]
  | _, _, _, _, .nil, h => by cases h
  | _, _, 0, _, .non _, h => by cases h; exact ⟨_, rfl, .non .nil⟩
  | _, _, 0, _, .exc h1 _, h => by cases h; exact ⟨_, rfl, .exc h1 .nil⟩
  | _, _, j + 1, _, .non r, h => xall_at (j := j) r h
  | _, _, j + 1, _, .exc _ r, h => xall_at (j := j) r h
theorem sim_xix {K' : PySem.W.Frag} {i j : Nat} (hK : K' = K) : SimE K T W (tOp (rIx K') (tVar i) (tC (.int (j : Nat)))) (mXIx i j) := by
  subst hK
  intro σ0 σ H s R fps I Qm Xm hm hx Q hQ
  unfold mXIx at hm
  split at hm
  · rename_i es e
    split at hm
    · rename_i c ec
      obtain ⟨v, hv, hA⟩ := I.at_ i _ e
      cases hA with
      | xs hA hd hz =>
        rename_i a vs
        obtain ⟨w, hw, hc⟩ := xall_at hd ec
        refine ⟨.ref a, hv, .inl ⟨a, vs, (j : Int), w, rfl, rfl, sq_of hA, atI_nat hw, ?_⟩⟩
        refine hQ w H s (ofCapt c) nol fps ((Go.refl I).alt0 fun _ z => z) ?_ (fun _ z => z.elim) hm
        rw [alt_nol]
        cases hc with
        | non _ => exact .val (.dat .non fun _ z => z)
        | exc h _ => exact .val (.exc h fun _ z => z)
    · exact hm.elim
  · exact hm.elim
variable {X : Cx} {e : Expr} {te : TE} {me : ME} {pos p q : Pos}
theorem e_xs1 (h : QE X K T W e te me) (hs : starEach [e] X.env = (false, eval e X.env) :: starEach [] X.env := by rfl) : QE X K T W (.List [e] pos) (tLst (tCons te tNil)) (mXs1 me) := ⟨pe_lst (pa_cons h.p pa_nil hs), sim_xs1 h.s⟩
theorem e_xapp {i : Nat} {x : Str} {xp apos cpos : Pos} (hN : X.N[i]? = some x) (hv : Vis X.env.scope x) (hd : (x == ("__debug__" : Str)) = false) (hcd : (x == ("__classdict__" : Str)) = false) (ha : QE X K T W e te me) (hK : X.K = K := by rfl)
    (hbase : attributeBase (.Name x xp) "append" X.env (eval (.Name x xp) X.env) = eval (.Name x xp) X.env := by rfl)
    (hfew : ((backTo cpos (starEach [e] X.env)).all (fun x => !x.1) && (backToKw cpos (keywordEach [] X.env)).all (fun x => x.1.isSome)
      && decide ([e].length + ([] : List Keyword).length + (if ([] : List Keyword).isEmpty then 0 else 1) < 30)) = true := by rfl)
    (hline : (apos.endLine == cpos.line) = true := by rfl) (hs : starEach [e] X.env = (false, eval e X.env) :: starEach [] X.env := by rfl) (hplain : (backTo cpos (starEach [] X.env)).any (·.1) = false := by rfl) :
    QE X K T W (.Call (.Attribute (.Name x xp) "append" apos) [e] [] cpos) (tBM K "list" rAppend (tVar i) (tCons te tNil)) (mXApp i me) := by
  subst hK
  exact ⟨pe_bm PySem.F.plainAttrs_list PySem.F.slot_list_append PySem.F.type_list_append mt_append (pe_var hN hv hd hcd) (pa_cons ha.p pa_nil hs) hbase hfew hline hs hplain, sim_xapp ha.s rfl⟩
theorem e_xix {i : Nat} {j : Nat} {x : Str} {k : Nat} (hN : X.N[i]? = some x) (hv : Vis X.env.scope x) (hd : (x == ("__debug__" : Str)) = false) (hcd : (x == ("__classdict__" : Str)) = false) (hs : PlainIx (.Constant (.int (j : Nat)) k q)) (hK : X.K = K := by rfl) :
    QE X K T W (.Subscript (.Name x p) (.Constant (.int (j : Nat)) k q) pos) (tOp (rIx K) (tVar i) (tC (.int (j : Nat)))) (mXIx i j) := by
  subst hK
  exact ⟨pe_ix ix_seq (pe_var hN hv hd hcd) pe_int hs, sim_xix rfl⟩
end
end Mk

/-! part MkO -/
/-! Mk, part 27: comprehensions over a list of one's own, that stays one's own. -/
namespace Mk
open PySem PySem.Spec PyProof.Rows L2 Evl Lk LamX
def mLcOL (i : Nat) (ds0 : List PyData) (g : MG) (t : MT) (e : ME) (vs : List Nat) : List PyData → List PyData → S → (List PyData → S → Prop) → Prop
  | [], acc, s, Q => s.env[i]? = some (some (.lst ds0)) ∧ Q acc s
  | d :: ds, acc, s, Q => s.env[i]? = some (some (.lst ds0)) ∧ g d s fun s1 => t s1 (fun b s2 => if b = true then mD e s2 (fun y s3 => acc.length < 100000 ∧ mLcOL i ds0 g t e vs ds (acc ++ [y]) (wipeS vs s3) Q) (fun _ _ => False) else mLcOL i ds0 g t e vs ds acc (wipeS vs s2) Q) (fun _ _ => False)
def mLcO (i : Nat) (g : MG) (t : MT) (e : ME) (vs : List Nat) : ME := fun s Q _ => match s.env[i]? with
  | some (some (.lst ds)) => (∀ v ∈ vs, v ∉ s.bor) ∧ i ∉ vs ∧ mLcOL i ds g t e vs ds [] (wipeS vs s) fun acc s2 => Q (.val (.lst acc)) s2
  | _ => False
section
variable {K : PySem.W.Frag} {T : List (Addr × Str)} {W : WX}
theorem mLcOL_at {i : Nat} {ds0 : List PyData} {g : MG} {t : MT} {e : ME} {vs : List Nat} : ∀ {ds acc : List PyData} {s : S} {Q : List PyData → S → Prop}, mLcOL i ds0 g t e vs ds acc s Q → s.env[i]? = some (some (.lst ds0))
  | [], _, _, _, h => h.1
  | _ :: _, _, _, _, h => h.1
theorem sim_lcO {K' : PySem.W.Frag} {i : Nat} {tg : TG} {g : MG} {tt : TT} {t : MT} {te : TE} {e : ME} {vs : List Nat} (hg : SimG K T tg g) (ho : GOnly tg vs) (hmo : GMono tg) (ht : SimT K T (fun _ _ _ _ => False) tt t) (he : SimE K T (fun _ _ _ _ => False) te e) (hK : K' = K) :
    SimE K T W (tLc (iAny K' (tVar i)) tg tt te vs) (mLcO i g t e vs) := by
  subst hK
  intro σ0 σ H s R fps I Qm Xm hm hx Q hQ
  unfold mLcO at hm
  split at hm
  · rename_i ds e0
    obtain ⟨hb, hi, q⟩ := hm
    obtain ⟨v0, hv0, hA0⟩ := I.at_ i _ e0
    cases hA0 with
    | lst hA0 hd0 hz0 =>
      rename_i a vs0
      refine ⟨.ref a, hv0, .inl ⟨a, rfl, ⟨vs0, sq_of hA0⟩, ?_⟩⟩
      intro D hD
      obtain ⟨fp, g2, hA, hfp⟩ := res_go (v := .ref D) (H' := upd H D (.lst [])) (o := .lst []) I (.lst hD .nil)
      cases hA with
      | lst hA hdA hz =>
        have zD : fp D := (hz D).mpr rfl
        have nR : ¬ R D := fun z => by
          have e := I.liv D z
          rw [hD] at e; exact e
        have g3 := g2.wipe (vs := vs) hb
        have bo : ∀ {s' : S}, s'.bor = s.bor → ∀ v ∈ vs, v ∉ s'.bor := fun {s'} e v hv => by
          rw [e]
          exact hb v hv
        refine ⟨fun j m H' => m = ds.length - j ∧ j ≤ ds.length ∧ ∃ s' fps' acc vsa, Go K' T σ0 H s R fps (L2.wipe σ vs) H' s' (alt R fp) fps' ∧ H' D = some (.lst vsa) ∧ DqAll K' (hid (Wf (alt R fp) fps') H') vsa acc ∧
          mLcOL i ds g t e vs (ds.drop j) acc s' (fun acc s2 => Qm (.val (.lst acc)) s2), ⟨ds.length, by simp, Nat.zero_le _, _, _, [], [], g3, upd_same, .nil, q⟩, ?_⟩
        · rintro j m H2 ⟨rfl, hi2, s2, fps2, acc, vsa, g4, hD4, hacc, q2⟩
          obtain ⟨w2, hw2, hB2⟩ := g4.iv.at_ i _ (mLcOL_at q2)
          rw [wipe_out hi, hv0] at hw2
          cases hw2
          cases hB2 with
          | lst hB2 hd2 hz2 =>
            rename_i vs2
            have h1 : SqL K' H2 a vs2 := sq_of hB2
            by_cases hlt : j < ds.length
            · obtain ⟨w, hw, dw⟩ := dps_at (i := j) hd2 (List.getElem?_eq_getElem hlt)
              rw [List.drop_eq_getElem_cons hlt] at q2
              refine .inr ⟨⟨vs2, w, h1, hw⟩, fun H' => ∃ s' fps' acc vsa, Go K' T σ0 H s R fps (L2.wipe σ vs) H' s' (alt R fp) fps' ∧ H' D = some (.lst vsa) ∧ DqAll K' (hid (Wf (alt R fp) fps') H') vsa acc ∧
                mLcOL i ds g t e vs (ds.drop (j + 1)) acc s' (fun acc s2 => Qm (.val (.lst acc)) s2), fun H' z => ⟨ds.length - (j + 1), by omega, rfl, hlt, z⟩, fun v H3 y => ?_⟩
              obtain ⟨rfl, y⟩ := y
              have ev := y vs2 h1
              rw [hw] at ev
              cases ev
              refine hmo _ _ _ (fun σ2 H2 => L2.wipe σ2 vs = L2.wipe (L2.wipe σ vs) vs ∧ (L2.wipe σ2 vs = L2.wipe σ vs → tt σ2 H2 fun b H3 => if b = true then te σ2 H3 fun y H4 => ∃ acc, H4 D = some (.lst acc) ∧ acc.length < sizeLine ∧ ∃ s' fps' acc1 vsa, Go K' T σ0 H s R fps (L2.wipe σ vs) (upd H4 D (.lst (acc ++ [y]))) s' (alt R fp) fps' ∧ (upd H4 D (.lst (acc ++ [y]))) D = some (.lst vsa) ∧ DqAll K' (hid (Wf (alt R fp) fps') (upd H4 D (.lst (acc ++ [y])))) vsa acc1 ∧
                  mLcOL i ds g t e vs (ds.drop (j + 1)) acc1 s' (fun acc s2 => Qm (.val (.lst acc)) s2) else ∃ s' fps' acc1 vsa, Go K' T σ0 H s R fps (L2.wipe σ vs) H3 s' (alt R fp) fps' ∧ H3 D = some (.lst vsa) ∧ DqAll K' (hid (Wf (alt R fp) fps') H3) vsa acc1 ∧
                  mLcOL i ds g t e vs (ds.drop (j + 1)) acc1 s' (fun acc s2 => Qm (.val (.lst acc)) s2))) _ (fun σ2 H2 z => ?_) (ho _ _ _ _ (hg σ0 (L2.wipe σ vs) _ s2 (alt R fp) fps2 g4.iv _ _ dw _ q2.2 _ fun σ6 H6 s6 fps6 g6 q6 hw => ?_))
              · rw [wipe_wipe] at z
                exact ⟨z.1, z.2 z.1⟩
              · have xf : ∀ {σ : L2.St} {H : Hp} {s : S} {R : Ad} {fps : Nat → Ad}, XOk K' T (fun _ _ _ _ => False) σ0 σ H s R fps (fun _ _ => False) := fun {σ H s R fps} C H' s' fps' _ z => z
                have D6 : H6 D = some (.lst vsa) := (g6.kp D (.inr zD)).trans hD4
                refine ht σ0 σ6 H6 s6 _ fps6 g6.iv _ _ q6 xf _ fun b H7 s7 fps7 g7 q7 => ?_
                have g57 := g6.trans g7
                have D7 : H7 D = some (.lst vsa) := (g7.kp D (.inr zD)).trans D6
                cases b with
                | true =>
                  refine sim_d he σ0 σ6 H7 s7 _ fps7 g7.iv _ _ q7 xf _ fun w H8 s8 y fps8 g8 hy q8 => ?_
                  have g58 := g57.trans g8
                  have D8 : H8 D = some (.lst vsa) := (g8.kp D (.inr zD)).trans D7
                  have G8 : Go K' T σ0 H s R fps σ6 H8 s8 (alt R fp) fps8 := ⟨g8.iv, fun a z => (g58.kp a (.inl z)).trans (g4.kp a z), g4.gr.trans g58.gr, g58.bo.trans g4.bo, Nat.le_trans g4.le g58.le, fun _ z => .inl z⟩
                  obtain ⟨G9, m9⟩ := mutR_go (vs' := vsa ++ [w]) G8 D8 zD nR
                  have G10 := G9.wipe (vs := vs) (bo G9.bo)
                  rw [hw] at G10
                  have m10 : Gr (Wf (alt R fp) fps8) H8 (Wf (alt R fp) (fwipe fps8 vs)) (upd H8 D (.lst (vsa ++ [w]))) := m9.trans (gr_sub fun a z => z.imp id fun ⟨i, y⟩ => ⟨i, (fwipe_in y).1⟩)
                  have ln : vsa.length = acc.length := dps_len hacc
                  exact ⟨vsa, D8, sz_lt (by rw [ln]; exact q8.1), _, _, acc ++ [y], vsa ++ [w], G10, upd_same, dps_app (dps_ex m10 _ _ (dps_ex g58.gr _ _ hacc)) (.cons (dp_ex m10 _ _ hy) .nil), q8.2⟩
                | false =>
                  have G8 : Go K' T σ0 H s R fps σ6 H7 s7 (alt R fp) fps7 := ⟨g7.iv, fun a z => (g57.kp a (.inl z)).trans (g4.kp a z), g4.gr.trans g57.gr, g57.bo.trans g4.bo, Nat.le_trans g4.le g57.le, fun _ z => .inl z⟩
                  have G10 := G8.wipe (vs := vs) (bo G8.bo)
                  rw [hw] at G10
                  have m10 : Gr (Wf (alt R fp) fps7) H7 (Wf (alt R fp) (fwipe fps7 vs)) H7 := gr_sub fun a z => z.imp id fun ⟨i, y⟩ => ⟨i, (fwipe_in y).1⟩
                  exact ⟨_, _, acc, vsa, G10, D7, dps_ex m10 _ _ (dps_ex g57.gr _ _ hacc), q7⟩
            · refine .inl ⟨⟨vs2, h1, by rw [dps_len hd2]; omega⟩, ?_⟩
              rw [List.drop_eq_nil_of_le (by omega)] at q2
              have bo2 := bo g4.bo
              have g6 := g4.unwipe bo2
              exact hQ (.ref D) H2 s2 _ fp fps2 g6 (.val (.lst hD4 hacc hz)) (fun a z y => nR (by rw [(hz a).mp z] at y; exact y)) q2.2
  · exact hm.elim
variable {X : Cx} {pos p : Pos} {te : TE} {me : ME}
theorem e_lcO {i : Nat} {x : Str} {elt tg : Expr} {ifs : List Expr} {scope : Scope} {own : List (Str × Nat)} {g : TG} {tt : TT} {mg : MG} {mt : MT} (hc : X.calm = true) (hN : X.N.Nodup) (hNi : X.N[i]? = some x) (hv : Vis X.env.scope x) (hd : (x == ("__debug__" : Str)) = false) (hcd : (x == ("__classdict__" : Str)) = false) (ok : BlkOk X.N X.env.scope scope own)
    (hg : ∀ (s : Shared) (H : Hp) (C : Addr) (cl : List (Str × Addr)) (fp : List Addr), QG (X.blk s H scope (compEnvC scope cl C X.env) fp) K T tg g mg) (ho : GOnly g (own.map (·.2)))
    (ht : ∀ (s : Shared) (H : Hp) (C : Addr) (cl : List (Str × Addr)) (fp : List Addr), QTs (X.blk s H scope (compEnvC scope cl C X.env) fp) K T W0 ifs tt mt)
    (he : ∀ (s : Shared) (H : Hp) (C : Addr) (cl : List (Str × Addr)) (fp : List Addr), QE (X.blk s H scope (compEnvC scope cl C X.env) fp) K T W0 elt te me) (hK : X.K = K := by rfl)
    (hs : ∀ y, foldedSetIterable (.Name x p) X.env y = pure y := by intro _; rfl) : QE X K T W (.ListComp elt [⟨tg, .Name x p, ifs, 0⟩] scope pos) (tLc (iAny K (tVar i)) g tt te (own.map (·.2))) (mLcO i mg mt me (own.map (·.2))) := by
  subst hK
  exact ⟨pe_lc hc hN (pi_any (pe_var hNi hv hd hcd)) ok (fun s H C cl fp => (hg s H C cl fp).p) (fun s H C cl fp => (ht s H C cl fp).p) (fun s H C cl fp => (he s H C cl fp).p) hs,
    sim_lcO (hg X.s_0 X.H_0 0 [] []).s ho (hg X.s_0 X.H_0 0 [] []).o (ht X.s_0 X.H_0 0 [] []).s (he X.s_0 X.H_0 0 [] []).s rfl⟩
end
/-- .. step by step: over the list's items, the slot as it is -/
theorem x_lcO {i n : Nat} {ev ev' : List (Option O)} {bo : List Nat} {ds : List PyData} {g : MG} {t : MT} {e : ME} {vs : List Nat} {P : Rs → S → Prop} {X : XM} (keep : PyData → Bool) (val : PyData → PyData) (h0 : ev[i]? = some (some (.lst ds))) (hb : ∀ v ∈ vs, v ∉ bo) (hi : i ∉ vs) (hw : wipeE ev vs = ev') (hi' : ev'[i]? = some (some (.lst ds))) (hl : ds.length ≤ 100000)
    (h : ∀ d ∈ ds, ∀ (A : PyData → S → Prop) (B : S → Prop), (keep d = true → A (val d) ⟨ev', n, bo⟩) → (keep d = false → B ⟨ev', n, bo⟩) → g d ⟨ev', n, bo⟩ fun s1 => t s1 (fun b s2 => if b = true then mD e s2 (fun y s3 => A y (wipeS vs s3)) (fun _ _ => False) else B (wipeS vs s2)) fun _ _ => False)
    (q : P (.val (.lst ((ds.filter keep).map val))) ⟨ev', n, bo⟩) : mLcO i g t e vs ⟨ev, n, bo⟩ P X := by
  subst hw
  have e' : (S.mk ev n bo).env[i]? = some (some (.lst ds)) := h0
  unfold mLcO
  rw [e']
  refine ⟨hb, hi, ?_⟩
  have key : ∀ (l acc : List PyData), (∀ d ∈ l, d ∈ ds) → acc.length + l.length ≤ 100000 → P (.val (.lst (acc ++ (l.filter keep).map val))) ⟨wipeE ev vs, n, bo⟩ → mLcOL i ds g t e vs l acc ⟨wipeE ev vs, n, bo⟩ fun acc s2 => P (.val (.lst acc)) s2 := by
    intro l
    induction l with
    | nil => intro acc _ _ q; exact ⟨hi', by simpa using q⟩
    | cons d l ih =>
      intro acc hm hl q
      rw [List.length_cons] at hl
      refine ⟨hi', h d (hm d List.mem_cons_self) (fun y s3 => acc.length < 100000 ∧ mLcOL i ds g t e vs l (acc ++ [y]) s3 fun acc s2 => P (.val (.lst acc)) s2) (fun s2 => mLcOL i ds g t e vs l acc s2 fun acc s2 => P (.val (.lst acc)) s2) (fun hk => ⟨by omega, ?_⟩) fun hk => ?_⟩
      · refine ih _ (fun y hy => hm y (List.mem_cons_of_mem _ hy)) (by rw [List.length_append]; simp; omega) ?_
        rw [List.filter_cons_of_pos hk, List.map_cons] at q
        simpa using q
      · refine ih _ (fun y hy => hm y (List.mem_cons_of_mem _ hy)) (by omega) ?_
        rw [List.filter_cons_of_neg (by rw [hk]; exact Bool.false_ne_true)] at q
        exact q
  exact key ds [] (fun _ z => z) (by simpa using hl) (by simpa using q)
end Mk

/-! part Mp -/
/-! Mk, part 17: what the denotations come to, by simp. -/
namespace Mk
open PySem PySem.Spec PyProof.Rows L2 Evl Lk LamX
@[simp] theorem u_runF (p N : Nat) (b : MS) : (runF p N b : Den) = fun os n Q X => os.length = p ∧ runD N b os n Q X := rfl
@[simp] theorem u_runD (N : Nat) (b : MS) : (runD N b : Den) = fun os n Qm Xm => b (s0Of N os n) (kOf os Qm Xm) := rfl
@[simp] theorem u_s0Of (N : Nat) (os : List O) (n : Nat) : (s0Of N os n : S) = (⟨os.map some ++ List.replicate (N - os.length) none, n, ownsFrom 0 os⟩) := rfl
@[simp] theorem u_mRet (m : ME) : (mRet m : MS) = fun s k => m s (fun r s1 => match mov s1 r with
  | some (o, s2) => k.rt o s2
  | none => False) k.er := rfl
@[simp] theorem u_mRetN  : (mRetN  : MS) = fun s k => k.rt (.dat .none) s := rfl
@[simp] theorem u_mAndV (a : MT) (b : ME) : (mAndV a b : ME) = fun s Q X => a s (fun c s1 => if c = true then b s1 Q X else Q (.val (.dat (.bool false))) s1) X := rfl
@[simp] theorem u_mOrV (a : MT) (b : ME) : (mOrV a b : ME) = fun s Q X => a s (fun c s1 => if c = true then Q (.val (.dat (.bool true))) s1 else b s1 Q X) X := rfl
@[simp] theorem u_mB (m : ME) : (mB m : MT) = fun s Q X => m s (fun r s1 => match r with
  | .val (.dat (.bool b)) => Q b s1
  | _ => False) X := rfl
@[simp] theorem u_mIsi (f : PyData → Bool) (m : ME) : (mIsi f m : ME) = fun s Q X => m s (fun r s1 => match rd s1 r with
  | some d => Q (.val (.dat (.bool (f d)))) s1
  | none => False) X := rfl
@[simp] theorem u_mIsE (K : PySem.W.Frag) (C : Addr) (m : ME) : (mIsE K C m : ME) = fun s Q X => m s (fun r s1 => match r with
  | .val (.exc D) => ExcC K D ∧ ∃ b, PySem.W.kitOne K (.ref D) (.ref C) = some b ∧ Q (.val (.dat (.bool b))) s1
  | .val (.dat .none) => ∃ b, PySem.W.kitOne K (.type "NoneType") (.ref C) = some b ∧ Q (.val (.dat (.bool b))) s1
  | _ => False) X := rfl
@[simp] theorem u_mVar (i : Nat) : (mVar i : ME) = fun s Q _ => match s.env[i]? with
  | some (some (.dat d)) => Q (.val (.dat d)) s
  | some (some (.exc C)) => Q (.val (.exc C)) s
  | some (some _) => Q (.slot i) s
  | _ => False := rfl
@[simp] theorem u_mC (d : PyData) : (mC d : ME) = fun s Q _ => Q (.val (.dat d)) s := rfl
@[simp] theorem u_mNotV (a : MT) : (mNotV a : ME) = fun s Q X => a s (fun c s1 => Q (.val (.dat (.bool (!c)))) s1) X := rfl
@[simp] theorem u_mNot (a : MT) : (mNot a : MT) = fun s Q X => a s (fun c s1 => Q (!c) s1) X := rfl
@[simp] theorem u_mAnd (a b : MT) : (mAnd a b : MT) = fun s Q X => a s (fun c s1 => if c = true then b s1 Q X else Q false s1) X := rfl
@[simp] theorem u_mOr (a b : MT) : (mOr a b : MT) = fun s Q X => a s (fun c s1 => if c = true then Q true s1 else b s1 Q X) X := rfl
@[simp] theorem u_mChain (f f' : PyData → PyData → FO) (a b c : MD) : (mChain f f' a b c : ME) = fun s Q X => a s (fun d s1 => b s1 (fun e s2 => f d e fun o => bOf o fun k => if k = true then c s2 (fun z s3 => f' e z fun o2 => bOf o2 fun k2 => Q (.val (.dat (.bool k2))) s3) X else Q (.val (.dat (.bool false))) s2) X) X := rfl
@[simp] theorem u_bOf (o : O) (Q : Bool → Prop) : (bOf o Q : Prop) = (match o with
  | .dat (.bool b) => Q b
  | _ => False) := rfl
@[simp] theorem u_mD (m : ME) : (mD m : MD) = fun s Q X => m s (fun r s1 => match frz s1 r with
  | some (d, s2) => Q d s2
  | none => False) X := rfl
@[simp] theorem u_mOp (f : PyData → PyData → FO) (a b : ME) : (mOp f a b : ME) = (mCB (fl2 f) (mCons a (mCons b mNil))) := rfl
@[simp] theorem u_mUn (f : PyData → FO) (a : ME) : (mUn f a : ME) = (mCB (fl1 f) (mCons a mNil)) := rfl
@[simp] theorem u_mCB (f : List PyData → (O → Prop) → Prop) (m : MA) : (mCB f m : ME) = fun s Q X => m s (fun rs s1 => match rds s1 rs with
  | some ds => f ds fun o => Q (.val o) s1
  | none => False) X := rfl
@[simp] theorem u_mCons (m : ME) (r : MA) : (mCons m r : MA) = fun s Q X => m s (fun x s1 => r s1 (fun xs s2 => Q (x :: xs) s2) X) X := rfl
@[simp] theorem u_mNil  : (mNil  : MA) = fun s Q _ => Q [] s := rfl
@[simp] theorem u_mIfE (c : MT) (a b : ME) : (mIfE c a b : ME) = fun s Q X => c s (fun k s1 => if k = true then a s1 Q X else b s1 Q X) X := rfl
@[simp] theorem u_mIf (c : MT) (a b : MS) : (mIf c a b : MS) = fun s k => c s (fun q s1 => if q = true then a s1 k else b s1 k) k.er := rfl
@[simp] theorem u_mSeq (a b : MS) : (mSeq a b : MS) = fun s k => a s { k with nx := fun s1 => b s1 k } := rfl
@[simp] theorem u_mNext  : (mNext  : MS) = fun s k => k.nx s := rfl
@[simp] theorem u_mDrop (m : ME) : (mDrop m : MS) = fun s k => m s (fun _ s1 => k.nx s1) k.er := rfl
@[simp] theorem u_mAsg (i : Nat) (m : ME) : (mAsg i m : MS) = fun s k => m s (fun r s1 => asg i r s1 k.nx) k.er := rfl
@[simp] theorem u_asg (i : Nat) (r : Rs) (s : S) (Q : S → Prop) : (asg i r s Q : Prop) = (match mov s r with
  | some (o, s2) => i ∉ s2.bor ∧ i < s2.env.length ∧ Q (putO s2 i o)
  | none => False) := rfl
@[simp] theorem u_putO (s : S) (i : Nat) (o : O) : (putO s i o : S) = (⟨s.env.set i (some o), s.n, s.bor⟩) := rfl
@[simp] theorem u_mAsgG (g : MG) (m : MD) : (mAsgG g m : MS) = fun s k => m s (fun d s1 => g d s1 k.nx) k.er := rfl
@[simp] theorem u_mgN (i : Nat) : (mgN i : MG) = fun d s Q => i ∉ s.bor ∧ i < s.env.length ∧ Q (putO s i (.dat d)) := rfl
@[simp] theorem u_mgCons (m : MG) (r : MGs) : (mgCons m r : MGs) = fun ds s Q => match ds with
  | d :: ds => m d s fun s1 => r ds s1 Q
  | [] => False := rfl
@[simp] theorem u_mgNil  : (mgNil  : MGs) = fun ds s Q => ds = [] ∧ Q s := rfl
@[simp] theorem u_mMv (m : ME) : (mMv m : ME) = fun s Q X => m s (fun r s1 => match mov s1 r with
  | some (o, s2) => Q (.val o) s2
  | none => False) X := rfl
@[simp] theorem u_mFz (m : ME) : (mFz m : ME) = fun s Q X => m s (fun r s1 => match frz s1 r with
  | some (d, s2) => Q (.val (.dat d)) s2
  | none => False) X := rfl
@[simp] theorem u_mPar (is : List Nat) (m : MA) : (mPar is m : MS) = fun s k => m s (fun rs s1 => puts is rs s1 k.nx) k.er := rfl
@[simp] theorem u_mDis (f : List PyData → O) (m : MA) : (mDis f m : ME) = fun s Q X => m s (fun rs s1 => match dats rs with
  | some ds => ds.length ≤ 100000 ∧ Q (.val (f ds)) s1
  | none => False) X := rfl
@[simp] theorem u_mRaise (C : Addr) : (mRaise C : MS) = fun s k => k.er C s := rfl
@[simp] theorem u_mCall (G : Den) (m : MA) : (mCall G m : ME) = fun s Q X => m s (fun rs s1 => match gets s1 rs with
  | some os => (slotsOf rs).Nodup ∧ G os s1.n (fun o os' n' => Q (.val o) (backs rs os' ⟨s1.env, n', s1.bor⟩)) (fun C os' n' => X C (backs rs os' ⟨s1.env, n', s1.bor⟩))
  | none => False) X := rfl
@[simp] theorem u_mCall0 (G : Den) (m : MA) : (mCall0 G m : ME) = fun s Q X => mCall G m s Q fun _ _ => False := rfl
@[simp] theorem u_mLM (f : List PyData → List PyData → (List PyData → PyData → Prop) → Prop) (i : Nat) (m : MA) : (mLM f i m : ME) = fun s Q X => isLst s i ∧ m s (fun rs s1 => match dats rs, s1.env[i]? with
  | some es, some (some (.lst ds)) => f ds es fun ds' d' => Q (.val (.dat d')) (putO s1 i (.lst ds'))
  | _, _ => False) X := rfl
@[simp] theorem u_isLst (s : S) (i : Nat) : (isLst s i : Prop) = (match s.env[i]? with
  | some (some (.lst _)) => True
  | _ => False) := rfl
@[simp] theorem u_fAppend  : (fAppend  : List PyData → List PyData → (List PyData → PyData → Prop) → Prop) = fun ds es Q => match es with
    | [e] => ds.length < 100000 ∧ Q (ds ++ [e]) .none
    | _ => False := rfl
@[simp] theorem u_mSl (m : ME) (lo hi : MO) : (mSl m lo hi : ME) = fun s Q X => m s (fun r s1 => lo s1 (fun l s2 => hi s2 (fun h s3 => match rd s3 r with
  | some d => fSl d l h fun o => Q (.val o) s3
  | none => False) X) X) X := rfl
@[simp] theorem u_mONone  : (mONone  : MO) = fun s Q _ => Q none s := rfl
@[simp] theorem u_mOSome (m : MD) : (mOSome m : MO) = fun s Q X => m s (fun d s1 => match d with
  | .int i => Q (some i) s1
  | _ => False) X := rfl
@[simp] theorem u_mStar (m : ME) (r : MA) : (mStar m r : MA) = fun s Q X => mD m s (fun d s1 => match seqOf d with
  | some ds => r s1 (fun rs s2 => Q (ds.map (fun d => .val (.dat d)) ++ rs) s2) X
  | none => False) X := rfl
@[simp] theorem u_mIt (m : ME) : (mIt m : MI) = fun s Q X => mD m s (fun d s1 => match itemsOf d with
  | some ds => Q ds s1
  | none => False) X := rfl
@[simp] theorem u_mFor (i : MI) (g : MG) (b : MS) : (mFor i g b : MS) = fun s k => i s (fun ds s1 => mForL g b ds s1 k) k.er := rfl
@[simp] theorem u_mBreak  : (mBreak  : MS) = fun s k => k.bk s := rfl
@[simp] theorem u_mCont  : (mCont  : MS) = fun s k => k.ct s := rfl
@[simp] theorem u_mAug (i : Nat) (f : Int → Int → Int) (m : MD) : (mAug i f m : MS) = fun s k => match s.env[i]? with
  | some (some (.dat (.int a))) => m s (fun d s1 => match d with
    | .int b => i ∉ s1.bor ∧ i < s1.env.length ∧ k.nx (putO s1 i (.dat (.int (f a b))))
    | _ => False) k.er
  | _ => False := rfl
@[simp] theorem u_fSub  : (fSub  : PyData → PyData → FO) = (fI0 fun a b => a - b) := rfl
@[simp] theorem u_fFdiv  : (fFdiv  : PyData → PyData → FO) = (fI2 CDivW fun a b => a / b) := rfl
@[simp] theorem u_fMod  : (fMod  : PyData → PyData → FO) = (fI2 (fun _ b => 0 < b) fun a b => a % b) := rfl
@[simp] theorem u_fPow  : (fPow  : PyData → PyData → FO) = (fI2 CPow fun a b => a ^ b.toNat) := rfl
@[simp] theorem u_fEq  : (fEq  : PyData → PyData → FO) = fun d e Q => eqOk d e ∧ Q (.dat (.bool (eqd d e))) := rfl
@[simp] theorem u_fNe  : (fNe  : PyData → PyData → FO) = fun d e Q => SeqAt.shaped d = true ∧ SeqAt.shaped e = true ∧ Q (.dat (.bool (!eqd d e))) := rfl
@[simp] theorem u_fLt  : (fLt  : PyData → PyData → FO) = (fCmp (fun a b => decide (a < b)) fun a b => decide (a.cps.toList < b.cps.toList)) := rfl
@[simp] theorem u_fGt  : (fGt  : PyData → PyData → FO) = (fCmp (fun a b => decide (b < a)) fun a b => decide (b.cps.toList < a.cps.toList)) := rfl
@[simp] theorem u_fGe  : (fGe  : PyData → PyData → FO) = (fCmp (fun a b => decide (b ≤ a)) fun a b => !decide (a.cps.toList < b.cps.toList)) := rfl
@[simp] theorem u_mRng1 (m : MA) : (mRng1 m : MI) = fun s Q X => m s (fun rs s1 => match dats rs with
  | some [.int j] => -(2 ^ 62) ≤ j ∧ j < 2 ^ 62 ∧ Q (intsFrom 0 j.toNat) s1
  | _ => False) X := rfl
@[simp] theorem u_mRng2 (m : MA) : (mRng2 m : MI) = fun s Q X => m s (fun rs s1 => match dats rs with
  | some [.int i, .int j] => (-(2 ^ 62) ≤ i ∧ i < 2 ^ 62 ∧ -(2 ^ 62) ≤ j ∧ j < 2 ^ 62) ∧ Q (intsFrom i (j - i).toNat) s1
  | _ => False) X := rfl
@[simp] theorem u_mLPut (i : Nat) (mk mv : MD) : (mLPut i mk mv : MS) = fun s k => mv s (fun d s1 => isLst s1 i ∧ mk s1 (fun y s2 => match s2.env[i]?, y with
  | some (some (.lst ds)), .int j => match ixN ds.length j with
    | some n => k.nx (putO s2 i (.lst (ds.set n d)))
    | none => False
  | _, _ => False) k.er) k.er := rfl
@[simp] theorem u_mDPut (i : Nat) (mk mv : MD) : (mDPut i mk mv : MS) = fun s k => mv s (fun d s1 => isDct s1 i ∧ mk s1 (fun y s2 => match s2.env[i]?, keyOf y with
  | some (some (.dct kvs)), some key => kvs.length < 100000 ∧ k.nx (putO s2 i (.dct (putD kvs key d)))
  | _, _ => False) k.er) k.er := rfl
@[simp] theorem u_mDNew  : (mDNew  : ME) = fun s Q _ => Q (.val (.dct [])) s := rfl
@[simp] theorem u_mGet2 (m : ME) (mk mx : MD) : (mGet2 m mk mx : ME) = fun s Q X => m s (fun r s1 => (∃ kvs, dctOf s1 r = some kvs) ∧ mk s1 (fun k s2 => mx s2 (fun z s3 => match dctOf s3 r, keyOf k with
  | some kvs, some k => Q (.val (.dat ((getK kvs k).getD z))) s3
  | _, _ => False) X) X) X := rfl
@[simp] theorem u_mGetD (m : ME) (mk : MD) : (mGetD m mk : ME) = fun s Q X => m s (fun r s1 => mk s1 (fun k s2 => match dctOf s2 r, keyOf k with
  | some kvs, some k => match getK kvs k with
    | some d => Q (.val (.dat d)) s2
    | none => False
  | _, _ => False) X) X := rfl
@[simp] theorem u_isDct (s : S) (i : Nat) : (isDct s i : Prop) = (match s.env[i]? with
  | some (some (.dct _)) => True
  | _ => False) := rfl
@[simp] theorem u_mYes  : (mYes  : MT) = fun s Q _ => Q true s := rfl
@[simp] theorem u_mLc (i : MI) (g : MG) (t : MT) (e : ME) (vs : List Nat) : (mLc i g t e vs : ME) = fun s Q X => i s (fun ds s1 => (∀ v ∈ vs, v ∉ s1.bor) ∧ mLcL g t e vs ds [] (wipeS vs s1) fun acc s2 => Q (.val (.lst acc)) s2) X := rfl
@[simp] theorem u_wipeS (vs : List Nat) (s : S) : (wipeS vs s : S) = (⟨wipeE s.env vs, s.n, s.bor⟩) := rfl
@[simp] theorem u_mCaught (K : PySem.W.Frag) (CS : Addr) (m : ME) : (mCaught K CS m : ME) = fun s Q _ => m s (fun _ s1 => Q (.val (.dat .none)) s1) (fun C s1 => PySem.W.exmOne K (.ref C) (.ref CS) = some true ∧ Q (.val (.exc C)) s1) := rfl
@[simp] theorem u_fSl (d : PyData) (lo hi : Option Int) : (fSl d lo hi : FO) = fun Q => match d with
  | .list ds => Q (.lst (cutD ds lo hi))
  | .tuple ds => Q (.dat (.tuple (cutD ds lo hi)))
  | .str z => z.length ≤ 100000 ∧ Q (.dat (.str (cutS z lo hi)))
  | _ => False := rfl
@[simp] theorem u_fIn  : (fIn  : PyData → PyData → FO) = fun d e Q => match inB d e with
  | some b => Q (.dat (.bool b))
  | none => False := rfl
@[simp] theorem u_fNotIn  : (fNotIn  : PyData → PyData → FO) = fun d e Q => match inB d e with
  | some b => Q (.dat (.bool (!b)))
  | none => False := rfl
@[simp] theorem u_mgT (n : Nat) (m : MGs) : (mgT n m : MG) = fun d s Q => match d with
  | .tuple ds => ds.length = n ∧ m ds s Q
  | _ => False := rfl

section
variable {s : S} {os : List O} {o : O} {n k i j N : Nat} {d e : PyData} {ds es : List PyData} {rs : List Rs} {r : Rs} {Q : O → List O → Nat → Prop} {X : Addr → List O → Nat → Prop} {C : Addr} {q : O → Prop}
@[simp] theorem u_kOf_nx : (kOf os Q X).nx s = (match fins os s.env with
  | some os' => Q (.dat .none) os' s.n
  | none => False) := rfl
@[simp] theorem u_kOf_rt : (kOf os Q X).rt o s = (match fins os s.env with
  | some os' => Q o os' s.n
  | none => False) := rfl
@[simp] theorem u_kOf_er : (kOf os Q X).er C s = (match fins os s.env with
  | some os' => X C os' s.n
  | none => False) := rfl
@[simp] theorem u_owns_nil : ownsFrom k [] = [] := rfl
@[simp] theorem u_owns_dat : ownsFrom k (.dat d :: os) = ownsFrom (k + 1) os := rfl
@[simp] theorem u_owns_exc : ownsFrom k (.exc C :: os) = ownsFrom (k + 1) os := rfl
@[simp] theorem u_owns_st : ownsFrom k (.st :: os) = k :: ownsFrom (k + 1) os := rfl
@[simp] theorem u_owns_lst : ownsFrom k (.lst ds :: os) = k :: ownsFrom (k + 1) os := rfl
@[simp] theorem u_fins_nil {es : List (Option O)} : fins [] es = some [] := by cases es <;> rfl
@[simp] theorem u_fins_dat {x : Option O} {es : List (Option O)} : fins (.dat d :: os) (x :: es) = (fins os es).map (O.dat d :: ·) := by
  show (match some (O.dat d), fins os es with
    | some x, some xs => some (x :: xs)
    | _, _ => none) = _
  cases fins os es <;> rfl
@[simp] theorem u_fins_exc {x : Option O} {es : List (Option O)} : fins (.exc C :: os) (x :: es) = (fins os es).map (O.exc C :: ·) := by
  show (match some (O.exc C), fins os es with
    | some x, some xs => some (x :: xs)
    | _, _ => none) = _
  cases fins os es <;> rfl
@[simp] theorem u_fins_st {x : O} {es : List (Option O)} : fins (.st :: os) (some x :: es) = (fins os es).map (x :: ·) := by
  show (match some x, fins os es with
    | some x, some xs => some (x :: xs)
    | _, _ => none) = _
  cases fins os es <;> rfl
@[simp] theorem u_fins_lst {x : O} {es : List (Option O)} : fins (.lst ds :: os) (some x :: es) = (fins os es).map (x :: ·) := by
  show (match some x, fins os es with
    | some x, some xs => some (x :: xs)
    | _, _ => none) = _
  cases fins os es <;> rfl
@[simp] theorem u_mov_dat : mov s (.val (.dat d)) = some (.dat d, s) := rfl
@[simp] theorem u_mov_exc : mov s (.val (.exc C)) = some (.exc C, s) := rfl
@[simp] theorem u_mov_lst : mov s (.val (.lst ds)) = some (.lst ds, s) := rfl
@[simp] theorem u_mov_st : mov s (.val .st) = some (.st, s) := rfl
@[simp] theorem u_mov_dct {kvs : List (Key × PyData)} : mov s (.val (.dct kvs)) = some (.dct kvs, s) := rfl
@[simp] theorem u_mov_slot : mov s (.slot i) = (match s.env[i]? with
    | some (some (.dct kvs)) => some (.dct kvs, ⟨s.env.set i none, s.n, s.bor⟩)
    | _ => match frz s (.slot i) with
      | some (d, s1) => some (.dat d, s1)
      | none => none) := rfl
@[simp] theorem u_frz_dat : frz s (.val (.dat d)) = some (d, s) := rfl
@[simp] theorem u_frz_lst : frz s (.val (.lst ds)) = some (.list ds, s) := rfl
@[simp] theorem u_frz_dct : frz s (.val (.dct [])) = some (.dict [], s) := rfl
@[simp] theorem u_frz_exc : frz s (.val (.exc C)) = none := rfl
@[simp] theorem u_frz_slot : frz s (.slot i) = (match s.env[i]? with
    | some (some (.dat d)) => some (d, s)
    | some (some (.lst ds)) => some (.list ds, ⟨s.env.set i (some (.dat (.list ds))), s.n, s.bor⟩)
    | _ => none) := rfl
@[simp] theorem u_rd_dat : rd s (.val (.dat d)) = some d := rfl
@[simp] theorem u_rd_lst : rd s (.val (.lst ds)) = some (.list ds) := rfl
@[simp] theorem u_rd_dct : rd s (.val (.dct [])) = some (.dict []) := rfl
@[simp] theorem u_rd_slot : rd s (.slot i) = (match s.env[i]? with
    | some (some o) => rdO o
    | _ => none) := rfl
@[simp] theorem u_rdO_dat : rdO (.dat d) = some d := rfl
@[simp] theorem u_rdO_lst : rdO (.lst ds) = some (.list ds) := rfl
@[simp] theorem u_rds_nil : rds s [] = some [] := rfl
@[simp] theorem u_rds_cons : rds s (r :: rs) = (match rd s r, rds s rs with
  | some d, some ds => some (d :: ds)
  | _, _ => none) := rfl
@[simp] theorem u_fl1 {f : PyData → FO} : fl1 f [d] q = f d q := rfl
@[simp] theorem u_fl2 {f : PyData → PyData → FO} : fl2 f [d, e] q = f d e q := rfl
@[simp] theorem u_puts_nil {q : S → Prop} : puts [] [] s q = q s := rfl
@[simp] theorem u_puts_cons {is : List Nat} {q : S → Prop} : puts (i :: is) (.val o :: rs) s q = (i ∉ s.bor ∧ i < s.env.length ∧ puts is rs (putO s i o) q) := rfl
@[simp] theorem u_dats_nil : dats [] = some [] := rfl
@[simp] theorem u_dats_cons : dats (.val (.dat d) :: rs) = (dats rs).map (d :: ·) := by
  show (match dats rs with
    | some ds => some (d :: ds)
    | none => none) = _
  cases dats rs <;> rfl
@[simp] theorem u_gets_nil : gets s [] = some [] := rfl
@[simp] theorem u_gets_val : gets s (.val o :: rs) = (gets s rs).map (o :: ·) := by
  show (match gets s rs with
    | some os => some (o :: os)
    | none => none) = _
  cases gets s rs <;> rfl
@[simp] theorem u_gets_slot : gets s (.slot i :: rs) = (match s.env[i]?, gets s rs with
    | some (some o), some os => some (o :: os)
    | _, _ => none) := rfl
@[simp] theorem u_slots_nil : slotsOf [] = [] := rfl
@[simp] theorem u_slots_val : slotsOf (.val o :: rs) = slotsOf rs := rfl
@[simp] theorem u_slots_slot : slotsOf (.slot i :: rs) = i :: slotsOf rs := rfl
@[simp] theorem u_backs_nil : backs [] os s = s := by cases os <;> rfl
@[simp] theorem u_backs_val {o' : O} : backs (.val o :: rs) (o' :: os) s = backs rs os s := rfl
@[simp] theorem u_backs_slot {o' : O} : backs (.slot i :: rs) (o' :: os) s = backs rs os (putO s i o') := rfl
@[simp] theorem u_fI0 {g : Int → Int → Int} {a b : Int} : fI0 g (.int a) (.int b) q = q (.dat (.int (g a b))) := rfl
@[simp] theorem u_fI2 {c : Int → Int → Prop} {g : Int → Int → Int} {a b : Int} : fI2 c g (.int a) (.int b) q = (c a b ∧ q (.dat (.int (g a b)))) := rfl
@[simp] theorem u_fCmp {f : Int → Int → Bool} {g : Str → Str → Bool} {a b : Int} : fCmp f g (.int a) (.int b) q = q (.dat (.bool (f a b))) := rfl
@[simp] theorem u_fCmpS {f : Int → Int → Bool} {g : Str → Str → Bool} {a b : Str} : fCmp f g (.str a) (.str b) q = q (.dat (.bool (g a b))) := rfl
@[simp] theorem u_fAdd {a b : Int} : fAdd (.int a) (.int b) q = q (.dat (.int (a + b))) := rfl
@[simp] theorem u_fAddS {a b : Str} : fAdd (.str a) (.str b) q = (a.length + b.length ≤ 100000 ∧ q (.dat (.str (a ++ b)))) := rfl
@[simp] theorem u_fAddL : fAdd (.list ds) (.list es) q = (ds.length + es.length ≤ 100000 ∧ q (.lst (ds ++ es))) := rfl
@[simp] theorem u_fAddT : fAdd (.tuple ds) (.tuple es) q = (ds.length + es.length ≤ 100000 ∧ q (.dat (.tuple (ds ++ es)))) := rfl
@[simp] theorem u_fMul {a b : Int} : fMul (.int a) (.int b) q = (CMulA a b ∧ q (.dat (.int (a * b)))) := rfl
@[simp] theorem u_fMulS {a : Str} {b : Int} : fMul (.str a) (.int b) q = (2 ≤ b ∧ b ≤ 1000 ∧ 1 ≤ a.cps.size ∧ a.cps.size ≤ 1000 ∧ q (.dat (.str (repS a b.toNat)))) := rfl
@[simp] theorem u_fMulT {b : Int} : fMul (.tuple ds) (.int b) q = (ds ≠ [] ∧ 2 ≤ b ∧ b ≤ 1000 ∧ ds.length ≤ 1000 ∧ q (.dat (.tuple (List.replicate b.toNat ds).flatten))) := rfl
@[simp] theorem u_fLe {a b : Int} : fLe (.int a) (.int b) q = q (.dat (.bool (decide (a ≤ b)))) := rfl
@[simp] theorem u_fLeT : fLe (.tuple ds) (.tuple es) q = (match intsOf? ds, intsOf? es with
    | some ns, some ms => q (.dat (.bool (leTup ns ms)))
    | _, _ => False) := rfl
@[simp] theorem u_fLenL : fLen (.list ds) q = q (.dat (.int (ds.length : Int))) := rfl
@[simp] theorem u_fLenT : fLen (.tuple ds) q = q (.dat (.int (ds.length : Int))) := rfl
@[simp] theorem u_fLenS {z : Str} : fLen (.str z) q = (z.length ≤ 100000 ∧ q (.dat (.int (z.length : Int)))) := rfl
@[simp] theorem u_fIntI {a : Int} : fIntI (.int a) q = q (.dat (.int a)) := rfl
@[simp] theorem u_fIntB {a : Bool} : fIntI (.bool a) q = q (.dat (.int (if a then 1 else 0))) := rfl
@[simp] theorem u_fMin2 {a b : Int} : fMin2 (.int a) (.int b) q = q (.dat (.int (if b < a then b else a))) := rfl
@[simp] theorem u_fNeg {a : Int} : fNeg (.int a) q = q (.dat (.int (-a))) := rfl
@[simp] theorem u_fTupleL : fTuple (.list ds) q = q (.dat (.tuple ds)) := rfl
@[simp] theorem u_fTupleT : fTuple (.tuple ds) q = q (.dat (.tuple ds)) := rfl
@[simp] theorem u_fIxL {a : Int} : fIx (.list ds) (.int a) q = (match atI ds a with
    | some d => q (.dat d)
    | none => False) := rfl
@[simp] theorem u_fIxT {a : Int} : fIx (.tuple ds) (.int a) q = (match atI ds a with
    | some d => q (.dat d)
    | none => False) := rfl
@[simp] theorem u_fRev : fRev (.tuple ds) q = q (.dat (.tuple ds.reverse)) := rfl
@[simp] theorem u_fIsN : fIsN d .none q = q (.dat (.bool (isNone d))) := by cases d <;> rfl
@[simp] theorem u_fNotN : fNotN d .none q = q (.dat (.bool (!isNone d))) := by cases d <;> rfl
@[simp] theorem u_fIsB {a b : Bool} : fIsB (.bool a) (.bool b) q = q (.dat (.bool (decide (a = b)))) := rfl
@[simp] theorem u_fNotB {a b : Bool} : fNotB (.bool a) (.bool b) q = q (.dat (.bool (!decide (a = b)))) := rfl
@[simp] theorem u_seqL : seqOf (.list ds) = some ds := rfl
@[simp] theorem u_seqT : seqOf (.tuple ds) = some ds := rfl
@[simp] theorem u_itemsL : itemsOf (.list ds) = some ds := rfl
@[simp] theorem u_itemsT : itemsOf (.tuple ds) = some ds := rfl
@[simp] theorem u_atI0 {x : PyData} : atI (x :: ds) 0 = some x := atI_nat (j := 0) rfl
@[simp] theorem u_forL_nil {g : MG} {b : MS} {k : SK} : mForL g b [] s k = k.nx s := rfl
@[simp] theorem u_lcL_nil {g : MG} {t : MT} {e : ME} {vs : List Nat} {acc : List PyData} {Q : List PyData → S → Prop} : mLcL g t e vs [] acc s Q = Q acc s := rfl
@[simp] theorem sh_int {i : Int} : SeqAt.shaped (.int i) = true := rfl
@[simp] theorem sh_str {i : Str} : SeqAt.shaped (.str i) = PyData.strOk i := by
  simp [SeqAt.shaped, PyData.depth, PyData.canLay0]
@[simp] theorem sh_bool {i : Bool} : SeqAt.shaped (.bool i) = true := rfl
@[simp] theorem sh_none : SeqAt.shaped .none = true := rfl
@[simp] theorem eqd_int {i j : Int} : eqd (.int i) (.int j) = decide (i = j) := by
  unfold eqd
  by_cases h : i = j
  · subst h; simp [PyData.eqv]
  · simp [PyData.eqv, h]
@[simp] theorem eqd_str {i j : Str} : eqd (.str i) (.str j) = decide (i = j) := by
  unfold eqd
  by_cases h : i = j
  · subst h; simp [PyData.eqv]
  · simp [PyData.eqv, h]
end
end Mk

/-! part Mx -/
/-! Mk, part 18: what the denotations come to, step by step. -/
namespace Mk
open PySem PySem.Spec PyProof.Rows L2 Evl Lk LamX
def movK (r : Rs) (s : S) (k : O → S → Prop) : Prop := match mov s r with
  | some (o, s2) => k o s2
  | none => False
def frzK (r : Rs) (s : S) (k : PyData → S → Prop) : Prop := match frz s r with
  | some (d, s2) => k d s2
  | none => False
def boolK (r : Rs) (s : S) (k : Bool → S → Prop) : Prop := match r with
  | .val (.dat (.bool b)) => k b s
  | _ => False
def rdK (r : Rs) (s : S) (k : PyData → Prop) : Prop := match rd s r with
  | some d => k d
  | none => False
def rdsK (rs : List Rs) (s : S) (k : List PyData → Prop) : Prop := match rds s rs with
  | some ds => k ds
  | none => False
def datsK (rs : List Rs) (k : List PyData → Prop) : Prop := match dats rs with
  | some ds => k ds
  | none => False
def callK (G : Den) (rs : List Rs) (s1 : S) (Q : Rs → S → Prop) (X : XM) : Prop := match gets s1 rs with
  | some os => (slotsOf rs).Nodup ∧ G os s1.n (fun o os' n' => Q (.val o) (backs rs os' ⟨s1.env, n', s1.bor⟩)) (fun C os' n' => X C (backs rs os' ⟨s1.env, n', s1.bor⟩))
  | none => False
def itK (d : PyData) (k : List PyData → Prop) : Prop := match itemsOf d with
  | some ds => k ds
  | none => False
def intK (d : PyData) (k : Int → Prop) : Prop := match d with
  | .int i => k i
  | _ => False
def lmK (f : List PyData → List PyData → (List PyData → PyData → Prop) → Prop) (i : Nat) (rs : List Rs) (s1 : S) (Q : Rs → S → Prop) : Prop := match dats rs, s1.env[i]? with
  | some es, some (some (.lst ds)) => f ds es fun ds' d' => Q (.val (.dat d')) (putO s1 i (.lst ds'))
  | _, _ => False
section
variable {s s1 : S} {os os' : List O} {o : O} {n i j N p : Nat} {d e : PyData} {ds es : List PyData} {rs : List Rs} {r r2 : Rs} {Q : O → List O → Nat → Prop} {Y : Addr → List O → Nat → Prop} {C : Addr} {q : O → Prop} {m m' : ME} {X : XM} {ma mr : MA} {a b : MT} {P : Rs → S → Prop} {PB : Bool → S → Prop} {PA : List Rs → S → Prop} {PD : PyData → S → Prop} {K : SK} {st st' : MS} {c : Bool} {A B : Prop} {md me : MD} {PS : S → Prop} {z : Option O} {f f' : PyData → PyData → FO}
/-! ### a def's run -/
theorem x_run {b : MS} {ev : List (Option O)} {bo : List Nat} (hl : os.length = p) (he : os.map some ++ List.replicate (N - os.length) none = ev) (hb : ownsFrom 0 os = bo) (h : b ⟨ev, n, bo⟩ (kOf os Q Y)) : runF p N b os n Q Y := by
  subst he hb
  exact ⟨hl, h⟩
theorem x_rt {ev : List (Option O)} {bo : List Nat} (h : fins os ev = some os') (q : Q o os' n) : (kOf os Q Y).rt o ⟨ev, n, bo⟩ := by
  show (match fins os ev with
    | some os' => Q o os' n
    | none => False)
  rw [h]; exact q
theorem x_nx {ev : List (Option O)} {bo : List Nat} (h : fins os ev = some os') (q : Q (.dat .none) os' n) : (kOf os Q Y).nx ⟨ev, n, bo⟩ := by
  show (match fins os ev with
    | some os' => Q (.dat .none) os' n
    | none => False)
  rw [h]; exact q
theorem x_er {ev : List (Option O)} {bo : List Nat} (h : fins os ev = some os') (q : Y C os' n) : (kOf os Q Y).er C ⟨ev, n, bo⟩ := by
  show (match fins os ev with
    | some os' => Y C os' n
    | none => False)
  rw [h]; exact q
/-! ### results -/
theorem x_mov_dat {k : O → S → Prop} (h : k (.dat d) s) : movK (.val (.dat d)) s k := h
theorem x_mov_lst {k : O → S → Prop} (h : k (.lst ds) s) : movK (.val (.lst ds)) s k := h
theorem x_mov_dct {k : O → S → Prop} {kvs : List (Key × PyData)} (h : k (.dct kvs) s) : movK (.val (.dct kvs)) s k := h
theorem x_mov_exc {k : O → S → Prop} (h : k (.exc C) s) : movK (.val (.exc C)) s k := h
theorem x_mov_st {k : O → S → Prop} (h : k .st s) : movK (.val .st) s k := h
theorem x_mov_slot {k : O → S → Prop} {ev ev' : List (Option O)} {bo : List Nat} (e : ev[i]? = some (some (.lst ds))) (h3 : ev.set i (some (.dat (.list ds))) = ev') (h : k (.dat (.list ds)) ⟨ev', n, bo⟩) : movK (.slot i) ⟨ev, n, bo⟩ k := by
  subst h3
  obtain ⟨s, es⟩ : ∃ s : S, s = ⟨ev, n, bo⟩ := ⟨_, rfl⟩
  have e : s.env[i]? = some (some (.lst ds)) := by rw [es]; exact e
  have h : k (.dat (.list ds)) ⟨s.env.set i (some (.dat (.list ds))), s.n, s.bor⟩ := by rw [es]; exact h
  rw [← es]
  have z : mov s (.slot i) = some (.dat (.list ds), ⟨s.env.set i (some (.dat (.list ds))), s.n, s.bor⟩) := by
    rw [u_mov_slot, u_frz_slot, e]
  unfold movK
  rw [z]; exact h
theorem x_mov_slotD {k : O → S → Prop} {kvs : List (Key × PyData)} {ev ev' : List (Option O)} {bo : List Nat} (e : ev[i]? = some (some (.dct kvs))) (h3 : ev.set i none = ev') (h : k (.dct kvs) ⟨ev', n, bo⟩) : movK (.slot i) ⟨ev, n, bo⟩ k := by
  subst h3
  obtain ⟨s, es⟩ : ∃ s : S, s = ⟨ev, n, bo⟩ := ⟨_, rfl⟩
  have e : s.env[i]? = some (some (.dct kvs)) := by rw [es]; exact e
  have h : k (.dct kvs) ⟨s.env.set i none, s.n, s.bor⟩ := by rw [es]; exact h
  rw [← es]
  have z : mov s (.slot i) = some (.dct kvs, ⟨s.env.set i none, s.n, s.bor⟩) := by
    rw [u_mov_slot, e]
  unfold movK
  rw [z]; exact h
theorem x_frz_dat {k : PyData → S → Prop} (h : k d s) : frzK (.val (.dat d)) s k := h
theorem x_frz_lst {k : PyData → S → Prop} (h : k (.list ds) s) : frzK (.val (.lst ds)) s k := h
theorem x_frz_dct {k : PyData → S → Prop} (h : k (.dict []) s) : frzK (.val (.dct [])) s k := h
theorem x_frz_slot {k : PyData → S → Prop} {ev ev' : List (Option O)} {bo : List Nat} (e : ev[i]? = some (some (.lst ds))) (h3 : ev.set i (some (.dat (.list ds))) = ev') (h : k (.list ds) ⟨ev', n, bo⟩) : frzK (.slot i) ⟨ev, n, bo⟩ k := by
  subst h3
  obtain ⟨s, es⟩ : ∃ s : S, s = ⟨ev, n, bo⟩ := ⟨_, rfl⟩
  have e : s.env[i]? = some (some (.lst ds)) := by rw [es]; exact e
  have h : k (.list ds) ⟨s.env.set i (some (.dat (.list ds))), s.n, s.bor⟩ := by rw [es]; exact h
  rw [← es]
  have z : frz s (.slot i) = some (.list ds, ⟨s.env.set i (some (.dat (.list ds))), s.n, s.bor⟩) := by
    rw [u_frz_slot, e]
  unfold frzK
  rw [z]; exact h
theorem x_bool {k : Bool → S → Prop} (h : k c s) : boolK (.val (.dat (.bool c))) s k := h
theorem x_rdK {k : PyData → Prop} (e : rd s r = some d) (h : k d) : rdK r s k := by
  unfold rdK; rw [e]; exact h
theorem x_rdsK {k : List PyData → Prop} (e : rds s rs = some ds) (h : k ds) : rdsK rs s k := by
  unfold rdsK; rw [e]; exact h
theorem x_datsK {k : List PyData → Prop} (e : dats rs = some ds) (h : k ds) : datsK rs k := by
  unfold datsK; rw [e]; exact h
theorem x_itK {k : List PyData → Prop} (e : itemsOf d = some ds) (h : k ds) : itK d k := by
  unfold itK; rw [e]; exact h
theorem x_intK {k : Int → Prop} {i : Int} (h : k i) : intK (.int i) k := h
theorem x_callK {G : Den} {ev : List (Option O)} {bo : List Nat} (e : gets ⟨ev, n, bo⟩ rs = some os) (nd : (slotsOf rs).Nodup) (h : G os n (fun o os' n' => P (.val o) (backs rs os' ⟨ev, n', bo⟩)) (fun C os' n' => X C (backs rs os' ⟨ev, n', bo⟩))) : callK G rs ⟨ev, n, bo⟩ P X := by
  unfold callK; rw [e]; exact ⟨nd, h⟩
theorem backs_vals : ∀ {rs : List Rs} {os : List O} {s : S}, slotsOf rs = [] → backs rs os s = s
  | [], os, s, _ => by cases os <;> rfl
  | .val _ :: rs, [], s, _ => rfl
  | .val _ :: rs, _ :: os, s, h => backs_vals (rs := rs) (os := os) h
  | .slot _ :: _, _, _, h => nomatch h
/-- .. of data alone -/
theorem x_callV {G : Den} {ev : List (Option O)} {bo : List Nat} (e : gets ⟨ev, n, bo⟩ rs = some os) (nd : slotsOf rs = []) (h : G os n (fun o os' n' => P (.val o) ⟨ev, n', bo⟩) (fun C os' n' => X C ⟨ev, n', bo⟩)) : callK G rs ⟨ev, n, bo⟩ P X := by
  unfold callK
  rw [e]
  refine ⟨by rw [nd]; exact List.nodup_nil, ?_⟩
  have e1 : (fun o os' n' => P (.val o) (backs rs os' ⟨ev, n', bo⟩)) = fun o (_ : List O) n' => P (.val o) ⟨ev, n', bo⟩ := by
    funext o os' n'
    rw [backs_vals nd]
  have e2 : (fun C os' n' => X C (backs rs os' ⟨ev, n', bo⟩)) = fun C (_ : List O) n' => X C ⟨ev, n', bo⟩ := by
    funext o os' n'
    rw [backs_vals nd]
  rw [e1, e2]
  exact h
theorem x_fEqS {x y : Str} (h1 : PyData.strOk x = true) (h2 : PyData.strOk y = true) (h : q (.dat (.bool (decide (x = y))))) : fEq (.str x) (.str y) q := ⟨.inl ⟨by rw [sh_str]; exact h1, by rw [sh_str]; exact h2⟩, by rw [eqd_str]; exact h⟩
theorem x_fEqN0 (h : q (.dat (.bool true))) : fEq (.tuple []) (.tuple []) q := ⟨.inr ⟨⟨[], rfl⟩, rfl⟩, by rw [eqd_nil]; exact h⟩
theorem x_fEqNc (h : q (.dat (.bool false))) : fEq (.tuple (d :: ds)) (.tuple []) q := ⟨.inr ⟨⟨_, rfl⟩, rfl⟩, by rw [eqd_nil, decide_eq_false (by rw [List.length_cons]; omega)]; exact h⟩
theorem x_fEqN (h : q (.dat (.bool (decide (ds.length = 0))))) : fEq (.tuple ds) (.tuple []) q := ⟨.inr ⟨⟨ds, rfl⟩, rfl⟩, by rw [eqd_nil]; exact h⟩
theorem x_fNeS {x y : Str} (h1 : PyData.strOk x = true) (h2 : PyData.strOk y = true) (h : q (.dat (.bool (!decide (x = y))))) : fNe (.str x) (.str y) q := ⟨by rw [sh_str]; exact h1, by rw [sh_str]; exact h2, by rw [eqd_str]; exact h⟩
theorem x_fInC {c : Nat} {z : Str} (h : q (.dat (.bool (decide (c ∈ z.cps.toList))))) : fIn (.str ⟨#[c]⟩) (.str z) q := h
theorem x_fNotInC {c : Nat} {z : Str} (h : q (.dat (.bool (!decide (c ∈ z.cps.toList))))) : fNotIn (.str ⟨#[c]⟩) (.str z) q := h
theorem x_disl {ds : List PyData} {A : Prop} (h1 : ds.length ≤ 100000) (h : A) : ds.length ≤ 100000 ∧ A := ⟨h1, h⟩
theorem x_lmK {g : List PyData → List PyData → (List PyData → PyData → Prop) → Prop} {ev : List (Option O)} {bo : List Nat} (e1 : dats rs = some es) (e2 : ev[i]? = some (some (.lst ds))) (h : g ds es fun ds' d' => P (.val (.dat d')) ⟨ev.set i (some (.lst ds')), n, bo⟩) : lmK g i rs ⟨ev, n, bo⟩ P := by
  obtain ⟨s, es⟩ : ∃ s : S, s = ⟨ev, n, bo⟩ := ⟨_, rfl⟩
  have e2 : s.env[i]? = some (some (.lst ds)) := by rw [es]; exact e2
  rw [← es]
  unfold lmK; rw [e1, e2]
  subst es
  exact h
/-! ### statements -/
theorem x_seq (h : st s { K with nx := fun s1 => st' s1 K }) : mSeq st st' s K := h
theorem x_next (h : K.nx s) : mNext s K := h
theorem x_retN (h : K.rt (.dat .none) s) : mRetN s K := h
theorem x_ret (h : m s (fun r s1 => movK r s1 K.rt) K.er) : mRet m s K := h
theorem x_drop (h : m s (fun _ s1 => K.nx s1) K.er) : mDrop m s K := h
theorem x_brk (h : K.bk s) : mBreak s K := h
theorem x_cnt (h : K.ct s) : mCont s K := h
theorem x_rse (h : K.er C s) : mRaise C s K := h
theorem x_if (h : a s (fun q s1 => if q = true then st s1 K else st' s1 K) K.er) : mIf a st st' s K := h
def putK (i : Nat) (o : O) (s : S) (k : S → Prop) : Prop := i ∉ s.bor ∧ i < s.env.length ∧ k (putO s i o)
theorem x_asg (h : m s (fun r s1 => movK r s1 fun o s2 => putK i o s2 K.nx) K.er) : mAsg i m s K := h
theorem x_put {ev ev' : List (Option O)} {bo : List Nat} (h1 : i ∉ bo) (h2 : i < ev.length) (h3 : ev.set i (some o) = ev') (h : PS ⟨ev', n, bo⟩) : putK i o ⟨ev, n, bo⟩ PS := by
  subst h3; exact ⟨h1, h2, h⟩
theorem x_asgG {g : MG} (h : md s (fun d s1 => g d s1 K.nx) K.er) : mAsgG g md s K := h
theorem x_gN (h : putK i (.dat d) s PS) : mgN i d s PS := h
theorem x_gT {g : MGs} (hl : ds.length = n) (h : g ds s PS) : mgT n g (.tuple ds) s PS := ⟨hl, h⟩
theorem x_gC {g : MG} {gs : MGs} (h : g d s fun s1 => gs ds s1 PS) : mgCons g gs (d :: ds) s PS := h
theorem x_gE (h : PS s) : mgNil [] s PS := ⟨rfl, h⟩
theorem x_par {is : List Nat} (h : ma s (fun rs s1 => puts is rs s1 K.nx) K.er) : mPar is ma s K := h
theorem x_putsE (h : PS s) : puts [] [] s PS := h
theorem x_putsC {is : List Nat} (h : putK i o s fun s1 => puts is rs s1 PS) : puts (i :: is) (.val o :: rs) s PS := ⟨h.1, h.2.1, h.2.2⟩
theorem x_for {mi : MI} {g : MG} (h : mi s (fun ds s1 => mForL g st ds s1 K) K.er) : mFor mi g st s K := h
theorem x_aug {op : Int → Int → Int} {u : Int} (e : s.env[i]? = some (some (.dat (.int u)))) (h : md s (fun d s1 => intK d fun v => putK i (.dat (.int (op u v))) s1 K.nx) K.er) : mAug i op md s K := by
  unfold mAug
  rw [e]
  exact h
theorem x_ite (h1 : c = true → A) (h2 : c = false → B) : if c = true then A else B := by
  cases c
  · exact h2 rfl
  · exact h1 rfl
theorem x_iteT (h : A) : if true = true then A else B := h
theorem x_iteF (h : B) : if false = true then A else B := h
theorem x_iteT2 (e : c = true) (h : A) : if c = true then A else B := by rw [if_pos e]; exact h
theorem x_iteF2 (e : c = false) (h : B) : if c = true then A else B := by rw [e, if_neg Bool.false_ne_true]; exact h
theorem x_iteN (e : c = true) (h : B) : if (!c) = true then A else B := by rw [e]; exact h
theorem x_iteM (e : c = false) (h : A) : if (!c) = true then A else B := by rw [e]; exact h
theorem x_fin {o' : O} (h : Q o os n) (e : o' = o) : Q o' os n := e ▸ h
/-! ### expressions -/
theorem x_v_dat (e : s.env[i]? = some (some (.dat d))) (h : P (.val (.dat d)) s) : mVar i s P X := by
  unfold mVar; rw [e]; exact h
theorem x_v_exc (e : s.env[i]? = some (some (.exc C))) (h : P (.val (.exc C)) s) : mVar i s P X := by
  unfold mVar; rw [e]; exact h
theorem x_v_lst (e : s.env[i]? = some (some (.lst ds))) (h : P (.slot i) s) : mVar i s P X := by
  unfold mVar; rw [e]; exact h
theorem x_v_dct {kvs : List (Key × PyData)} (e : s.env[i]? = some (some (.dct kvs))) (h : P (.slot i) s) : mVar i s P X := by
  unfold mVar; rw [e]; exact h
theorem x_v_st (e : s.env[i]? = some (some .st)) (h : P (.slot i) s) : mVar i s P X := by
  unfold mVar; rw [e]; exact h
theorem x_c (h : P (.val (.dat d)) s) : mC d s P X := h
theorem x_d (h : m s (fun r s1 => frzK r s1 PD) X) : mD m s PD X := h
theorem x_b (h : m s (fun r s1 => boolK r s1 PB) X) : mB m s PB X := h
theorem x_fz (h : m s (fun r s1 => frzK r s1 fun d s2 => P (.val (.dat d)) s2) X) : mFz m s P X := h
theorem x_mv (h : m s (fun r s1 => movK r s1 fun o s2 => P (.val o) s2) X) : mMv m s P X := h
theorem x_not (h : a s (fun q s1 => PB (!q) s1) X) : mNot a s PB X := h
theorem x_notV (h : a s (fun q s1 => P (.val (.dat (.bool (!q)))) s1) X) : mNotV a s P X := h
theorem x_and (h : a s (fun q s1 => if q = true then b s1 PB X else PB false s1) X) : mAnd a b s PB X := h
theorem x_or (h : a s (fun q s1 => if q = true then PB true s1 else b s1 PB X) X) : mOr a b s PB X := h
theorem x_andV (h : a s (fun q s1 => if q = true then m s1 P X else P (.val (.dat (.bool false))) s1) X) : mAndV a m s P X := h
theorem x_orV (h : a s (fun q s1 => if q = true then P (.val (.dat (.bool true))) s1 else m s1 P X) X) : mOrV a m s P X := h
theorem x_ifE (h : a s (fun q s1 => if q = true then m s1 P X else m' s1 P X) X) : mIfE a m m' s P X := h
theorem x_isi {g : PyData → Bool} (h : m s (fun r s1 => rdK r s1 fun d => P (.val (.dat (.bool (g d)))) s1) X) : mIsi g m s P X := h
def opK (f : PyData → PyData → FO) (r r2 : Rs) (s : S) (P : Rs → S → Prop) : Prop := rdsK [r, r2] s fun ds => fl2 f ds fun o => P (.val o) s
theorem x_op (h : m s (fun r s1 => m' s1 (fun r2 s2 => opK f r r2 s2 P) X) X) : mOp f m m' s P X := h
theorem x_opK (e1 : rd s r = some d) (e2 : rd s r2 = some e) (h : f d e fun o => P (.val o) s) : opK f r r2 s P := by
  unfold opK rdsK rds rds rds
  rw [e1, e2]
  exact h
theorem x_un {g : PyData → FO} (h : m s (fun r s1 => rdK r s1 fun d => g d fun o => P (.val o) s1) X) : mUn g m s P X := by
  refine Eq.mp (congrArg (fun z => m s z X) ?_) h
  funext r s1
  unfold rdK
  show _ = (match rds s1 [r] with
    | some ds => fl1 g ds fun o => P (.val o) s1
    | none => False)
  unfold rds rds
  cases rd s1 r <;> rfl
theorem x_cb {g : List PyData → FO} (h : ma s (fun rs s1 => rdsK rs s1 fun ds => g ds fun o => P (.val o) s1) X) : mCB g ma s P X := h
theorem x_chain (h : md s (fun d s1 => me s1 (fun e s2 => f d e fun o => bOf o fun k => if k = true then (mD m) s2 (fun z s3 => f' e z fun o2 => bOf o2 fun k2 => P (.val (.dat (.bool k2))) s3) X else P (.val (.dat (.bool false))) s2) X) X) : mChain f f' md me (mD m) s P X := h
theorem x_bOf {k : Bool → Prop} (h : k c) : bOf (.dat (.bool c)) k := h
theorem x_nil (h : PA [] s) : mNil s PA X := h
theorem x_cons (h : m s (fun x s1 => mr s1 (fun xs s2 => PA (x :: xs) s2) X) X) : mCons m mr s PA X := h
def seqK (d : PyData) (k : List PyData → Prop) : Prop := match seqOf d with
  | some ds => k ds
  | none => False
theorem x_star (h : mD m s (fun d s1 => seqK d fun ds => mr s1 (fun rs s2 => PA (ds.map (fun d => .val (.dat d)) ++ rs) s2) X) X) : mStar m mr s PA X := h
theorem x_seqK {k : List PyData → Prop} (e : seqOf d = some ds) (h : k ds) : seqK d k := by
  unfold seqK; rw [e]; exact h
theorem x_dis {g : List PyData → O} (h : ma s (fun rs s1 => datsK rs fun ds => ds.length ≤ 100000 ∧ P (.val (g ds)) s1) X) : mDis g ma s P X := h
theorem x_call {G : Den} (h : ma s (fun rs s1 => callK G rs s1 P X) X) : mCall G ma s P X := h
theorem x_call0 {G : Den} (h : ma s (fun rs s1 => callK G rs s1 P fun _ _ => False) fun _ _ => False) : mCall0 G ma s P X := h
theorem x_lm {g : List PyData → List PyData → (List PyData → PyData → Prop) → Prop} (e : s.env[i]? = some (some (.lst ds))) (h : ma s (fun rs s1 => lmK g i rs s1 P) X) : mLM g i ma s P X := by
  refine ⟨?_, h⟩
  unfold isLst
  rw [e]; trivial
theorem x_it {PL : List PyData → S → Prop} (h : mD m s (fun d s1 => itK d fun ds => PL ds s1) X) : mIt m s PL X := h
theorem x_dnew (h : P (.val (.dct [])) s) : mDNew s P X := h
theorem x_oN {PO : Option Int → S → Prop} (h : PO none s) : mONone s PO X := h
theorem x_oS {PO : Option Int → S → Prop} (h : md s (fun d s1 => intK d fun i => PO (some i) s1) X) : mOSome md s PO X := h
theorem x_sl {lo hi : MO} (h : m s (fun r s1 => lo s1 (fun l s2 => hi s2 (fun u s3 => rdK r s3 fun d => fSl d l u fun o => P (.val o) s3) X) X) X) : mSl m lo hi s P X := h
theorem x_lc {mi : MI} {g : MG} {vs : List Nat} (h : mi s (fun ds s1 => (∀ v ∈ vs, v ∉ s1.bor) ∧ mLcL g a m vs ds [] (wipeS vs s1) fun acc s2 => P (.val (.lst acc)) s2) X) : mLc mi g a m vs s P X := h
/-! ### operations -/
variable {u v : Int}
theorem x_fI0 {g : Int → Int → Int} (h : q (.dat (.int (g u v)))) : fI0 g (.int u) (.int v) q := h
theorem x_fSub (h : q (.dat (.int (u - v)))) : fSub (.int u) (.int v) q := h
theorem x_fMod (hc : 0 < v) (h : q (.dat (.int (u % v)))) : fMod (.int u) (.int v) q := ⟨hc, h⟩
theorem x_fFdiv (hc : CDivW u v) (h : q (.dat (.int (u / v)))) : fFdiv (.int u) (.int v) q := ⟨hc, h⟩
theorem x_fPow (hc : CPow u v) (h : q (.dat (.int (u ^ v.toNat)))) : fPow (.int u) (.int v) q := ⟨hc, h⟩
theorem x_fMul (hc : CMulA u v) (h : q (.dat (.int (u * v)))) : fMul (.int u) (.int v) q := ⟨hc, h⟩
theorem x_fAdd (h : q (.dat (.int (u + v)))) : fAdd (.int u) (.int v) q := h
theorem x_fAddT (hl : ds.length + es.length ≤ 100000) (h : q (.dat (.tuple (ds ++ es)))) : fAdd (.tuple ds) (.tuple es) q := ⟨hl, h⟩
theorem x_fAddL (hl : ds.length + es.length ≤ 100000) (h : q (.lst (ds ++ es))) : fAdd (.list ds) (.list es) q := ⟨hl, h⟩
theorem x_fEq (h1 : SeqAt.shaped d = true) (h2 : SeqAt.shaped e = true) (h : q (.dat (.bool (eqd d e)))) : fEq d e q := ⟨.inl ⟨h1, h2⟩, h⟩
theorem x_fNe (h1 : SeqAt.shaped d = true) (h2 : SeqAt.shaped e = true) (h : q (.dat (.bool (!eqd d e)))) : fNe d e q := ⟨h1, h2, h⟩
theorem x_fEqI (h : q (.dat (.bool (decide (u = v))))) : fEq (.int u) (.int v) q := ⟨.inl ⟨rfl, rfl⟩, by rw [eqd_int]; exact h⟩
theorem x_fNeI (h : q (.dat (.bool (!decide (u = v))))) : fNe (.int u) (.int v) q := ⟨rfl, rfl, by rw [eqd_int]; exact h⟩
theorem x_fLt (h : q (.dat (.bool (decide (u < v))))) : fLt (.int u) (.int v) q := h
theorem x_fLe (h : q (.dat (.bool (decide (u ≤ v))))) : fLe (.int u) (.int v) q := h
theorem x_fGt (h : q (.dat (.bool (decide (v < u))))) : fGt (.int u) (.int v) q := h
theorem x_fGe (h : q (.dat (.bool (decide (v ≤ u))))) : fGe (.int u) (.int v) q := h
theorem x_fIsN (h : q (.dat (.bool (isNone d)))) : fIsN d .none q := by rw [u_fIsN]; exact h
theorem x_fNotN (h : q (.dat (.bool (!isNone d)))) : fNotN d .none q := by rw [u_fNotN]; exact h
theorem x_fLenL (h : q (.dat (.int (ds.length : Int)))) : fLen (.list ds) q := h
theorem x_fLenT (h : q (.dat (.int (ds.length : Int)))) : fLen (.tuple ds) q := h
theorem x_fIntI (h : q (.dat (.int u))) : fIntI (.int u) q := h
theorem x_fIntB (h : q (.dat (.int (if c then 1 else 0)))) : fIntI (.bool c) q := h
theorem x_fNeg (h : q (.dat (.int (-u)))) : fNeg (.int u) q := h
theorem x_fTupL (h : q (.dat (.tuple ds))) : fTuple (.list ds) q := h
theorem x_fTupT (h : q (.dat (.tuple ds))) : fTuple (.tuple ds) q := h
theorem x_fIxL (e' : atI ds u = some d) (h : q (.dat d)) : fIx (.list ds) (.int u) q := by
  rw [u_fIxL, e']; exact h
theorem x_fIxT (e' : atI ds u = some d) (h : q (.dat d)) : fIx (.tuple ds) (.int u) q := by
  rw [u_fIxT, e']; exact h
theorem x_fRev (h : q (.dat (.tuple ds.reverse))) : fRev (.tuple ds) q := h
theorem x_fMin2 (h : q (.dat (.int (if v < u then v else u)))) : fMin2 (.int u) (.int v) q := h
theorem x_fl1 {g : PyData → FO} (h : g d q) : fl1 g [d] q := h
theorem x_fl2 (h : f d e q) : fl2 f [d, e] q := h
theorem x_fSlT {l u : Option Int} (h : q (.dat (.tuple (cutD ds l u)))) : fSl (.tuple ds) l u q := h
theorem x_fSlL {l u : Option Int} (h : q (.lst (cutD ds l u))) : fSl (.list ds) l u q := h
end
def rngK1 (rs : List Rs) (k : List PyData → Prop) : Prop := match dats rs with
  | some [.int j] => -(2 ^ 62) ≤ j ∧ j < 2 ^ 62 ∧ k (intsFrom 0 j.toNat)
  | _ => False
def rngK2 (rs : List Rs) (k : List PyData → Prop) : Prop := match dats rs with
  | some [.int i, .int j] => (-(2 ^ 62) ≤ i ∧ i < 2 ^ 62 ∧ -(2 ^ 62) ≤ j ∧ j < 2 ^ 62) ∧ k (intsFrom i (j - i).toNat)
  | _ => False
theorem x_rng1 {mr : MA} {s : S} {PL : List PyData → S → Prop} {X : XM} (h : mr s (fun rs s1 => rngK1 rs fun ds => PL ds s1) X) : mRng1 mr s PL X := by
  refine Eq.mp (congrArg (fun z => mr s z X) ?_) h
  funext rs s1
  unfold rngK1
  rfl
theorem x_rng2 {mr : MA} {s : S} {PL : List PyData → S → Prop} {X : XM} (h : mr s (fun rs s1 => rngK2 rs fun ds => PL ds s1) X) : mRng2 mr s PL X := by
  refine Eq.mp (congrArg (fun z => mr s z X) ?_) h
  funext rs s1
  unfold rngK2
  rfl
theorem x_rngK1 {j : Int} {k : List PyData → Prop} (b : -(2 ^ 62) ≤ j ∧ j < 2 ^ 62) (h : k (intsFrom 0 j.toNat)) : rngK1 [.val (.dat (.int j))] k := ⟨b.1, b.2, h⟩
theorem x_rngK2 {i j : Int} {k : List PyData → Prop} (b : -(2 ^ 62) ≤ i ∧ i < 2 ^ 62 ∧ -(2 ^ 62) ≤ j ∧ j < 2 ^ 62) (h : k (intsFrom i (j - i).toNat)) : rngK2 [.val (.dat (.int i)), .val (.dat (.int j))] k := ⟨b, h⟩
theorem x_fSum {ds : List PyData} {ns : List Int} {q : O → Prop} (e : Mk.intsOf? ds = some ns) (h : q (.dat (.int ns.sum))) : fSum (.list ds) q := by
  show (match Mk.intsOf? ds with
    | some ns => q (.dat (.int ns.sum))
    | none => False)
  rw [e]; exact h
theorem x_fAll {ds : List PyData} {bs : List Bool} {q : O → Prop} (e : boolsOf? ds = some bs) (h : q (.dat (.bool (bs.all id)))) : fAll (.list ds) q := by
  show (match boolsOf? ds with
    | some bs => q (.dat (.bool (bs.all id)))
    | none => False)
  rw [e]; exact h
theorem x_fIn {d e : PyData} {b : Bool} {q : O → Prop} (h1 : inB d e = some b) (h : q (.dat (.bool b))) : fIn d e q := by
  unfold fIn
  rw [h1]; exact h
theorem x_fNotIn {d e : PyData} {b : Bool} {q : O → Prop} (h1 : inB d e = some b) (h : q (.dat (.bool (!b)))) : fNotIn d e q := by
  unfold fNotIn
  rw [h1]; exact h
theorem x_fLenS {z : Str} {q : O → Prop} (hz : z.length ≤ 100000) (h : q (.dat (.int (z.length : Int)))) : fLen (.str z) q := ⟨hz, h⟩
theorem ints_some {α : Type} (f : α → Int) : ∀ l : List α, Mk.intsOf? (l.map fun i => PyData.int (f i)) = some (l.map f)
  | [] => rfl
  | a :: l => by rw [List.map_cons, Mk.intsOf?, ints_some f l]; rfl
theorem bools_some {α : Type} (f : α → Bool) : ∀ l : List α, boolsOf? (l.map fun i => PyData.bool (f i)) = some (l.map f)
  | [] => rfl
  | a :: l => by rw [List.map_cons, boolsOf?, bools_some f l]; rfl
theorem filter_true {α : Type} : ∀ l : List α, l.filter (fun _ => true) = l
  | [] => rfl
  | a :: l => by rw [List.filter_cons_of_pos rfl, filter_true l]
/-! ### comprehensions, loops -/
section
variable {g : MG} {t : MT} {e : ME} {vs : List Nat} {k : SK} {b : MS} {c : MT}
theorem x_yes {s : S} {PB : Bool → S → Prop} {X : XM} (h : PB true s) : mYes s PB X := h
theorem x_lcL {s : S} {Q : List PyData → S → Prop} (keep : PyData → Bool) (val : PyData → PyData) : ∀ {ds acc : List PyData}, acc.length + ds.length ≤ 100000 →
    (∀ d ∈ ds, ∀ (A : PyData → S → Prop) (B : S → Prop), (keep d = true → A (val d) s) → (keep d = false → B s) → g d s fun s1 => t s1 (fun b s2 => if b = true then mD e s2 (fun y s3 => A y (wipeS vs s3)) (fun _ _ => False) else B (wipeS vs s2)) fun _ _ => False) →
    Q (acc ++ (ds.filter keep).map val) s → mLcL g t e vs ds acc s Q
  | [], acc, _, _, q => by simpa using q
  | d :: ds, acc, hl, h, q => by
    rw [List.length_cons] at hl
    refine h d List.mem_cons_self (fun y s3 => acc.length < 100000 ∧ mLcL g t e vs ds (acc ++ [y]) s3 Q) (fun s2 => mLcL g t e vs ds acc s2 Q) (fun hk => ⟨by omega, ?_⟩) fun hk => ?_
    · refine x_lcL keep val (by rw [List.length_append]; simp; omega) (fun d hd => h d (List.mem_cons_of_mem _ hd)) ?_
      rw [List.filter_cons_of_pos hk, List.map_cons] at q
      simpa using q
    · refine x_lcL keep val (by omega) (fun d hd => h d (List.mem_cons_of_mem _ hd)) ?_
      rw [List.filter_cons_of_neg (by rw [hk]; exact Bool.false_ne_true)] at q
      exact q
/-- .. over things told by a list -/
theorem x_lcM {α : Type} {s : S} {Q : List PyData → S → Prop} (f : α → PyData) (keep : α → Bool) (val : α → PyData) {l : List α} (hl : l.length ≤ 100000)
    (h : ∀ x ∈ l, ∀ (A : PyData → S → Prop) (B : S → Prop), (keep x = true → A (val x) s) → (keep x = false → B s) → g (f x) s fun s1 => t s1 (fun b s2 => if b = true then mD e s2 (fun y s3 => A y (wipeS vs s3)) (fun _ _ => False) else B (wipeS vs s2)) fun _ _ => False)
    (q : Q ((l.filter keep).map val) s) : mLcL g t e vs (l.map f) [] s Q := by
  have key : ∀ (l : List α) (acc : List PyData), (∀ x ∈ l, ∀ (A : PyData → S → Prop) (B : S → Prop), (keep x = true → A (val x) s) → (keep x = false → B s) → g (f x) s fun s1 => t s1 (fun b s2 => if b = true then mD e s2 (fun y s3 => A y (wipeS vs s3)) (fun _ _ => False) else B (wipeS vs s2)) fun _ _ => False) →
      acc.length + l.length ≤ 100000 → Q (acc ++ (l.filter keep).map val) s → mLcL g t e vs (l.map f) acc s Q := by
    intro l
    induction l with
    | nil => intro acc _ _ q; simpa using q
    | cons x l ih =>
      intro acc h hl q
      rw [List.length_cons] at hl
      refine h x List.mem_cons_self (fun y s3 => acc.length < 100000 ∧ mLcL g t e vs (l.map f) (acc ++ [y]) s3 Q) (fun s2 => mLcL g t e vs (l.map f) acc s2 Q) (fun hk => ⟨by omega, ?_⟩) fun hk => ?_
      · refine ih _ (fun y hy => h y (List.mem_cons_of_mem _ hy)) (by rw [List.length_append]; simp; omega) ?_
        rw [List.filter_cons_of_pos hk, List.map_cons] at q
        simpa using q
      · refine ih _ (fun y hy => h y (List.mem_cons_of_mem _ hy)) (by omega) ?_
        rw [List.filter_cons_of_neg (by rw [hk]; exact Bool.false_ne_true)] at q
        exact q
  exact key l [] h (by simpa using hl) (by simpa using q)
/-- .. that keeps all -/
theorem x_lcA {α : Type} {s : S} {Q : List PyData → S → Prop} (f : α → PyData) (val : α → PyData) {l : List α} (hl : l.length ≤ 100000)
    (h : ∀ x ∈ l, ∀ (A : PyData → S → Prop), A (val x) s → g (f x) s fun s1 => mD e s1 (fun y s3 => A y (wipeS vs s3)) fun _ _ => False)
    (q : Q (l.map val) s) : mLcL g mYes e vs (l.map f) [] s Q :=
  x_lcM f (fun _ => true) val hl (fun x hx A B hA _ => h x hx A (hA rfl)) (by rw [filter_true]; exact q)
theorem x_lcS {ev ev' : List (Option O)} {bo : List Nat} {n : Nat} {ds : List PyData} {Q : List PyData → S → Prop} (h1 : ∀ v ∈ vs, v ∉ bo) (h2 : wipeE ev vs = ev') (h : mLcL g t e vs ds [] ⟨ev', n, bo⟩ Q) : (∀ v ∈ vs, v ∉ S.bor ⟨ev, n, bo⟩) ∧ mLcL g t e vs ds [] (wipeS vs ⟨ev, n, bo⟩) Q := by
  subst h2
  exact ⟨h1, h⟩
/-- .. with what holds between the turns -/
theorem x_lcI {Q : List PyData → S → Prop} (I : List PyData → List PyData → S → Prop) (hs : ∀ (d : PyData) (ds acc : List PyData) (s : S) (A : PyData → S → Prop) (B : S → Prop), I (d :: ds) acc s → (∀ y s3, acc.length < 100000 → I ds (acc ++ [y]) s3 → A y s3) → (∀ s3, I ds acc s3 → B s3) →
      g d s fun s1 => t s1 (fun b s2 => if b = true then mD e s2 (fun y s3 => A y (wipeS vs s3)) (fun _ _ => False) else B (wipeS vs s2)) fun _ _ => False)
    (hq : ∀ acc s, I [] acc s → Q acc s) : ∀ {ds acc : List PyData} {s : S}, I ds acc s → mLcL g t e vs ds acc s Q
  | [], acc, s, h => hq acc s h
  | d :: ds, acc, s, h => hs d ds acc s (fun y s3 => acc.length < 100000 ∧ mLcL g t e vs ds (acc ++ [y]) s3 Q) (fun s2 => mLcL g t e vs ds acc s2 Q) h (fun y s3 hl hi => ⟨hl, x_lcI I hs hq hi⟩) fun s3 hi => x_lcI I hs hq hi
theorem x_forI (I : List PyData → S → Prop) (hs : ∀ (d : PyData) (ds : List PyData) (s : S) (N : S → Prop), I (d :: ds) s → (∀ s', I ds s' → N s') → g d s fun s1 => b s1 { k with nx := N, ct := N, bk := k.nx }) (hd : ∀ s, I [] s → k.nx s) : ∀ {ds : List PyData} {s : S}, I ds s → mForL g b ds s k
  | [], s, h => hd s h
  | d :: ds, s, h => hs d ds s _ h fun s' h' => x_forI I hs hd h'
/-- a loop: I and a measure -/
theorem x_whI (I : Nat → S → Prop) (hs : ∀ (m : Nat) (s : S) (N : S → Prop), I m s → (∀ j s', j < m → I j s' → N s') → c s (fun q s1 => if q = true then b s1 { k with nx := N, ct := N, bk := k.nx } else k.nx s1) k.er) {m : Nat} {s : S} (h : I m s) : mWhile c b s k := by
  have key : ∀ (f m : Nat) (s : S), m < f → I m s → mWhN c b f s k := by
    intro f
    induction f with
    | zero => intro m s hm; omega
    | succ f ih => exact fun m s hm h => hs m s (fun s2 => mWhN c b f s2 k) h fun j s' hj h' => ih j s' (by omega) h'
  exact ⟨m + 1, key (m + 1) m s (Nat.lt_succ_self m) h⟩
end
end Mk

/-! part My -/
/-! Mk, part 19: more steps: errors caught, dicts, sorted sets, tests of Bools. -/
namespace Mk
open PySem PySem.Spec PyProof.Rows L2 Evl Lk LamX
def isEK (K : PySem.W.Frag) (C : Addr) (r : Rs) (s : S) (P : Rs → S → Prop) : Prop := match r with
  | .val (.exc D) => ExcC K D ∧ ∃ b, PySem.W.kitOne K (.ref D) (.ref C) = some b ∧ P (.val (.dat (.bool b))) s
  | .val (.dat .none) => ∃ b, PySem.W.kitOne K (.type "NoneType") (.ref C) = some b ∧ P (.val (.dat (.bool b))) s
  | _ => False
def get2K (r : Rs) (k z : PyData) (s : S) (P : Rs → S → Prop) : Prop := match dctOf s r, keyOf k with
  | some kvs, some k => P (.val (.dat ((getK kvs k).getD z))) s
  | _, _ => False
def dputK (i : Nat) (y d : PyData) (s : S) (P : S → Prop) : Prop := match s.env[i]?, keyOf y with
  | some (some (.dct kvs)), some key => kvs.length < 100000 ∧ P (putO s i (.dct (putD kvs key d)))
  | _, _ => False
def lputK (i : Nat) (y d : PyData) (s : S) (P : S → Prop) : Prop := match s.env[i]?, y with
  | some (some (.lst ds)), .int j => match ixN ds.length j with
    | some n => P (putO s i (.lst (ds.set n d)))
    | none => False
  | _, _ => False
section
variable {s : S} {n i : Nat} {d e y z : PyData} {ds es : List PyData} {r : Rs} {X : XM} {P : Rs → S → Prop} {PS : S → Prop} {K : PySem.W.Frag} {C D CS : Addr} {b : Bool} {m : ME} {mk mv mx : MD} {k : SK} {q : O → Prop} {A : Prop}
theorem x_fIsB {a b : Bool} (h : q (.dat (.bool (decide (a = b))))) : fIsB (.bool a) (.bool b) q := h
theorem x_fNotB {a b : Bool} (h : q (.dat (.bool (!decide (a = b))))) : fNotB (.bool a) (.bool b) q := h
theorem eqd_bool {a b : Bool} : eqd (.bool a) (.bool b) = decide (a = b) := by cases a <;> cases b <;> rfl
theorem x_fEqB {a b : Bool} (h : q (.dat (.bool (decide (a = b))))) : fEq (.bool a) (.bool b) q := ⟨.inl ⟨rfl, rfl⟩, by rw [eqd_bool]; exact h⟩
theorem x_isE (h : m s (fun r s1 => isEK K C r s1 P) X) : mIsE K C m s P X := h
theorem x_isEX (e : ExcC K D) (k : PySem.W.kitOne K (.ref D) (.ref C) = some b) (h : P (.val (.dat (.bool b))) s) : isEK K C (.val (.exc D)) s P := ⟨e, b, k, h⟩
theorem x_isEN (k : PySem.W.kitOne K (.type "NoneType") (.ref C) = some b) (h : P (.val (.dat (.bool b))) s) : isEK K C (.val (.dat .none)) s P := ⟨b, k, h⟩
theorem x_caught (h : m s (fun _ s1 => P (.val (.dat .none)) s1) (fun D s1 => PySem.W.exmOne K (.ref D) (.ref CS) = some true ∧ P (.val (.exc D)) s1)) : mCaught K CS m s P X := h
theorem x_get2 (h : m s (fun r s1 => (∃ kvs, dctOf s1 r = some kvs) ∧ mk s1 (fun k s2 => mx s2 (fun z s3 => get2K r k z s3 P) X) X) X) : mGet2 m mk mx s P X := h
theorem x_isD {kvs : List (Key × PyData)} (e : dctOf s r = some kvs) (h : A) : (∃ kvs, dctOf s r = some kvs) ∧ A := ⟨⟨_, e⟩, h⟩
theorem x_get2K {kvs : List (Key × PyData)} {k' : Key} (e1 : dctOf s r = some kvs) (e2 : keyOf y = some k') (h : P (.val (.dat ((getK kvs k').getD z))) s) : get2K r y z s P := by
  unfold get2K
  rw [e1, e2]; exact h
theorem x_dput (h : mv s (fun d s1 => isDct s1 i ∧ mk s1 (fun y s2 => dputK i y d s2 k.nx) k.er) k.er) : mDPut i mk mv s k := h
theorem x_isDct {kvs : List (Key × PyData)} (e : s.env[i]? = some (some (.dct kvs))) (h : A) : isDct s i ∧ A := ⟨by unfold isDct; rw [e]; trivial, h⟩
theorem x_lput (h : mv s (fun d s1 => isLst s1 i ∧ mk s1 (fun y s2 => lputK i y d s2 k.nx) k.er) k.er) : mLPut i mk mv s k := h
theorem x_isLs (e : s.env[i]? = some (some (.lst ds))) (h : A) : isLst s i ∧ A := ⟨by unfold isLst; rw [e]; trivial, h⟩
theorem x_append (hl : ds.length < 100000) {Q : List PyData → PyData → Prop} (h : Q (ds ++ [d]) .none) : fAppend ds [d] Q := ⟨hl, h⟩
theorem x_fSortI {ns : List Int} (hl : ns.length < 64) (h : ∀ out : List Int, out.Pairwise (· < ·) → (∀ k, k ∈ out ↔ k ∈ ns) → q (.lst (out.map PyData.int))) : fSortSetI (.list (ns.map PyData.int)) q := ⟨ns, rfl, hl, h⟩
/-- what holds between two statements -/
theorem x_mid {a b : MS} (I : S → Prop) (h1 : ∀ N : S → Prop, (∀ s', I s' → N s') → a s { k with nx := N }) (h2 : ∀ s', I s' → b s' k) : mSeq a b s k := h1 _ h2
theorem x_begun {cs : List Int} {Q : O → List O → Nat → Prop} {Y : Addr → List O → Nat → Prop} (hl : cs.length ≤ 40000) (h : Q .st [.dat (.list (cs.map PyData.int))] n) : dBegun [.dat (.list (cs.map PyData.int))] n Q Y := ⟨cs, rfl, hl, h⟩
theorem x_swap {G : Den} {a b : O} {Q : O → List O → Nat → Prop} {Y : Addr → List O → Nat → Prop} (h : G [b, a] n (fun o os n' => match os with
    | [c, d] => Q o [d, c] n'
    | _ => False) (fun C os n' => match os with
    | [c, d] => Y C [d, c] n'
    | _ => False)) : swap2 G [a, b] n Q Y := h
end
end Mk

/-! part Mv -/
/-! Mk, part 25 (printed by mv.py, with a hand part): a step found by the head of what is to be shown. -/
namespace Mk
open PySem PySem.Spec PyProof.Rows L2 Evl Lk LamX
class Stp (A : Prop) (B : outParam Prop) : Prop where
  imp : B → A
theorem x_stp {A B : Prop} [h : Stp A B] (b : B) : A := h.imp b
/-! ### what stands in the slots -/
class LookL (ev : List (Option O)) (i : Nat) (o : outParam O) : Prop where
  e : ev[i]? = some (some o)
instance lookL0 {l : List (Option O)} {o : O} : LookL (some o :: l) 0 o := ⟨rfl⟩
instance lookLs {l : List (Option O)} {x : Option O} {i : Nat} {o : O} [h : LookL l i o] : LookL (x :: l) (i + 1) o := ⟨by rw [List.getElem?_cons_succ]; exact h.e⟩
class SetL (ev : List (Option O)) (i : Nat) (o : Option O) (ev' : outParam (List (Option O))) : Prop where
  e : ev.set i o = ev'
  l : i < ev.length
instance setL0 {l : List (Option O)} {x o : Option O} : SetL (x :: l) 0 o (o :: l) := ⟨rfl, by simp⟩
instance setLs {l l' : List (Option O)} {x o : Option O} {i : Nat} [h : SetL l i o l'] : SetL (x :: l) (i + 1) o (x :: l') := ⟨by rw [List.set_cons_succ, h.e], by have := h.l; simp; omega⟩
class Neq (i j : Nat) : Prop where
  e : i ≠ j
instance neq1 {j : Nat} : Neq 0 (j + 1) := ⟨by omega⟩
instance neq2 {i : Nat} : Neq (i + 1) 0 := ⟨by omega⟩
instance neq3 {i j : Nat} [h : Neq i j] : Neq (i + 1) (j + 1) := ⟨by have := h.e; omega⟩
class NotIn (i : Nat) (bo : List Nat) : Prop where
  e : i ∉ bo
instance notIn0 {i : Nat} : NotIn i [] := ⟨List.not_mem_nil⟩
instance notInS {i j : Nat} {bo : List Nat} [a : Neq i j] [b : NotIn i bo] : NotIn i (j :: bo) := ⟨by simp only [List.mem_cons, not_or]; exact ⟨a.e, b.e⟩⟩
class RdC (s : S) (r : Rs) (d : outParam PyData) : Prop where
  e : rd s r = some d
section
variable {ev : List (Option O)} {bo : List Nat} {s : S} {n i j : Nat} {d : PyData} {ds es : List PyData} {r r2 : Rs} {rs : List Rs} {o : O} {os : List O}
instance rdC1 : RdC s (.val (.dat d)) d := ⟨rfl⟩
instance rdC2 : RdC s (.val (.lst ds)) (.list ds) := ⟨rfl⟩
instance rdC3 : RdC s (.val (.dct [])) (.dict []) := ⟨rfl⟩
instance rdC4 [h : LookL ev i (.dat d)] : RdC ⟨ev, n, bo⟩ (.slot i) d := ⟨by
  have e : (S.mk ev n bo).env[i]? = some (some (.dat d)) := h.e
  rw [u_rd_slot, e]; rfl⟩
instance rdC5 [h : LookL ev i (.lst ds)] : RdC ⟨ev, n, bo⟩ (.slot i) (.list ds) := ⟨by
  have e : (S.mk ev n bo).env[i]? = some (some (.lst ds)) := h.e
  rw [u_rd_slot, e]; rfl⟩
class RdsC (s : S) (rs : List Rs) (ds : outParam (List PyData)) : Prop where
  e : rds s rs = some ds
instance rdsC0 : RdsC s [] [] := ⟨rfl⟩
instance rdsC1 [a : RdC s r d] [b : RdsC s rs ds] : RdsC s (r :: rs) (d :: ds) := ⟨by rw [rds, a.e, b.e]⟩
class DatsC (rs : List Rs) (ds : outParam (List PyData)) : Prop where
  e : dats rs = some ds
instance datsC0 : DatsC [] [] := ⟨rfl⟩
instance datsC1 [b : DatsC rs ds] : DatsC (.val (.dat d) :: rs) (d :: ds) := ⟨by rw [dats, b.e]⟩
class GetsC (s : S) (rs : List Rs) (os : outParam (List O)) : Prop where
  e : gets s rs = some os
instance getsC0 : GetsC s [] [] := ⟨rfl⟩
instance getsC1 [b : GetsC s rs os] : GetsC s (.val o :: rs) (o :: os) := ⟨by rw [gets, b.e]⟩
instance getsC2 [a : LookL ev i o] [b : GetsC ⟨ev, n, bo⟩ rs os] : GetsC ⟨ev, n, bo⟩ (.slot i :: rs) (o :: os) := ⟨by
  have e : (S.mk ev n bo).env[i]? = some (some o) := a.e
  rw [gets, e, b.e]⟩
class NoSl (rs : List Rs) : Prop where
  e : slotsOf rs = []
instance noSl0 : NoSl [] := ⟨rfl⟩
instance noSl1 [b : NoSl rs] : NoSl (.val o :: rs) := ⟨by rw [slotsOf, b.e]⟩
class NdSl (rs : List Rs) : Prop where
  e : (slotsOf rs).Nodup
instance ndSl1 [b : NoSl rs] : NdSl (.slot i :: rs) := ⟨by rw [slotsOf, b.e]; simp⟩
instance ndSl2 [a : Neq i j] [b : NoSl rs] : NdSl (.slot i :: .slot j :: rs) := ⟨by rw [slotsOf, slotsOf, b.e]; simp [a.e]⟩
instance ndSl3 [b : NdSl rs] : NdSl (.val o :: rs) := ⟨by rw [slotsOf]; exact b.e⟩
end
section
variable {s s1 : S} {os os' : List O} {o : O} {n i j N p : Nat} {d e : PyData} {ds es : List PyData} {rs : List Rs} {r r2 : Rs} {Q : O → List O → Nat → Prop} {Y : Addr → List O → Nat → Prop} {C : Addr} {q : O → Prop} {m m' : ME} {X : XM} {ma mr : MA} {a b : MT} {P : Rs → S → Prop} {PB : Bool → S → Prop} {PA : List Rs → S → Prop} {PD : PyData → S → Prop} {K : SK} {st st' : MS} {c : Bool} {A B : Prop} {md me : MD} {PS : S → Prop} {z : Option O} {f f' : PyData → PyData → FO}
variable {u v : Int} {ev ev' : List (Option O)} {bo : List Nat} {G : Den} {C D CS : Addr} {KF : PySem.W.Frag} {mk mv mx : MD} {y : PyData} {k : O → S → Prop} {kd : PyData → S → Prop} {kl : List PyData → Prop} {kp : PyData → Prop} {kvs : List (Key × PyData)} {g : MGs}
instance st_seq : Stp (mSeq st st' s K) (st s { K with nx := fun s1 => st' s1 K }) := ⟨x_seq⟩
instance st_if : Stp (mIf a st st' s K) (a s (fun q s1 => if q = true then st s1 K else st' s1 K) K.er) := ⟨x_if⟩
instance st_ret : Stp (mRet m s K) (m s (fun r s1 => movK r s1 K.rt) K.er) := ⟨x_ret⟩
instance st_asg : Stp (mAsg i m s K) (m s (fun r s1 => movK r s1 fun o s2 => putK i o s2 K.nx) K.er) := ⟨x_asg⟩
instance st_asgG {g : MG} : Stp (mAsgG g md s K) (md s (fun d s1 => g d s1 K.nx) K.er) := ⟨x_asgG⟩
instance st_par {is : List Nat} : Stp (mPar is ma s K) (ma s (fun rs s1 => puts is rs s1 K.nx) K.er) := ⟨x_par⟩
instance st_next : Stp (mNext s K) (K.nx s) := ⟨x_next⟩
instance st_retN : Stp (mRetN s K) (K.rt (.dat .none) s) := ⟨x_retN⟩
instance st_drop : Stp (mDrop m s K) (m s (fun _ s1 => K.nx s1) K.er) := ⟨x_drop⟩
instance st_brk : Stp (mBreak s K) (K.bk s) := ⟨x_brk⟩
instance st_cnt : Stp (mCont s K) (K.ct s) := ⟨x_cnt⟩
instance st_rse : Stp (mRaise C s K) (K.er C s) := ⟨x_rse⟩
instance st_for {mi : MI} {g : MG} : Stp (mFor mi g st s K) (mi s (fun ds s1 => mForL g st ds s1 K) K.er) := ⟨x_for⟩
instance st_op : Stp (mOp f m m' s P X) (m s (fun r s1 => m' s1 (fun r2 s2 => opK f r r2 s2 P) X) X) := ⟨x_op⟩
instance st_un {g : PyData → FO} : Stp (mUn g m s P X) (m s (fun r s1 => rdK r s1 fun d => g d fun o => P (.val o) s1) X) := ⟨x_un⟩
instance st_cb {g : List PyData → FO} : Stp (mCB g ma s P X) (ma s (fun rs s1 => rdsK rs s1 fun ds => g ds fun o => P (.val o) s1) X) := ⟨x_cb⟩
instance st_c : Stp (mC d s P X) (P (.val (.dat d)) s) := ⟨x_c⟩
instance st_d : Stp (mD m s PD X) (m s (fun r s1 => frzK r s1 PD) X) := ⟨x_d⟩
instance st_b : Stp (mB m s PB X) (m s (fun r s1 => boolK r s1 PB) X) := ⟨x_b⟩
instance st_fz : Stp (mFz m s P X) (m s (fun r s1 => frzK r s1 fun d s2 => P (.val (.dat d)) s2) X) := ⟨x_fz⟩
instance st_mv : Stp (mMv m s P X) (m s (fun r s1 => movK r s1 fun o s2 => P (.val o) s2) X) := ⟨x_mv⟩
instance st_not : Stp (mNot a s PB X) (a s (fun q s1 => PB (!q) s1) X) := ⟨x_not⟩
instance st_notV : Stp (mNotV a s P X) (a s (fun q s1 => P (.val (.dat (.bool (!q)))) s1) X) := ⟨x_notV⟩
instance st_and : Stp (mAnd a b s PB X) (a s (fun q s1 => if q = true then b s1 PB X else PB false s1) X) := ⟨x_and⟩
instance st_or : Stp (mOr a b s PB X) (a s (fun q s1 => if q = true then PB true s1 else b s1 PB X) X) := ⟨x_or⟩
instance st_andV : Stp (mAndV a m s P X) (a s (fun q s1 => if q = true then m s1 P X else P (.val (.dat (.bool false))) s1) X) := ⟨x_andV⟩
instance st_orV : Stp (mOrV a m s P X) (a s (fun q s1 => if q = true then P (.val (.dat (.bool true))) s1 else m s1 P X) X) := ⟨x_orV⟩
instance st_ifE : Stp (mIfE a m m' s P X) (a s (fun q s1 => if q = true then m s1 P X else m' s1 P X) X) := ⟨x_ifE⟩
instance st_isi {g : PyData → Bool} : Stp (mIsi g m s P X) (m s (fun r s1 => rdK r s1 fun d => P (.val (.dat (.bool (g d)))) s1) X) := ⟨x_isi⟩
instance st_chain : Stp (mChain f f' md me (mD m) s P X) (md s (fun d s1 => me s1 (fun e s2 => f d e fun o => bOf o fun k => if k = true then (mD m) s2 (fun z s3 => f' e z fun o2 => bOf o2 fun k2 => P (.val (.dat (.bool k2))) s3) X else P (.val (.dat (.bool false))) s2) X) X) := ⟨x_chain⟩
instance st_bOf {k : Bool → Prop} : Stp (bOf (.dat (.bool c)) k) (k c) := ⟨x_bOf⟩
instance st_nil : Stp (mNil s PA X) (PA [] s) := ⟨x_nil⟩
instance st_cons : Stp (mCons m mr s PA X) (m s (fun x s1 => mr s1 (fun xs s2 => PA (x :: xs) s2) X) X) := ⟨x_cons⟩
instance st_star : Stp (mStar m mr s PA X) (mD m s (fun d s1 => seqK d fun ds => mr s1 (fun rs s2 => PA (ds.map (fun d => .val (.dat d)) ++ rs) s2) X) X) := ⟨x_star⟩
instance st_dis {g : List PyData → O} : Stp (mDis g ma s P X) (ma s (fun rs s1 => datsK rs fun ds => ds.length ≤ 100000 ∧ P (.val (g ds)) s1) X) := ⟨x_dis⟩
instance st_call {G : Den} : Stp (mCall G ma s P X) (ma s (fun rs s1 => callK G rs s1 P X) X) := ⟨x_call⟩
instance st_call0 {G : Den} : Stp (mCall0 G ma s P X) (ma s (fun rs s1 => callK G rs s1 P fun _ _ => False) fun _ _ => False) := ⟨x_call0⟩
instance st_it {PL : List PyData → S → Prop} : Stp (mIt m s PL X) (mD m s (fun d s1 => itK d fun ds => PL ds s1) X) := ⟨x_it⟩
instance st_dnew : Stp (mDNew s P X) (P (.val (.dct [])) s) := ⟨x_dnew⟩
instance st_oN {PO : Option Int → S → Prop} : Stp (mONone s PO X) (PO none s) := ⟨x_oN⟩
instance st_oS {PO : Option Int → S → Prop} : Stp (mOSome md s PO X) (md s (fun d s1 => intK d fun i => PO (some i) s1) X) := ⟨x_oS⟩
instance st_sl {lo hi : MO} : Stp (mSl m lo hi s P X) (m s (fun r s1 => lo s1 (fun l s2 => hi s2 (fun u s3 => rdK r s3 fun d => fSl d l u fun o => P (.val o) s3) X) X) X) := ⟨x_sl⟩
instance st_lc {mi : MI} {g : MG} {vs : List Nat} : Stp (mLc mi g a m vs s P X) (mi s (fun ds s1 => (∀ v ∈ vs, v ∉ s1.bor) ∧ mLcL g a m vs ds [] (wipeS vs s1) fun acc s2 => P (.val (.lst acc)) s2) X) := ⟨x_lc⟩
instance st_gN : Stp (mgN i d s PS) (putK i (.dat d) s PS) := ⟨x_gN⟩
instance st_gC {g : MG} {gs : MGs} : Stp (mgCons g gs (d :: ds) s PS) (g d s fun s1 => gs ds s1 PS) := ⟨x_gC⟩
instance st_gE : Stp (mgNil [] s PS) (PS s) := ⟨x_gE⟩
instance st_putsE : Stp (puts [] [] s PS) (PS s) := ⟨x_putsE⟩
instance st_putsC {is : List Nat} : Stp (puts (i :: is) (.val o :: rs) s PS) (putK i o s fun s1 => puts is rs s1 PS) := ⟨x_putsC⟩
instance st_mov_dat {k : O → S → Prop} : Stp (movK (.val (.dat d)) s k) (k (.dat d) s) := ⟨x_mov_dat⟩
instance st_mov_st {k : O → S → Prop} : Stp (movK (.val .st) s k) (k .st s) := ⟨x_mov_st⟩
instance st_mov_lst {k : O → S → Prop} : Stp (movK (.val (.lst ds)) s k) (k (.lst ds) s) := ⟨x_mov_lst⟩
instance st_mov_dct {k : O → S → Prop} {kvs : List (Key × PyData)} : Stp (movK (.val (.dct kvs)) s k) (k (.dct kvs) s) := ⟨x_mov_dct⟩
instance st_mov_exc {k : O → S → Prop} : Stp (movK (.val (.exc C)) s k) (k (.exc C) s) := ⟨x_mov_exc⟩
instance st_frz_dat {k : PyData → S → Prop} : Stp (frzK (.val (.dat d)) s k) (k d s) := ⟨x_frz_dat⟩
instance st_frz_lst {k : PyData → S → Prop} : Stp (frzK (.val (.lst ds)) s k) (k (.list ds) s) := ⟨x_frz_lst⟩
instance st_frz_dct {k : PyData → S → Prop} : Stp (frzK (.val (.dct [])) s k) (k (.dict []) s) := ⟨x_frz_dct⟩
instance st_bool {k : Bool → S → Prop} : Stp (boolK (.val (.dat (.bool c))) s k) (k c s) := ⟨x_bool⟩
instance st_intK {k : Int → Prop} {i : Int} : Stp (intK (.int i) k) (k i) := ⟨x_intK⟩
instance st_fl1 {g : PyData → FO} : Stp (fl1 g [d] q) (g d q) := ⟨x_fl1⟩
instance st_fl2 : Stp (fl2 f [d, e] q) (f d e q) := ⟨x_fl2⟩
instance st_fI0 {g : Int → Int → Int} : Stp (fI0 g (.int u) (.int v) q) (q (.dat (.int (g u v)))) := ⟨x_fI0⟩
instance st_fSub : Stp (fSub (.int u) (.int v) q) (q (.dat (.int (u - v)))) := ⟨x_fSub⟩
instance st_fAdd : Stp (fAdd (.int u) (.int v) q) (q (.dat (.int (u + v)))) := ⟨x_fAdd⟩
instance st_fEqI : Stp (fEq (.int u) (.int v) q) (q (.dat (.bool (decide (u = v))))) := ⟨x_fEqI⟩
instance st_fNeI : Stp (fNe (.int u) (.int v) q) (q (.dat (.bool (!decide (u = v))))) := ⟨x_fNeI⟩
instance st_fLt : Stp (fLt (.int u) (.int v) q) (q (.dat (.bool (decide (u < v))))) := ⟨x_fLt⟩
instance st_fLe : Stp (fLe (.int u) (.int v) q) (q (.dat (.bool (decide (u ≤ v))))) := ⟨x_fLe⟩
instance st_fGt : Stp (fGt (.int u) (.int v) q) (q (.dat (.bool (decide (v < u))))) := ⟨x_fGt⟩
instance st_fGe : Stp (fGe (.int u) (.int v) q) (q (.dat (.bool (decide (v ≤ u))))) := ⟨x_fGe⟩
instance st_fIsN : Stp (fIsN d .none q) (q (.dat (.bool (isNone d)))) := ⟨x_fIsN⟩
instance st_fNotN : Stp (fNotN d .none q) (q (.dat (.bool (!isNone d)))) := ⟨x_fNotN⟩
instance st_fLenL : Stp (fLen (.list ds) q) (q (.dat (.int (ds.length : Int)))) := ⟨x_fLenL⟩
instance st_fLenT : Stp (fLen (.tuple ds) q) (q (.dat (.int (ds.length : Int)))) := ⟨x_fLenT⟩
instance st_fIntI : Stp (fIntI (.int u) q) (q (.dat (.int u))) := ⟨x_fIntI⟩
instance st_fIntB : Stp (fIntI (.bool c) q) (q (.dat (.int (if c then 1 else 0)))) := ⟨x_fIntB⟩
instance st_fNeg : Stp (fNeg (.int u) q) (q (.dat (.int (-u)))) := ⟨x_fNeg⟩
instance st_fEqN : Stp (fEq (.tuple ds) (.tuple []) q) (q (.dat (.bool (decide (ds.length = 0))))) := ⟨x_fEqN⟩
instance st_fEqNc : Stp (fEq (.tuple (d :: ds)) (.tuple []) q) (q (.dat (.bool false))) := ⟨x_fEqNc⟩
instance st_fEqN0 : Stp (fEq (.tuple []) (.tuple []) q) (q (.dat (.bool true))) := ⟨x_fEqN0⟩
instance st_fEqB {a b : Bool} : Stp (fEq (.bool a) (.bool b) q) (q (.dat (.bool (decide (a = b))))) := ⟨x_fEqB⟩
instance st_fIsB {a b : Bool} : Stp (fIsB (.bool a) (.bool b) q) (q (.dat (.bool (decide (a = b))))) := ⟨x_fIsB⟩
instance st_fNotB {a b : Bool} : Stp (fNotB (.bool a) (.bool b) q) (q (.dat (.bool (!decide (a = b))))) := ⟨x_fNotB⟩
instance st_isE : Stp (mIsE KF C m s P X) (m s (fun r s1 => isEK KF C r s1 P) X) := ⟨x_isE⟩
instance st_isNone {neg : Bool} {m : ME} {s : S} {P : Rs → S → Prop} {Y : XM} : Stp (mIsNone neg m s P Y) (m s (fun r s1 => noneK neg r s1 P) Y) := ⟨x_isNone⟩
instance st_noneX {neg : Bool} {C : Addr} {s : S} {P : Rs → S → Prop} : Stp (noneK neg (.val (.exc C)) s P) (P (.val (.dat (.bool neg))) s) := ⟨x_noneX⟩
instance st_noneN {neg : Bool} {s : S} {P : Rs → S → Prop} : Stp (noneK neg (.val (.dat .none)) s P) (P (.val (.dat (.bool (!neg)))) s) := ⟨x_noneN⟩
instance st_caught : Stp (mCaught KF CS m s P X) (m s (fun _ s1 => P (.val (.dat .none)) s1) (fun D s1 => PySem.W.exmOne KF (.ref D) (.ref CS) = some true ∧ P (.val (.exc D)) s1)) := ⟨x_caught⟩
instance st_get2 : Stp (mGet2 m mk mx s P X) (m s (fun r s1 => (∃ kvs, dctOf s1 r = some kvs) ∧ mk s1 (fun K s2 => mx s2 (fun z s3 => get2K r K z s3 P) X) X) X) := ⟨x_get2⟩
instance st_dput : Stp (mDPut i mk mv s K) (mv s (fun d s1 => isDct s1 i ∧ mk s1 (fun y s2 => dputK i y d s2 K.nx) K.er) K.er) := ⟨x_dput⟩
instance st_lput : Stp (mLPut i mk mv s K) (mv s (fun d s1 => isLst s1 i ∧ mk s1 (fun y s2 => lputK i y d s2 K.nx) K.er) K.er) := ⟨x_lput⟩
instance st_swap {G : Den} {a b : O} {Q : O → List O → Nat → Prop} {Y : Addr → List O → Nat → Prop} : Stp (swap2 G [a, b] n Q Y) (G [b, a] n (fun o os n' => match os with | [c, d] => Q o [d, c] n' | _ => False) (fun C os n' => match os with | [c, d] => Y C [d, c] n' | _ => False)) := ⟨x_swap⟩
instance st_fInC {c : Nat} {z : Str} : Stp (fIn (.str ⟨#[c]⟩) (.str z) q) (q (.dat (.bool (decide (c ∈ z.cps.toList))))) := ⟨x_fInC⟩
instance st_fNotInC {c : Nat} {z : Str} : Stp (fNotIn (.str ⟨#[c]⟩) (.str z) q) (q (.dat (.bool (!decide (c ∈ z.cps.toList))))) := ⟨x_fNotInC⟩
instance st_yes {s : S} {PB : Bool → S → Prop} {X : XM} : Stp (mYes s PB X) (PB true s) := ⟨x_yes⟩
instance st_rng1 {mr : MA} {s : S} {PL : List PyData → S → Prop} {X : XM} : Stp (mRng1 mr s PL X) (mr s (fun rs s1 => rngK1 rs fun ds => PL ds s1) X) := ⟨x_rng1⟩
instance st_rng2 {mr : MA} {s : S} {PL : List PyData → S → Prop} {X : XM} : Stp (mRng2 mr s PL X) (mr s (fun rs s1 => rngK2 rs fun ds => PL ds s1) X) := ⟨x_rng2⟩
instance st_fTupL : Stp (fTuple (.list ds) q) (q (.dat (.tuple ds))) := ⟨x_fTupL⟩
instance st_fTupT : Stp (fTuple (.tuple ds) q) (q (.dat (.tuple ds))) := ⟨x_fTupT⟩
instance st_fRev : Stp (fRev (.tuple ds) q) (q (.dat (.tuple ds.reverse))) := ⟨x_fRev⟩
instance st_fMin2 : Stp (fMin2 (.int u) (.int v) q) (q (.dat (.int (if v < u then v else u)))) := ⟨x_fMin2⟩
instance st_fSlT {l u : Option Int} : Stp (fSl (.tuple ds) l u q) (q (.dat (.tuple (cutD ds l u)))) := ⟨x_fSlT⟩
instance st_fSlL {l u : Option Int} : Stp (fSl (.list ds) l u q) (q (.lst (cutD ds l u))) := ⟨x_fSlL⟩
instance st_iteT : Stp (if true = true then A else B) (A) := ⟨x_iteT⟩
instance st_iteF : Stp (if false = true then A else B) (B) := ⟨x_iteF⟩
instance st_v1 [h : LookL ev i (.dat d)] : Stp (mVar i ⟨ev, n, bo⟩ P X) (P (.val (.dat d)) ⟨ev, n, bo⟩) := ⟨fun z => x_v_dat h.e z⟩
instance st_v2 [h : LookL ev i (.lst ds)] : Stp (mVar i ⟨ev, n, bo⟩ P X) (P (.slot i) ⟨ev, n, bo⟩) := ⟨fun z => x_v_lst h.e z⟩
instance st_v3 [h : LookL ev i .st] : Stp (mVar i ⟨ev, n, bo⟩ P X) (P (.slot i) ⟨ev, n, bo⟩) := ⟨fun z => x_v_st h.e z⟩
instance st_v4 [h : LookL ev i (.dct kvs)] : Stp (mVar i ⟨ev, n, bo⟩ P X) (P (.slot i) ⟨ev, n, bo⟩) := ⟨fun z => x_v_dct h.e z⟩
instance st_v5 [h : LookL ev i (.exc C)] : Stp (mVar i ⟨ev, n, bo⟩ P X) (P (.val (.exc C)) ⟨ev, n, bo⟩) := ⟨fun z => x_v_exc h.e z⟩
instance st_opK [a : RdC s r d] [b : RdC s r2 e] : Stp (opK f r r2 s P) (f d e fun o => P (.val o) s) := ⟨fun z => x_opK a.e b.e z⟩
instance st_rdK [a : RdC s r d] : Stp (rdK r s kp) (kp d) := ⟨fun z => x_rdK a.e z⟩
instance st_rdsK [a : RdsC s rs ds] : Stp (rdsK rs s kl) (kl ds) := ⟨fun z => x_rdsK a.e z⟩
instance st_datsK [a : DatsC rs ds] : Stp (datsK rs kl) (kl ds) := ⟨fun z => x_datsK a.e z⟩
instance st_it1 : Stp (itK (.list ds) kl) (kl ds) := ⟨fun z => x_itK rfl z⟩
instance st_it2 : Stp (itK (.tuple ds) kl) (kl ds) := ⟨fun z => x_itK rfl z⟩
instance st_it3 {w : Str} : Stp (itK (.str w) kl) (kl (charsOf w)) := ⟨fun z => x_itK rfl z⟩
instance st_put [a : NotIn i bo] [b : SetL ev i (some o) ev'] : Stp (putK i o ⟨ev, n, bo⟩ PS) (PS ⟨ev', n, bo⟩) := ⟨fun z => x_put a.e b.l b.e z⟩
instance st_movS [a : LookL ev i (.lst ds)] [b : SetL ev i (some (.dat (.list ds))) ev'] : Stp (movK (.slot i) ⟨ev, n, bo⟩ k) (k (.dat (.list ds)) ⟨ev', n, bo⟩) := ⟨fun z => x_mov_slot a.e b.e z⟩
instance st_movD [a : LookL ev i (.dct kvs)] [b : SetL ev i none ev'] : Stp (movK (.slot i) ⟨ev, n, bo⟩ k) (k (.dct kvs) ⟨ev', n, bo⟩) := ⟨fun z => x_mov_slotD a.e b.e z⟩
instance st_frzS [a : LookL ev i (.lst ds)] [b : SetL ev i (some (.dat (.list ds))) ev'] : Stp (frzK (.slot i) ⟨ev, n, bo⟩ kd) (kd (.list ds) ⟨ev', n, bo⟩) := ⟨fun z => x_frz_slot a.e b.e z⟩
instance st_callK [a : GetsC ⟨ev, n, bo⟩ rs os] [b : NdSl rs] : Stp (callK G rs ⟨ev, n, bo⟩ P X) (G os n (fun o os' n' => P (.val o) (backs rs os' ⟨ev, n', bo⟩)) (fun C os' n' => X C (backs rs os' ⟨ev, n', bo⟩))) := ⟨fun z => x_callK a.e b.e z⟩
instance st_callV [a : GetsC ⟨ev, n, bo⟩ rs os] [b : NoSl rs] : Stp (callK G rs ⟨ev, n, bo⟩ P X) (G os n (fun o os' n' => P (.val o) ⟨ev, n', bo⟩) (fun C os' n' => X C ⟨ev, n', bo⟩)) := ⟨fun z => x_callV a.e b.e z⟩
instance st_gT1 {a : PyData} : Stp (mgT 1 g (.tuple [a]) s PS) (g [a] s PS) := ⟨fun z => x_gT rfl z⟩
instance st_gT2 {a b : PyData} : Stp (mgT 2 g (.tuple [a, b]) s PS) (g [a, b] s PS) := ⟨fun z => x_gT rfl z⟩
instance st_gT3 {a b c : PyData} : Stp (mgT 3 g (.tuple [a, b, c]) s PS) (g [a, b, c] s PS) := ⟨fun z => x_gT rfl z⟩
instance st_gT4 {a b c d : PyData} : Stp (mgT 4 g (.tuple [a, b, c, d]) s PS) (g [a, b, c, d] s PS) := ⟨fun z => x_gT rfl z⟩
instance st_dis0 : Stp (List.length ([] : List PyData) ≤ 100000 ∧ A) A := ⟨fun z => ⟨by simp, z⟩⟩
instance st_dis1 {a0 : PyData} : Stp (List.length ([a0] : List PyData) ≤ 100000 ∧ A) A := ⟨fun z => ⟨by simp, z⟩⟩
instance st_dis2 {a0 a1 : PyData} : Stp (List.length ([a0, a1] : List PyData) ≤ 100000 ∧ A) A := ⟨fun z => ⟨by simp, z⟩⟩
instance st_dis3 {a0 a1 a2 : PyData} : Stp (List.length ([a0, a1, a2] : List PyData) ≤ 100000 ∧ A) A := ⟨fun z => ⟨by simp, z⟩⟩
instance st_dis4 {a0 a1 a2 a3 : PyData} : Stp (List.length ([a0, a1, a2, a3] : List PyData) ≤ 100000 ∧ A) A := ⟨fun z => ⟨by simp, z⟩⟩
instance st_dis5 {a0 a1 a2 a3 a4 : PyData} : Stp (List.length ([a0, a1, a2, a3, a4] : List PyData) ≤ 100000 ∧ A) A := ⟨fun z => ⟨by simp, z⟩⟩
instance st_dis6 {a0 a1 a2 a3 a4 a5 : PyData} : Stp (List.length ([a0, a1, a2, a3, a4, a5] : List PyData) ≤ 100000 ∧ A) A := ⟨fun z => ⟨by simp, z⟩⟩
instance st_dis7 {a0 a1 a2 a3 a4 a5 a6 : PyData} : Stp (List.length ([a0, a1, a2, a3, a4, a5, a6] : List PyData) ≤ 100000 ∧ A) A := ⟨fun z => ⟨by simp, z⟩⟩
instance st_dis8 {a0 a1 a2 a3 a4 a5 a6 a7 : PyData} : Stp (List.length ([a0, a1, a2, a3, a4, a5, a6, a7] : List PyData) ≤ 100000 ∧ A) A := ⟨fun z => ⟨by simp, z⟩⟩
instance st_ixT0 {a0 : PyData} : Stp (fIx (.tuple (a0 :: ds)) (.int 0) q) (q (.dat a0)) := ⟨fun z => x_fIxT (atI_nat (j := 0) rfl) z⟩
instance st_ixL0 {a0 : PyData} : Stp (fIx (.list (a0 :: ds)) (.int 0) q) (q (.dat a0)) := ⟨fun z => x_fIxL (atI_nat (j := 0) rfl) z⟩
instance st_ixT1 {a0 a1 : PyData} : Stp (fIx (.tuple (a0 :: a1 :: ds)) (.int 1) q) (q (.dat a1)) := ⟨fun z => x_fIxT (atI_nat (j := 1) rfl) z⟩
instance st_ixL1 {a0 a1 : PyData} : Stp (fIx (.list (a0 :: a1 :: ds)) (.int 1) q) (q (.dat a1)) := ⟨fun z => x_fIxL (atI_nat (j := 1) rfl) z⟩
instance st_ixT2 {a0 a1 a2 : PyData} : Stp (fIx (.tuple (a0 :: a1 :: a2 :: ds)) (.int 2) q) (q (.dat a2)) := ⟨fun z => x_fIxT (atI_nat (j := 2) rfl) z⟩
instance st_ixL2 {a0 a1 a2 : PyData} : Stp (fIx (.list (a0 :: a1 :: a2 :: ds)) (.int 2) q) (q (.dat a2)) := ⟨fun z => x_fIxL (atI_nat (j := 2) rfl) z⟩
instance st_ixT3 {a0 a1 a2 a3 : PyData} : Stp (fIx (.tuple (a0 :: a1 :: a2 :: a3 :: ds)) (.int 3) q) (q (.dat a3)) := ⟨fun z => x_fIxT (atI_nat (j := 3) rfl) z⟩
instance st_ixL3 {a0 a1 a2 a3 : PyData} : Stp (fIx (.list (a0 :: a1 :: a2 :: a3 :: ds)) (.int 3) q) (q (.dat a3)) := ⟨fun z => x_fIxL (atI_nat (j := 3) rfl) z⟩
instance st_ixT4 {a0 a1 a2 a3 a4 : PyData} : Stp (fIx (.tuple (a0 :: a1 :: a2 :: a3 :: a4 :: ds)) (.int 4) q) (q (.dat a4)) := ⟨fun z => x_fIxT (atI_nat (j := 4) rfl) z⟩
instance st_ixL4 {a0 a1 a2 a3 a4 : PyData} : Stp (fIx (.list (a0 :: a1 :: a2 :: a3 :: a4 :: ds)) (.int 4) q) (q (.dat a4)) := ⟨fun z => x_fIxL (atI_nat (j := 4) rfl) z⟩
end
end Mk

/-! part Mw -/
/-! Mk, part 26: steps of enumerate, lists of what was caught, index, texts, calls in another order. -/
namespace Mk
open PySem PySem.Spec PyProof.Rows L2 Evl Lk LamX
def captK (r : Rs) (k : Option Addr → Prop) : Prop := match capt r with
  | some c => k c
  | none => False
def xappK (r : Rs) (i : Nat) (s : S) (P : Rs → S → Prop) : Prop := match capt r, s.env[i]? with
  | some c, some (some (.xs es)) => es.length < 100 ∧ P (.val (.dat .none)) (putO s i (.xs (es ++ [c])))
  | _, _ => False
def listK (d : PyData) (k : List PyData → Prop) : Prop := match listOf d with
  | some ds => k ds
  | none => False
section
variable {s : S} {n i j : Nat} {d e y z : PyData} {ds es : List PyData} {r : Rs} {rs : List Rs} {X : XM} {P : Rs → S → Prop} {PL : List PyData → S → Prop} {PS : S → Prop} {C : Addr} {m mo : ME} {ma : MD} {q : O → Prop} {A : Prop} {ev ev' : List (Option O)} {bo : List Nat} {k : Option Addr → Prop} {kl : List PyData → Prop} {c c0 : Option Addr} {xs : List (Option Addr)} {a b : Str} {u v : Int}
theorem x_xs1 (h : m s (fun r s1 => captK r fun c => P (.val (.xs [c])) s1) X) : mXs1 m s P X := by
  refine Eq.mp (congrArg (fun z => m s z X) ?_) h
  funext r s1
  unfold captK
  rfl
theorem x_captX (h : k (some C)) : captK (.val (.exc C)) k := h
theorem x_captN (h : k none) : captK (.val (.dat .none)) k := h
theorem x_mov_xs {k : O → S → Prop} (h : k (.xs xs) s) : movK (.val (.xs xs)) s k := h
theorem x_xapp (e : ev[i]? = some (some (.xs xs))) (h : m ⟨ev, n, bo⟩ (fun r s1 => xappK r i s1 P) X) : mXApp i m ⟨ev, n, bo⟩ P X := by
  have e' : (S.mk ev n bo).env[i]? = some (some (.xs xs)) := e
  refine ⟨?_, h⟩
  unfold isXs
  rw [e']; trivial
theorem x_xappK (hc : capt r = some c) (e : ev[i]? = some (some (.xs [c0]))) (h3 : ev.set i (some (.xs [c0, c])) = ev') (h : P (.val (.dat .none)) ⟨ev', n, bo⟩) : xappK r i ⟨ev, n, bo⟩ P := by
  subst h3
  have e' : (S.mk ev n bo).env[i]? = some (some (.xs [c0])) := e
  unfold xappK
  rw [hc, e']
  exact ⟨by simp, h⟩
theorem x_xix (e : ev[i]? = some (some (.xs xs))) (ec : xs[j]? = some c) (h : P (ofCapt c) ⟨ev, n, bo⟩) : mXIx i j ⟨ev, n, bo⟩ P X := by
  have e' : (S.mk ev n bo).env[i]? = some (some (.xs xs)) := e
  unfold mXIx
  rw [e']
  show (match xs[j]? with
    | some c => P (ofCapt c) ⟨ev, n, bo⟩
    | none => False)
  rw [ec]; exact h
theorem x_enumK (h : mD m s (fun d s1 => listK d fun ds => PL (enumD 0 ds) s1) X) : mEnum m s PL X := by
  refine Eq.mp (congrArg (fun z => mD m s z X) ?_) h
  funext d s1
  unfold listK
  rfl
theorem x_index (h : mo s (fun r s1 => (∃ ds, rd s1 r = some (.list ds)) ∧ ma s1 (fun d s2 => indexK r d s2 P) X) X) : mIndex mo ma s P X := h
theorem x_rdL (e : rd s r = some (.list ds)) (h : A) : (∃ ds, rd s r = some (.list ds)) ∧ A := ⟨⟨_, e⟩, h⟩
theorem x_indexK (e : rd s r = some (.list ds)) (h1 : SeqAt.shaped (.list ds) = true) (h2 : SeqAt.shaped d = true) (h3 : ds[j]? = some z) (h4 : PyData.eqv z d = true) (h5 : ∀ (m : Nat) (z' : PyData), m < j → ds[m]? = some z' → PyData.eqv z' d = false) (h : P (.val (.dat (.int (j : Nat)))) s) : indexK r d s P := by
  unfold indexK
  rw [e]
  exact ⟨h1, h2, j, z, h3, h4, h5, h⟩
theorem x_fUpper (hl : a.length ≤ 5592405) (h : q (.dat (.str (Txt.upper a)))) : fUpper (.str a) q := ⟨hl, h⟩
theorem x_fMulS {b : Int} (h1 : 2 ≤ b) (h2 : b ≤ 1000) (h3 : 1 ≤ a.cps.size) (h4 : a.cps.size ≤ 1000) (h : q (.dat (.str (repS a b.toNat)))) : fMul (.str a) (.int b) q := ⟨h1, h2, h3, h4, h⟩
theorem x_fAddS (hl : a.length + b.length ≤ 100000) (h : q (.dat (.str (a ++ b)))) : fAdd (.str a) (.str b) q := ⟨hl, h⟩
theorem x_fSlS {lo hi : Option Int} (hl : a.length ≤ 100000) (h : q (.dat (.str (cutS a lo hi)))) : fSl (.str a) lo hi q := ⟨hl, h⟩
theorem x_fIxS {c : Nat} (hl : a.length ≤ 100000) (e : atI a.cps.toList u = some c) (h : q (.dat (.str ⟨#[c]⟩))) : fIx (.str a) (.int u) q := by
  refine ⟨hl, ?_⟩
  rw [e]; exact h
theorem x_fJoinL {ys : List Str} (hl : (ys.map (·.length)).sum + ys.length * a.length ≤ 16777216) (h : q (.dat (.str (Txt.join a ys)))) : fJoin a (.list (ys.map PyData.str)) q := ⟨ys, .inl rfl, hl, h⟩
theorem x_fAny {bs : List Bool} (e : boolsOf? ds = some bs) (h : q (.dat (.bool (bs.any id)))) : fAny (.list ds) q := by
  show (match boolsOf? ds with
    | some bs => q (.dat (.bool (bs.any id)))
    | none => False)
  rw [e]; exact h
theorem x_fListL (h : q (.lst ds)) : fList (.list ds) q := h
theorem x_fListT (h : q (.lst ds)) : fList (.tuple ds) q := h
theorem x_fLeT3 {a b c x y z : Int} (h : q (.dat (.bool (leTup [a, b, c] [x, y, z])))) : fLe (.tuple [.int a, .int b, .int c]) (.tuple [.int x, .int y, .int z]) q := h
theorem x_swap021 {G : Den} {a b c : O} {Q : O → List O → Nat → Prop} {Y : Addr → List O → Nat → Prop} (h : G [a, c, b] n (fun o os n' => match os with
    | [x, y, z] => Q o [x, z, y] n'
    | _ => False) (fun C os n' => match os with
    | [x, y, z] => Y C [x, z, y] n'
    | _ => False)) : swapP [0, 2, 1] G [a, b, c] n Q Y := by
  refine ⟨rfl, ?_⟩
  have e1 : (fun o (os' : List O) n' => os'.length = [0, 2, 1].length ∧ Q o (permL [0, 2, 1] .st os') n') = fun o os n' => match os with
      | [x, y, z] => Q o [x, z, y] n'
      | _ => False := by
    funext o os n'
    match os with
    | [] => exact propext ⟨fun h => absurd h.1 (by simp), fun h => h.elim⟩
    | [_] => exact propext ⟨fun h => absurd h.1 (by simp), fun h => h.elim⟩
    | [_, _] => exact propext ⟨fun h => absurd h.1 (by simp), fun h => h.elim⟩
    | [x, y, z] => exact propext ⟨fun h => h.2, fun h => ⟨rfl, h⟩⟩
    | _ :: _ :: _ :: _ :: _ => exact propext ⟨fun h => absurd h.1 (by simp), fun h => h.elim⟩
  have e2 : (fun C (os' : List O) n' => os'.length = [0, 2, 1].length ∧ Y C (permL [0, 2, 1] .st os') n') = fun C os n' => match os with
      | [x, y, z] => Y C [x, z, y] n'
      | _ => False := by
    funext o os n'
    match os with
    | [] => exact propext ⟨fun h => absurd h.1 (by simp), fun h => h.elim⟩
    | [_] => exact propext ⟨fun h => absurd h.1 (by simp), fun h => h.elim⟩
    | [_, _] => exact propext ⟨fun h => absurd h.1 (by simp), fun h => h.elim⟩
    | [x, y, z] => exact propext ⟨fun h => h.2, fun h => ⟨rfl, h⟩⟩
    | _ :: _ :: _ :: _ :: _ => exact propext ⟨fun h => absurd h.1 (by simp), fun h => h.elim⟩
  rw [e1, e2]
  exact h
/-! ### [..] == [] -/
theorem shaped_intL {α : Type} (f : α → Int) (l : List α) : SeqAt.shaped (.list (l.map fun a => PyData.int (f a))) = true := by
  have h1 : PyData.canLayAll0 (l.map fun a => PyData.int (f a)) = true := by
    induction l with
    | nil => rfl
    | cons a l ih => rw [List.map_cons, PyData.canLayAll0, ih]; rfl
  have h2 : PyData.depthAll (l.map fun a => PyData.int (f a)) ≤ 1 := by
    induction l with
    | nil => simp [PyData.depthAll]
    | cons a l ih =>
      have := ih (by rw [List.map_cons, PyData.canLayAll0, Bool.and_eq_true] at h1; exact h1.2)
      simp only [List.map_cons, PyData.depthAll, PyData.depth]
      omega
  have h3 : (PyData.list (l.map fun a => PyData.int (f a))).canLay0 = true := by rw [PyData.canLay0]; exact h1
  unfold SeqAt.shaped
  rw [h3, decide_eq_true (by simp only [PyData.depth]; omega)]
  rfl
theorem eqd_nilL : eqd (.list ds) (.list []) = decide (ds.length = 0) := by
  unfold eqd
  cases ds <;> simp [PyData.eqv, PyData.eqvAll]
theorem x_fEqL0 {α : Type} {f : α → Int} {l : List α} (h : q (.dat (.bool (decide (l.length = 0))))) : fEq (.list (l.map fun a => PyData.int (f a))) (.list []) q := ⟨.inl ⟨shaped_intL f l, rfl⟩, by rw [eqd_nilL, List.length_map]; exact h⟩
theorem x_fNeL0 {α : Type} {f : α → Int} {l : List α} (h : q (.dat (.bool (!decide (l.length = 0))))) : fNe (.list (l.map fun a => PyData.int (f a))) (.list []) q := ⟨shaped_intL f l, rfl, by rw [eqd_nilL, List.length_map]; exact h⟩
/-! ### found by the head -/
class LookX (xs : List (Option Addr)) (j : Nat) (c : outParam (Option Addr)) : Prop where
  e : xs[j]? = some c
instance lookX0 : LookX (c :: xs) 0 c := ⟨rfl⟩
instance lookXs [h : LookX xs j c] : LookX (c0 :: xs) (j + 1) c := ⟨by rw [List.getElem?_cons_succ]; exact h.e⟩
class CaptC (r : Rs) (c : outParam (Option Addr)) : Prop where
  e : capt r = some c
instance captC1 : CaptC (.val (.exc C)) (some C) := ⟨rfl⟩
instance captC2 : CaptC (.val (.dat .none)) none := ⟨rfl⟩
instance st_xs1 : Stp (mXs1 m s P X) (m s (fun r s1 => captK r fun c => P (.val (.xs [c])) s1) X) := ⟨x_xs1⟩
instance st_captX : Stp (captK (.val (.exc C)) k) (k (some C)) := ⟨x_captX⟩
instance st_captN : Stp (captK (.val (.dat .none)) k) (k none) := ⟨x_captN⟩
instance st_mov_xs {k : O → S → Prop} : Stp (movK (.val (.xs xs)) s k) (k (.xs xs) s) := ⟨x_mov_xs⟩
instance st_xapp [h : LookL ev i (.xs xs)] : Stp (mXApp i m ⟨ev, n, bo⟩ P X) (m ⟨ev, n, bo⟩ (fun r s1 => xappK r i s1 P) X) := ⟨fun z => x_xapp h.e z⟩
instance st_xappK [hc : CaptC r c] [h : LookL ev i (.xs [c0])] [g : SetL ev i (some (.xs [c0, c])) ev'] : Stp (xappK r i ⟨ev, n, bo⟩ P) (P (.val (.dat .none)) ⟨ev', n, bo⟩) := ⟨fun z => x_xappK hc.e h.e g.e z⟩
instance st_xix [h : LookL ev i (.xs xs)] [g : LookX xs j c] : Stp (mXIx i j ⟨ev, n, bo⟩ P X) (P (ofCapt c) ⟨ev, n, bo⟩) := ⟨fun z => x_xix h.e g.e z⟩
instance st_enum : Stp (mEnum m s PL X) (mD m s (fun d s1 => listK d fun ds => PL (enumD 0 ds) s1) X) := ⟨x_enumK⟩
instance st_listK1 : Stp (listK (.list ds) kl) (kl ds) := ⟨fun h => h⟩
instance st_listK2 : Stp (listK (.tuple ds) kl) (kl ds) := ⟨fun h => h⟩
instance st_index : Stp (mIndex mo ma s P X) (mo s (fun r s1 => (∃ ds, rd s1 r = some (.list ds)) ∧ ma s1 (fun d s2 => indexK r d s2 P) X) X) := ⟨x_index⟩
instance st_rdL [h : RdC s r (.list ds)] : Stp ((∃ ds, rd s r = some (.list ds)) ∧ A) A := ⟨fun z => x_rdL h.e z⟩
instance st_seqK1 : Stp (seqK (.tuple ds) kl) (kl ds) := ⟨fun h => x_seqK rfl h⟩
instance st_seqK2 : Stp (seqK (.list ds) kl) (kl ds) := ⟨fun h => x_seqK rfl h⟩
theorem dats_map : ∀ {ds : List PyData} {rs : List Rs} {es : List PyData}, dats rs = some es → dats (ds.map (fun d => Rs.val (.dat d)) ++ rs) = some (ds ++ es)
  | [], _, _, h => h
  | d :: ds, rs, es, h => by
    rw [List.map_cons, List.cons_append, dats, dats_map h]
    rfl
instance datsC2 [b : DatsC rs es] : DatsC (ds.map (fun d => Rs.val (.dat d)) ++ rs) (ds ++ es) := ⟨dats_map b.e⟩
instance st_fLeT3 {a b c x y z : Int} : Stp (fLe (.tuple [.int a, .int b, .int c]) (.tuple [.int x, .int y, .int z]) q) (q (.dat (.bool (leTup [a, b, c] [x, y, z])))) := ⟨x_fLeT3⟩
instance st_swap021 {G : Den} {a b c : O} {Q : O → List O → Nat → Prop} {Y : Addr → List O → Nat → Prop} : Stp (swapP [0, 2, 1] G [a, b, c] n Q Y) (G [a, c, b] n (fun o os n' => match os with
    | [x, y, z] => Q o [x, z, y] n'
    | _ => False) (fun C os n' => match os with
    | [x, y, z] => Y C [x, z, y] n'
    | _ => False)) := ⟨x_swap021⟩
instance st_fEqL0 {α : Type} {f : α → Int} {l : List α} : Stp (fEq (.list (l.map fun a => PyData.int (f a))) (.list []) q) (q (.dat (.bool (decide (l.length = 0))))) := ⟨x_fEqL0⟩
instance st_fNeL0 {α : Type} {f : α → Int} {l : List α} : Stp (fNe (.list (l.map fun a => PyData.int (f a))) (.list []) q) (q (.dat (.bool (!decide (l.length = 0))))) := ⟨x_fNeL0⟩
instance st_fListL : Stp (fList (.list ds) q) (q (.lst ds)) := ⟨x_fListL⟩
instance st_fListT : Stp (fList (.tuple ds) q) (q (.lst ds)) := ⟨x_fListT⟩
instance st_noneC1 : Stp (noneK false (ofCapt none) s P) (P (.val (.dat (.bool true))) s) := ⟨fun h => h⟩
instance st_noneC2 : Stp (noneK true (ofCapt none) s P) (P (.val (.dat (.bool false))) s) := ⟨fun h => h⟩
instance st_noneC3 {b : Bool} : Stp (noneK b (ofCapt (some C)) s P) (P (.val (.dat (.bool b))) s) := ⟨fun h => h⟩
instance st_fIsNn : Stp (noneK true (.val (.exc C)) s P) (P (.val (.dat (.bool true))) s) := ⟨fun h => h⟩
end
end Mk

section
/-! the walk's small tactics: Ev, EvT, EvD, EvDA by the reading's head -/
local macro_rules | `(tactic| wtm_at "dp") => `(tactic| first
  | assumption
  | exact Lk.Dq.int _
  | exact Lk.Dq.bl _
  | exact Lk.Dq.str _
  | exact Lk.Dq.non
  | fail "dp stops")
local macro_rules | `(tactic| wtm_at "rvc") => `(tactic| first
  | trivial
  | (show (0 : Int) < _; first | decide | omega)
  | exact ⟨by decide, by decide⟩
  | exact ⟨by decide, by decide, by decide⟩
  | exact Or.inl ⟨by decide, by decide⟩
  | exact Or.inr ⟨by decide, by decide⟩
  | exact Or.inl ⟨by omega, by omega⟩
  | exact Or.inr ⟨by omega, by omega⟩
  | assumption
  | fail "rvc stops")
local macro_rules | `(tactic| wtm_at "rv") => `(tactic| first
  | with_reducible exact Evl.rv_I0
  | ((with_reducible refine' Evl.rv_I ?c); (case c => wtm_at "rvc"))
  | ((with_reducible refine' Evl.rv_eq ?c); (case c => rfl))
  | ((with_reducible refine' Evl.rv_ne ?c); (case c => rfl))
  | fail "rv stops")
local macro_rules | `(tactic| wtm_at "rel") => `(tactic| first
  | exact ⟨_, rfl, rfl⟩
  | exact ⟨_, _, rfl, rfl⟩
  | exact ⟨_, _, _, rfl, rfl⟩
  | exact ⟨_, _, _, _, rfl, rfl⟩
  | exact ⟨_, rfl, by omega, rfl⟩
  | exact ⟨_, _, rfl, by omega, by omega, rfl⟩
  | exact ⟨_, _, _, rfl, by omega, by omega, rfl⟩
  | assumption
  | fail "rel stops")
local macro_rules | `(tactic| wtm_at "eda") => `(tactic| first
  | with_reducible exact Lk.eda_nil
  | ((with_reducible refine' Lk.eda_cons ?a ?b); (case a => wtm_at "ed"); (case b => wtm_at "eda"))
  | ((with_reducible refine' Lk.eda_star ?a ?b ?k); (case a => wtm_at "ed"); (case b => wtm_at "eda"); (case k => rfl))
  | fail "eda stops")
local macro_rules | `(tactic| wtm_at "ed") => `(tactic| first
  | ((with_reducible refine' Lk.ed_var ?a ?b); (case a => exact rfl); (case b => wtm_at "dp"))
  | with_reducible exact Lk.ed_cI
  | with_reducible exact Lk.ed_cS
  | with_reducible exact Lk.ed_cN
  | with_reducible exact Lk.ed_cB
  | ((with_reducible refine' Lk.ed_tup ?a ?b); (case a => wtm_at "eda"); (case b => first | decide | exact Nat.le_of_ble_eq_true rfl))
  | ((with_reducible refine' Lk.ed_lst ?a ?b); (case a => wtm_at "eda"); (case b => first | decide | exact Nat.le_of_ble_eq_true rfl))
  | ((with_reducible refine' Lk.ed_call ?a ?b); (case a => wtm_at "eda"); (case b => wtm_at "rel"))
  | ((with_reducible refine' Lk.ed_callK ?a ?b); (case a => wtm_at "eda"); (case b => wtm_at "rel"))
  | ((with_reducible refine' Lk.ed_ixT ?a ?b ?c ?k); (case a => wtm_at "ed"); (case b => wtm_at "ev"); (case c => rfl); (case k => rfl))
  | ((with_reducible refine' Lk.ed_ixL ?a ?b ?c ?k); (case a => wtm_at "ed"); (case b => wtm_at "ev"); (case c => rfl); (case k => rfl))
  | (refine' Lk.ed_ev (v := L2.V.int _) ?a ?b; (case a => wtm_at "ev"); (case b => exact Lk.Dq.int _))
  | (refine' Lk.ed_ev (v := L2.V.bl _) ?a ?b; (case a => wtm_at "ev"); (case b => exact Lk.Dq.bl _))
  | (refine' Lk.ed_ev (v := L2.V.str _) ?a ?b; (case a => wtm_at "ev"); (case b => exact Lk.Dq.str _))
  | fail "ed stops")
local macro_rules | `(tactic| wtm_at "ev") => `(tactic| first
  | with_reducible exact Evl.ev_c
  | ((with_reducible refine' Evl.ev_var ?a); (case a => exact rfl))
  | ((with_reducible refine' Lk.ev_eqD ?a ?b ?c ?d); (case a => wtm_at "ed"); (case b => wtm_at "ed"); (case c => wtm_at "sh"); (case d => wtm_at "sh"))
  | ((with_reducible refine' Lk.ev_neD ?a ?b ?c ?d); (case a => wtm_at "ed"); (case b => wtm_at "ed"); (case c => wtm_at "sh"); (case d => wtm_at "sh"))
  | ((with_reducible refine' Evl.ev_op ?a ?b ?c); (case a => wtm_at "ev"); (case b => wtm_at "ev"); (case c => wtm_at "rv"))
  | ((with_reducible refine' Evl.ev_un ?a ?c); (case a => wtm_at "ev"); (case c => with_reducible exact Evl.ru_neg))
  | ((with_reducible refine' Evl.ev_andV ?a ?b); (case a => wtm_at "ev"); (case b => (intro hb; first | exact (Bool.false_ne_true hb).elim | exact (Bool.false_ne_true hb.symm).elim | wtm_at "ev")); (all_goals try exact false))
  | ((with_reducible refine' Evl.ev_orV ?a ?b); (case a => wtm_at "ev"); (case b => (intro hb; first | exact (Bool.false_ne_true hb).elim | exact (Bool.false_ne_true hb.symm).elim | wtm_at "ev")); (all_goals try exact false))
  | ((with_reducible refine' Lk.ev_chain ?a ?b ?c ?d ?e); (case a => wtm_at "ev"); (case b => wtm_at "ev"); (case c => wtm_at "rv"); (case d => (intro hb; wtm_at "ev")); (case e => (intro hb; wtm_at "rv")))
  | ((with_reducible refine' Evl.ev_notV ?a); (case a => wtm_at "ev"))
  | ((with_reducible refine' Lk.ev_edI (Lk.ed_call ?a ?b)); (case a => wtm_at "eda"); (case b => wtm_at "rel"))
  | ((with_reducible refine' Lk.ev_edB (Lk.ed_call ?a ?b)); (case a => wtm_at "eda"); (case b => wtm_at "rel"))
  | ((with_reducible refine' Lk.ev_edS (Lk.ed_call ?a ?b)); (case a => wtm_at "eda"); (case b => wtm_at "rel"))
  | ((with_reducible refine' Lk.ev_edI (Lk.ed_callK ?a ?b)); (case a => wtm_at "eda"); (case b => wtm_at "rel"))
  | ((with_reducible refine' Lk.ev_edI (Lk.ed_ixT ?a ?b ?c ?k)); (case a => wtm_at "ed"); (case b => wtm_at "ev"); (case c => rfl); (case k => rfl))
  | ((with_reducible refine' Lk.ev_edI (Lk.ed_ixL ?a ?b ?c ?k)); (case a => wtm_at "ed"); (case b => wtm_at "ev"); (case c => rfl); (case k => rfl))
  | ((with_reducible refine' Lk.ev_intI ?a); (case a => wtm_at "ev"))
  | ((with_reducible refine' Lk.ev_abs ?a); (case a => wtm_at "ev"))
  | ((with_reducible refine' Lk.ev_min ?a ?b); (case a => wtm_at "ev"); (case b => wtm_at "ev"))
  | ((with_reducible refine' Lk.ev_lenT ?a); (case a => wtm_at "ed"))
  | ((with_reducible refine' Lk.ev_lenL ?a); (case a => wtm_at "ed"))
  | ((with_reducible refine' Lk.ev_isiD ?a ?b); (case a => wtm_at "ed"); (case b => first
      | with_reducible exact Lk.kit_int _
      | with_reducible exact Lk.kit_bool _
      | with_reducible exact Lk.kit_tup _
      | with_reducible exact Lk.kit_lst _
      | with_reducible exact Lk.kit_str _
      | with_reducible exact Lk.kit_dct _))
  | fail "ev stops")
local macro_rules | `(tactic| wtm_at "ea") => `(tactic| first
  | with_reducible exact Evl.ea_nil
  | ((with_reducible refine' Evl.ea_cons ?a ?b); (case a => wtm_at "ev"); (case b => wtm_at "ea"))
  | fail "ea stops")
local macro_rules | `(tactic| wtm_at "sh") => `(tactic| first
  | rfl
  | assumption
  | decide
  | fail "sh stops")
local macro_rules | `(tactic| wtm_at "et") => `(tactic| first
  | ((with_reducible refine' Evl.et_test ?a); (case a => wtm_at "ev"))
  | ((with_reducible refine' Evl.et_B ?a); (case a => wtm_at "ev"))
  | ((with_reducible refine' Evl.et_and ?a ?b); (case a => wtm_at "et"); (case b => (intro hb; first | exact (Bool.false_ne_true hb).elim | exact (Bool.false_ne_true hb.symm).elim | wtm_at "et")); (all_goals try exact false))
  | ((with_reducible refine' Evl.et_or ?a ?b); (case a => wtm_at "et"); (case b => (intro hb; first | exact (Bool.false_ne_true hb).elim | exact (Bool.false_ne_true hb.symm).elim | wtm_at "et")); (all_goals try exact false))
  | ((with_reducible refine' Evl.et_not ?a); (case a => wtm_at "et"))
  | fail "et stops")

/-! part Pa -/
namespace K77
open PySem PySem.Spec PyProof.Rows L2 Evl Lk LamX Mk
abbrev Fn (K : PySem.W.Frag) (x : Str) (st : Stmt) (f : Addr) (fd : FuncData) : Prop := FunD K x x (defArgs st) (defBody st) (defScope st) [] [] f fd
structure Txt (K : PySem.W.Frag) (mg : Str → Option Value) : Prop where
  n_abs : mg "abs" = none
  n_all : mg "all" = none
  n_any : mg "any" = none
  n_bool : mg "bool" = none
  n_enumerate : mg "enumerate" = none
  n_int : mg "int" = none
  n_isinstance : mg "isinstance" = none
  n_len : mg "len" = none
  n_list : mg "list" = none
  n_min : mg "min" = none
  n_range : mg "range" = none
  n_set : mg "set" = none
  n_sorted : mg "sorted" = none
  n_str : mg "str" = none
  n_tuple : mg "tuple" = none
  v_LETTERS : Cn K mg "LETTERS" (.str "abcdefghijklmnopqrstuvwxyz") k_LETTERS
  x_BadBuilding : XcT K mg "BadBuilding" (He.ga K "BadBuilding")
  x_BadDoor : XcT K mg "BadDoor" (He.ga K "BadDoor")
  x_BadDoors : XcT K mg "BadDoors" (He.ga K "BadDoors")
  x_BadSide : XcT K mg "BadSide" (He.ga K "BadSide")
/-- what stands of the exceptions -/
structure Xf (K : PySem.W.Frag) : Prop where
  e_BadBuilding : ExcC K (He.ga K "BadBuilding")
  k_BadBuilding : PySem.W.exmOne K (.ref (He.ga K "BadBuilding")) (.ref (He.ga K "KeptError")) = some true
  i_BadBuilding_BadBuilding : PySem.W.kitOne K (.ref (He.ga K "BadBuilding")) (.ref (He.ga K "BadBuilding")) = some true
  i_BadBuilding_BadDoor : PySem.W.kitOne K (.ref (He.ga K "BadBuilding")) (.ref (He.ga K "BadDoor")) = some false
  i_BadBuilding_BadSide : PySem.W.kitOne K (.ref (He.ga K "BadBuilding")) (.ref (He.ga K "BadSide")) = some false
  e_BadDoor : ExcC K (He.ga K "BadDoor")
  k_BadDoor : PySem.W.exmOne K (.ref (He.ga K "BadDoor")) (.ref (He.ga K "KeptError")) = some true
  i_BadDoor_BadBuilding : PySem.W.kitOne K (.ref (He.ga K "BadDoor")) (.ref (He.ga K "BadBuilding")) = some false
  i_BadDoor_BadDoor : PySem.W.kitOne K (.ref (He.ga K "BadDoor")) (.ref (He.ga K "BadDoor")) = some true
  i_BadDoor_BadSide : PySem.W.kitOne K (.ref (He.ga K "BadDoor")) (.ref (He.ga K "BadSide")) = some false
  e_BadDoors : ExcC K (He.ga K "BadDoors")
  k_BadDoors : PySem.W.exmOne K (.ref (He.ga K "BadDoors")) (.ref (He.ga K "KeptError")) = some true
  i_BadDoors_BadBuilding : PySem.W.kitOne K (.ref (He.ga K "BadDoors")) (.ref (He.ga K "BadBuilding")) = some false
  i_BadDoors_BadDoor : PySem.W.kitOne K (.ref (He.ga K "BadDoors")) (.ref (He.ga K "BadDoor")) = some false
  i_BadDoors_BadSide : PySem.W.kitOne K (.ref (He.ga K "BadDoors")) (.ref (He.ga K "BadSide")) = some false
  e_BadSide : ExcC K (He.ga K "BadSide")
  k_BadSide : PySem.W.exmOne K (.ref (He.ga K "BadSide")) (.ref (He.ga K "KeptError")) = some true
  i_BadSide_BadBuilding : PySem.W.kitOne K (.ref (He.ga K "BadSide")) (.ref (He.ga K "BadBuilding")) = some false
  i_BadSide_BadDoor : PySem.W.kitOne K (.ref (He.ga K "BadSide")) (.ref (He.ga K "BadDoor")) = some false
  i_BadSide_BadSide : PySem.W.kitOne K (.ref (He.ga K "BadSide")) (.ref (He.ga K "BadSide")) = some true
  n_BadBuilding : PySem.W.kitOne K (.type "NoneType") (.ref (He.ga K "BadBuilding")) = some false
  n_BadDoor : PySem.W.kitOne K (.type "NoneType") (.ref (He.ga K "BadDoor")) = some false
  n_BadSide : PySem.W.kitOne K (.type "NoneType") (.ref (He.ga K "BadSide")) = some false
abbrev N__law_begun : List Str := ["script", "great", "cell"]
theorem sc__law_begun : FnScope N__law_begun ["script"] (defScope s__law_begun) := ⟨rfl, rfl, rfl, by decide +kernel, rfl, by decide +kernel, by decide +kernel⟩
abbrev N__law_mixed : List Str := ["state", "turn", "found", "prime", "blend", "cell"]
theorem sc__law_mixed : FnScope N__law_mixed ["state"] (defScope s__law_mixed) := ⟨rfl, rfl, rfl, by decide +kernel, rfl, by decide +kernel, by decide +kernel⟩
abbrev N__law_draw : List Str := ["state", "room", "found"]
theorem sc__law_draw : FnScope N__law_draw ["state", "room"] (defScope s__law_draw) := ⟨rfl, rfl, rfl, by decide +kernel, rfl, by decide +kernel, by decide +kernel⟩
abbrev N__law_pick : List Str := ["state", "some"]
theorem sc__law_pick : FnScope N__law_pick ["state", "some"] (defScope s__law_pick) := ⟨rfl, rfl, rfl, by decide +kernel, rfl, by decide +kernel, by decide +kernel⟩
abbrev N__law_letters : List Str := ["state", "many", "lap"]
theorem sc__law_letters : FnScope N__law_letters ["state", "many"] (defScope s__law_letters) := ⟨rfl, rfl, rfl, by decide +kernel, rfl, by decide +kernel, by decide +kernel⟩
abbrev N__law_new : List Str := ["state", "used", "name", "some", "letter", "one"]
theorem sc__law_new : FnScope N__law_new ["state", "used"] (defScope s__law_new) := ⟨rfl, rfl, rfl, by decide +kernel, rfl, by decide +kernel, by decide +kernel⟩
abbrev N__law_names : List Str := ["state", "many", "found", "lap"]
theorem sc__law_names : FnScope N__law_names ["state", "many"] (defScope s__law_names) := ⟨rfl, rfl, rfl, by decide +kernel, rfl, by decide +kernel, by decide +kernel⟩
abbrev N__law_house : List Str := ["state", "areas", "kinds", "doors", "rights", "name", "one", "other", "odds", "kind", "door", "side"]
theorem sc__law_house : FnScope N__law_house ["state"] (defScope s__law_house) := ⟨rfl, rfl, rfl, by decide +kernel, rfl, by decide +kernel, by decide +kernel⟩
abbrev N__law_bent : List Str := ["state", "value", "way", "some", "at"]
theorem sc__law_bent : FnScope N__law_bent ["state", "value"] (defScope s__law_bent) := ⟨rfl, rfl, rfl, by decide +kernel, rfl, by decide +kernel, by decide +kernel⟩
abbrev N_is_name : List Str := ["value", "letter"]
theorem sc_is_name : FnScope N_is_name ["value"] (defScope s_is_name) := ⟨rfl, rfl, rfl, by decide +kernel, rfl, by decide +kernel, by decide +kernel⟩
abbrev N_names_fault : List Str := ["names", "place", "least", "most", "at", "name"]
theorem sc_names_fault : FnScope N_names_fault ["names", "place", "least", "most"] (defScope s_names_fault) := ⟨rfl, rfl, rfl, by decide +kernel, rfl, by decide +kernel, by decide +kernel⟩
abbrev N_door_fault : List Str := ["areas", "ahead", "door"]
theorem sc_door_fault : FnScope N_door_fault ["areas", "ahead", "door"] (defScope s_door_fault) := ⟨rfl, rfl, rfl, by decide +kernel, rfl, by decide +kernel, by decide +kernel⟩
abbrev N_doors_fault : List Str := ["areas", "doors", "at", "door", "found", "one"]
theorem sc_doors_fault : FnScope N_doors_fault ["areas", "doors"] (defScope s_doors_fault) := ⟨rfl, rfl, rfl, by decide +kernel, rfl, by decide +kernel, by decide +kernel⟩
abbrev N_is_whole : List Str := ["value", "low", "high"]
theorem sc_is_whole : FnScope N_is_whole ["value", "low", "high"] (defScope s_is_whole) := ⟨rfl, rfl, rfl, by decide +kernel, rfl, by decide +kernel, by decide +kernel⟩
abbrev N_right_fault : List Str := ["names", "kinds", "right"]
theorem sc_right_fault : FnScope N_right_fault ["names", "kinds", "right"] (defScope s_right_fault) := ⟨rfl, rfl, rfl, by decide +kernel, rfl, by decide +kernel, by decide +kernel⟩
abbrev N_rights_fault : List Str := ["names", "kinds", "rights", "last", "at", "right", "found", "here"]
theorem sc_rights_fault : FnScope N_rights_fault ["names", "kinds", "rights"] (defScope s_rights_fault) := ⟨rfl, rfl, rfl, by decide +kernel, rfl, by decide +kernel, by decide +kernel⟩
abbrev N_fault_of : List Str := ["value", "word", "areas", "doors", "kinds", "rights", "found", "door"]
theorem sc_fault_of : FnScope N_fault_of ["value"] (defScope s_fault_of) := ⟨rfl, rfl, rfl, by decide +kernel, rfl, by decide +kernel, by decide +kernel⟩
abbrev N_is_building : List Str := ["value"]
theorem sc_is_building : FnScope N_is_building ["value"] (defScope s_is_building) := ⟨rfl, rfl, rfl, by decide +kernel, rfl, by decide +kernel, by decide +kernel⟩
abbrev N__law_caught : List Str := ["action", "found", "error"]
theorem sc__law_caught : FnScope N__law_caught ["action"] (defScope s__law_caught) := ⟨rfl, rfl, rfl, by decide +kernel, rfl, by decide +kernel, by decide +kernel⟩
abbrev N_need_building : List Str := ["building"]
theorem sc_need_building : FnScope N_need_building ["building"] (defScope s_need_building) := ⟨rfl, rfl, rfl, by decide +kernel, rfl, by decide +kernel, by decide +kernel⟩
abbrev N_need_door : List Str := ["building", "door", "one"]
theorem sc_need_door : FnScope N_need_door ["building", "door"] (defScope s_need_door) := ⟨rfl, rfl, rfl, by decide +kernel, rfl, by decide +kernel, by decide +kernel⟩
abbrev N_need_side : List Str := ["side"]
theorem sc_need_side : FnScope N_need_side ["side"] (defScope s_need_side) := ⟨rfl, rfl, rfl, by decide +kernel, rfl, by decide +kernel, by decide +kernel⟩
abbrev N_door_named : List Str := ["building", "door", "one"]
theorem sc_door_named : FnScope N_door_named ["building", "door"] (defScope s_door_named) := ⟨rfl, rfl, rfl, by decide +kernel, rfl, by decide +kernel, by decide +kernel⟩
abbrev N_area_at : List Str := ["building", "door", "side"]
theorem sc_area_at : FnScope N_area_at ["building", "door", "side"] (defScope s_area_at) := ⟨rfl, rfl, rfl, by decide +kernel, rfl, by decide +kernel, by decide +kernel⟩
abbrev N__law_sides_right : List Str := ["state", "house", "name", "one", "other", "sort", "odd", "side", "caught"]
theorem sc__law_sides_right : FnScope N__law_sides_right ["state", "house"] (defScope s__law_sides_right) := ⟨rfl, rfl, rfl, by decide +kernel, rfl, by decide +kernel, by decide +kernel⟩
abbrev N__law_tells : List Str := ["value", "due"]
theorem sc__law_tells : FnScope N__law_tells ["value", "due"] (defScope s__law_tells) := ⟨rfl, rfl, rfl, by decide +kernel, rfl, by decide +kernel, by decide +kernel⟩
abbrev N__law_is_named : List Str := ["value", "letter"]
theorem sc__law_is_named : FnScope N__law_is_named ["value"] (defScope s__law_is_named) := ⟨rfl, rfl, rfl, by decide +kernel, rfl, by decide +kernel, by decide +kernel⟩
abbrev N__law_are_named : List Str := ["value", "low", "high", "one", "at"]
theorem sc__law_are_named : FnScope N__law_are_named ["value", "low", "high"] (defScope s__law_are_named) := ⟨rfl, rfl, rfl, by decide +kernel, rfl, by decide +kernel, by decide +kernel⟩
abbrev N__law_is_doored : List Str := ["areas", "value", "one", "name", "other", "sort"]
theorem sc__law_is_doored : FnScope N__law_is_doored ["areas", "value"] (defScope s__law_is_doored) := ⟨rfl, rfl, rfl, by decide +kernel, rfl, by decide +kernel, by decide +kernel⟩
abbrev N__law_is_housed : List Str := ["value", "areas", "doors", "kinds", "rights", "every", "spots", "kind", "door", "right"]
theorem sc__law_is_housed : FnScope N__law_is_housed ["value"] (defScope s__law_is_housed) := ⟨rfl, rfl, rfl, by decide +kernel, rfl, by decide +kernel, by decide +kernel⟩
abbrev N_need_free : List Str := ["building", "free", "names", "door", "at", "name"]
theorem sc_need_free : FnScope N_need_free ["building", "free"] (defScope s_need_free) := ⟨rfl, rfl, rfl, by decide +kernel, rfl, by decide +kernel, by decide +kernel⟩
abbrev N_steps : List Str := ["building", "free", "found", "name", "one", "other", "sort"]
theorem sc_steps : FnScope N_steps ["building", "free"] (defScope s_steps) := ⟨rfl, rfl, rfl, by decide +kernel, rfl, by decide +kernel, by decide +kernel⟩
abbrev N_come_to : List Str := ["building", "free", "area", "closed", "found", "at", "start", "name", "there", "one"]
theorem sc_come_to : FnScope N_come_to ["building", "free", "area", "closed"] (defScope s_come_to) := ⟨rfl, rfl, rfl, by decide +kernel, rfl, by decide +kernel, by decide +kernel⟩
abbrev N_joined : List Str := ["building", "free", "found", "area", "part"]
theorem sc_joined : FnScope N_joined ["building", "free"] (defScope s_joined) := ⟨rfl, rfl, rfl, by decide +kernel, rfl, by decide +kernel, by decide +kernel⟩
abbrev N__law_refused_right : List Str := ["house", "bad", "caught"]
theorem sc__law_refused_right : FnScope N__law_refused_right ["house", "bad"] (defScope s__law_refused_right) := ⟨rfl, rfl, rfl, by decide +kernel, rfl, by decide +kernel, by decide +kernel⟩
abbrev N_law : List Str := ["script", "state", "lap", "house", "turn", "bad", "name"]
theorem sc_law : FnScope N_law ["script"] (defScope s_law) := ⟨rfl, rfl, rfl, by decide +kernel, rfl, by decide +kernel, by decide +kernel⟩
def b__law_pick (K : PySem.W.Frag) : MS := (mRet (mOp fIx (mVar 1) (mCall0 dDraw (mCons (mVar 0) (mCons (mCB (fl1 fLen) (mCons (mVar 1) mNil)) mNil)))))
def d__law_pick (K : PySem.W.Frag) : Den := runF 2 2 (b__law_pick K)
def b__law_letters (K : PySem.W.Frag) : MS := (mRet (mUn (fJoin "") (mLc (mRng1 (mCons (mFz (mVar 1)) mNil)) (mgN 2) mYes (mCall0 (d__law_pick K) (mCons (mVar 0) (mCons (mC (.str "abcdefghijklmnopqrstuvwxyz")) mNil))) [2])))
def d__law_letters (K : PySem.W.Frag) : Den := runF 2 3 (b__law_letters K)
@[reducible] def B__law_new_1 (K : PySem.W.Frag) : MS := (mRet (mOp fIx (mLc (mIt (mVar 3)) (mgN 5) (mAnd (mB (mOp fNotIn (mVar 5) (mVar 1))) (mB (mOp fNe (mVar 5) (mC (.str "any"))))) (mVar 5) [5]) (mC (.int 0))))
@[reducible] def B__law_new_2 (K : PySem.W.Frag) : MS := (mSeq (mAsg 3 (mOp fAdd (mDis (fun ds => .lst ds) (mCons (mFz (mVar 2)) mNil)) (mLc (mIt (mC (.str "abcdefghijklmnopqrstuvwxyz"))) (mgN 4) mYes (mOp fAdd (mSl (mVar 2) mONone (mOSome (mD (mC (.int 7))))) (mVar 4)) [4])))
  (B__law_new_1 K))
def b__law_new (K : PySem.W.Frag) : MS := (mSeq (mAsg 2 (mCall0 (d__law_letters K) (mCons (mVar 0) (mCons (mCall0 (d__law_pick K) (mCons (mVar 0) (mCons (mDis (fun ds => .lst ds) (mCons (mFz (mC (.int 1))) (mCons (mFz (mC (.int 2))) (mCons (mFz (mC (.int 8))) (mCons (mFz (mC (.int 3))) (mCons (mFz (mC (.int 7))) mNil)))))) mNil))) mNil))))
  (B__law_new_2 K))
def d__law_new (K : PySem.W.Frag) : Den := runF 2 6 (b__law_new K)
@[reducible] def B__law_names_1 (K : PySem.W.Frag) : MS := (mDrop (mLM fAppend 2 (mCons (mFz (mCall0 (d__law_new K) (mCons (mVar 0) (mCons (mVar 2) mNil)))) mNil)))
@[reducible] def B__law_names_2 (K : PySem.W.Frag) : MS := (mSeq (mFor (mRng1 (mCons (mFz (mVar 1)) mNil)) (mgN 3) (B__law_names_1 K))
  (mRet (mVar 2)))
def b__law_names (K : PySem.W.Frag) : MS := (mSeq (mAsg 2 (mDis (fun ds => .lst ds) mNil))
  (B__law_names_2 K))
def d__law_names (K : PySem.W.Frag) : Den := runF 2 4 (b__law_names K)
@[reducible] def B__law_house_1 (K : PySem.W.Frag) : MS := (mDrop (mLM fAppend 3 (mCons (mFz (mDis (fun ds => .dat (.tuple ds)) (mCons (mFz (mVar 5)) (mCons (mFz (mOp fIx (mVar 1) (mVar 6))) (mCons (mFz (mOp fIx (mVar 1) (mVar 7))) (mCons (mFz (mCall0 (d__law_pick K) (mCons (mVar 0) (mCons (mDis (fun ds => .lst ds) (mCons (mFz (mC (.str "leaf"))) (mCons (mFz (mC (.str "gate"))) mNil))) mNil)))) mNil)))))) mNil)))
@[reducible] def B__law_house_2 (K : PySem.W.Frag) : MS := (mSeq (mAsg 7 (mOp fMod (mCB (fl1 fIntI) (mCons (mOp fAdd (mOp fAdd (mVar 6) (mC (.int 1))) (mCall0 dDraw (mCons (mVar 0) (mCons (mOp fSub (mCB (fl1 fLen) (mCons (mVar 1) mNil)) (mC (.int 1))) mNil)))) mNil)) (mCB (fl1 fLen) (mCons (mVar 1) mNil))))
  (B__law_house_1 K))
@[reducible] def B__law_house_3 (K : PySem.W.Frag) : MS := (mSeq (mAsg 6 (mCall0 dDraw (mCons (mVar 0) (mCons (mCB (fl1 fLen) (mCons (mVar 1) mNil)) mNil))))
  (B__law_house_2 K))
@[reducible] def B__law_house_4 (K : PySem.W.Frag) : MS := (mAsg 4 (mOp fAdd (mVar 4) (mLc (mIt (mDis (fun ds => .lst ds) (mCons (mFz (mC (.int 0))) (mCons (mFz (mC (.int 1))) mNil)))) (mgN 11) (mB (mOp fGt (mCall0 dDraw (mCons (mVar 0) (mCons (mVar 8) mNil))) (mC (.int 0)))) (mDis (fun ds => .dat (.tuple ds)) (mCons (mFz (mVar 9)) (mCons (mFz (mOp fIx (mVar 10) (mC (.int 0)))) (mCons (mFz (mVar 11)) mNil)))) [11])))
@[reducible] def B__law_house_5 (K : PySem.W.Frag) : MS := (mRet (mDis (fun ds => .dat (.tuple ds)) (mCons (mFz (mC (.str "building"))) (mCons (mFz (mUn fTuple (mVar 1))) (mCons (mFz (mUn fTuple (mVar 3))) (mCons (mFz (mUn fTuple (mVar 2))) (mCons (mFz (mUn fTuple (mVar 4))) mNil)))))))
@[reducible] def B__law_house_6 (K : PySem.W.Frag) : MS := (mSeq (mFor (mIt (mVar 2)) (mgN 9) (mFor (mIt (mVar 3)) (mgN 10) (B__law_house_4 K)))
  (B__law_house_5 K))
@[reducible] def B__law_house_7 (K : PySem.W.Frag) : MS := (mSeq (mAsg 8 (mCall0 (d__law_pick K) (mCons (mVar 0) (mCons (mDis (fun ds => .lst ds) (mCons (mFz (mC (.int 2))) (mCons (mFz (mC (.int 3))) (mCons (mFz (mC (.int 40))) (mCons (mFz (mC (.int 1))) mNil))))) mNil))))
  (B__law_house_6 K))
@[reducible] def B__law_house_8 (K : PySem.W.Frag) : MS := (mSeq (mFor (mIt (mCall0 (d__law_names K) (mCons (mVar 0) (mCons (mOp fAdd (mC (.int 1)) (mCall0 dDraw (mCons (mVar 0) (mCons (mC (.int 6)) mNil)))) mNil)))) (mgN 5) (B__law_house_3 K))
  (B__law_house_7 K))
@[reducible] def B__law_house_9 (K : PySem.W.Frag) : MS := (mSeq (mPar [3, 4] (mCons (mMv (mDis (fun ds => .lst ds) mNil)) (mCons (mMv (mDis (fun ds => .lst ds) mNil)) mNil)))
  (B__law_house_8 K))
def b__law_house (K : PySem.W.Frag) : MS := (mSeq (mPar [1, 2] (mCons (mMv (mCall0 (d__law_names K) (mCons (mVar 0) (mCons (mOp fAdd (mC (.int 2)) (mCall0 dDraw (mCons (mVar 0) (mCons (mC (.int 5)) mNil)))) mNil)))) (mCons (mMv (mCall0 (d__law_names K) (mCons (mVar 0) (mCons (mOp fAdd (mC (.int 1)) (mCall0 dDraw (mCons (mVar 0) (mCons (mC (.int 3)) mNil)))) mNil)))) mNil)))
  (B__law_house_9 K))
def d__law_house (K : PySem.W.Frag) : Den := runF 1 12 (b__law_house K)
@[reducible] def B__law_bent_1 (K : PySem.W.Frag) (G : Den) : MT := (mOr (mB (mOp fEq (mVar 2) (mC (.int 0)))) (mB (mOp fEq (mCB (fl1 fLen) (mCons (mVar 1) mNil)) (mC (.int 0)))))
@[reducible] def B__law_bent_2 (K : PySem.W.Frag) (G : Den) : ME := (mDis (fun ds => .lst ds) (mCons (mFz (mOp fAdd (mVar 1) (mC (.str "x")))) (mCons (mFz (mSl (mVar 1) (mOSome (mD (mC (.int 1)))) mONone)) (mCons (mFz (mUn fUpper (mVar 1))) (mCons (mFz (mOp fAdd (mVar 1) (mC (.str " ")))) mNil)))))
@[reducible] def B__law_bent_3 (K : PySem.W.Frag) (G : Den) : MS := (mRet (mCall0 (d__law_pick K) (mCons (mVar 0) (mCons (mVar 3) mNil))))
@[reducible] def B__law_bent_4 (K : PySem.W.Frag) (G : Den) : MS := (mSeq (mAsg 3 (mOp fAdd (mVar 3) (mIfE (mB (mIsi Lk.isStr (mVar 1))) (B__law_bent_2 K G) (mDis (fun ds => .lst ds) (mCons (mFz (mVar 1)) mNil)))))
  (B__law_bent_3 K G))
@[reducible] def B__law_bent_5 (K : PySem.W.Frag) (G : Den) : MS := (mSeq (mAsg 3 (mDis (fun ds => .lst ds) (mCons (mFz (mC .none)) (mCons (mFz (mC (.str ""))) (mCons (mFz (mC (.str "any"))) (mCons (mFz (mC (.int 5))) (mCons (mFz (mC (.bool true))) (mCons (mFz (mC (.int 1))) (mCons (mFz (mC (.int 0))) (mCons (mFz (mUn fNeg (mC (.int 1)))) (mCons (mFz (mC (.int 2))) (mCons (mFz (mC (.str "A"))) (mCons (mFz (mC (.str "abcdefghi"))) (mCons (mFz (mC (.str "out"))) (mCons (mFz (mC (.str "leaf"))) (mCons (mFz (mC (.str "gate"))) (mCons (mFz (mDis (fun ds => .dat (.tuple ds)) mNil)) (mCons (mFz (mDis (fun ds => .lst ds) (mCons (mFz (mVar 1)) mNil))) (mCons (mFz mDNew) mNil)))))))))))))))))))
  (B__law_bent_4 K G))
@[reducible] def B__law_bent_6 (K : PySem.W.Frag) (G : Den) : MS := (mRet (mOp fAdd (mSl (mVar 1) mONone (mOSome (mD (mVar 4)))) (mSl (mVar 1) (mOSome (mD (mOp fAdd (mVar 4) (mC (.int 1))))) mONone)))
@[reducible] def B__law_bent_7 (K : PySem.W.Frag) (G : Den) : MS := (mRet (mOp fAdd (mOp fAdd (mSl (mVar 1) mONone (mOSome (mD (mVar 4)))) (mDis (fun ds => .dat (.tuple ds)) (mCons (mFz (mOp fIx (mVar 1) (mVar 4))) mNil))) (mSl (mVar 1) (mOSome (mD (mVar 4))) mONone)))
@[reducible] def B__law_bent_8 (K : PySem.W.Frag) (G : Den) : MS := (mRet (mOp fAdd (mOp fAdd (mSl (mVar 1) mONone (mOSome (mD (mOp fSub (mVar 4) (mC (.int 1)))))) (mDis (fun ds => .dat (.tuple ds)) (mCons (mFz (mOp fIx (mVar 1) (mVar 4))) (mCons (mFz (mOp fIx (mVar 1) (mOp fSub (mVar 4) (mC (.int 1))))) mNil)))) (mSl (mVar 1) (mOSome (mD (mOp fAdd (mVar 4) (mC (.int 1))))) mONone)))
@[reducible] def B__law_bent_9 (K : PySem.W.Frag) (G : Den) : MS := (mRet (mOp fAdd (mOp fAdd (mSl (mVar 1) mONone (mOSome (mD (mVar 4)))) (mDis (fun ds => .dat (.tuple ds)) (mCons (mFz (mOp fIx (mVar 1) (mCall0 dDraw (mCons (mVar 0) (mCons (mCB (fl1 fLen) (mCons (mVar 1) mNil)) mNil))))) mNil))) (mSl (mVar 1) (mOSome (mD (mOp fAdd (mVar 4) (mC (.int 1))))) mONone)))
@[reducible] def B__law_bent_10 (K : PySem.W.Frag) (G : Den) : MS := (mRet (mOp fAdd (mOp fAdd (mSl (mVar 1) mONone (mOSome (mD (mVar 4)))) (mDis (fun ds => .dat (.tuple ds)) (mCons (mFz (mCall0 G (mCons (mVar 0) (mCons (mOp fIx (mVar 1) (mVar 4)) mNil)))) mNil))) (mSl (mVar 1) (mOSome (mD (mOp fAdd (mVar 4) (mC (.int 1))))) mONone)))
@[reducible] def B__law_bent_11 (K : PySem.W.Frag) (G : Den) : MS := (mSeq (mIf (mB (mOp fEq (mVar 2) (mC (.int 4)))) (B__law_bent_9 K G) mNext)
  (B__law_bent_10 K G))
@[reducible] def B__law_bent_12 (K : PySem.W.Frag) (G : Den) : MS := (mSeq (mIf (mAnd (mB (mOp fEq (mVar 2) (mC (.int 3)))) (mB (mOp fGt (mVar 4) (mC (.int 0))))) (B__law_bent_8 K G) mNext)
  (B__law_bent_11 K G))
@[reducible] def B__law_bent_13 (K : PySem.W.Frag) (G : Den) : MS := (mSeq (mIf (mB (mOp fEq (mVar 2) (mC (.int 2)))) (B__law_bent_7 K G) mNext)
  (B__law_bent_12 K G))
@[reducible] def B__law_bent_14 (K : PySem.W.Frag) (G : Den) : MS := (mSeq (mIf (mB (mOp fEq (mVar 2) (mC (.int 1)))) (B__law_bent_6 K G) mNext)
  (B__law_bent_13 K G))
@[reducible] def B__law_bent_15 (K : PySem.W.Frag) (G : Den) : MS := (mSeq (mAsg 4 (mCall0 dDraw (mCons (mVar 0) (mCons (mCB (fl1 fLen) (mCons (mVar 1) mNil)) mNil))))
  (B__law_bent_14 K G))
@[reducible] def B__law_bent_16 (K : PySem.W.Frag) (G : Den) : MS := (mSeq (mIf (mOr (mNot (mB (mIsi Lk.isTup (mVar 1)))) (B__law_bent_1 K G)) (B__law_bent_5 K G) mNext)
  (B__law_bent_15 K G))
def b__law_bent (K : PySem.W.Frag) (G : Den) : MS := (mSeq (mAsg 2 (mCall0 dDraw (mCons (mVar 0) (mCons (mC (.int 7)) mNil))))
  (B__law_bent_16 K G))
def d__law_bent (K : PySem.W.Frag) : Nat → Den
  | 0 => fun _ _ _ _ => False
  | n + 1 => runF 2 5 (b__law_bent K (d__law_bent K n))
@[reducible] def B_is_name_1 (K : PySem.W.Frag) : MT := (mOr (mNot (mB (mChain fLe fLe (mD (mC (.int 1))) (mD (mCB (fl1 fLen) (mCons (mVar 0) mNil))) (mD (mC (.int 8)))))) (mB (mOp fEq (mVar 0) (mC (.str "any")))))
@[reducible] def B_is_name_2 (K : PySem.W.Frag) : MS := (mRet (mCB (fl1 fAll) (mCons (mLc (mIt (mVar 0)) (mgN 1) mYes (mOp fIn (mVar 1) (mC k_LETTERS)) [1]) mNil)))
def b_is_name (K : PySem.W.Frag) : MS := (mSeq (mIf (mOr (mNot (mB (mIsi Lk.isStr (mVar 0)))) (B_is_name_1 K)) (mRet (mC (.bool false))) mNext)
  (B_is_name_2 K))
def d_is_name (K : PySem.W.Frag) : Den := runF 1 2 (b_is_name K)
@[reducible] def B_names_fault_1 (K : PySem.W.Frag) : MS := (mRet (mDis (fun ds => .dat (.tuple ds)) (mCons (mFz (mVar 1)) mNil)))
@[reducible] def B_names_fault_2 (K : PySem.W.Frag) : MS := (mRet (mDis (fun ds => .dat (.tuple ds)) (mCons (mFz (mVar 1)) (mCons (mFz (mVar 4)) mNil))))
@[reducible] def B_names_fault_3 (K : PySem.W.Frag) : MS := (mIf (mOr (mNot (mB (mCall0 (d_is_name K) (mCons (mVar 5) mNil)))) (mB (mOp fIn (mVar 5) (mSl (mVar 0) mONone (mOSome (mD (mVar 4))))))) (B_names_fault_2 K) mNext)
@[reducible] def B_names_fault_4 (K : PySem.W.Frag) : MS := (mSeq (mFor (mEnum (mVar 0)) (mgT 2 (mgCons (mgN 4) (mgCons (mgN 5) mgNil))) (B_names_fault_3 K))
  (mRet (mC .none)))
def b_names_fault (K : PySem.W.Frag) : MS := (mSeq (mIf (mOr (mNot (mB (mIsi Lk.isTup (mVar 0)))) (mNot (mB (mChain fLe fLe (mD (mVar 2)) (mD (mCB (fl1 fLen) (mCons (mVar 0) mNil))) (mD (mVar 3)))))) (B_names_fault_1 K) mNext)
  (B_names_fault_4 K))
def d_names_fault (K : PySem.W.Frag) : Den := runF 4 6 (b_names_fault K)
@[reducible] def B_door_fault_1 (K : PySem.W.Frag) : MS := (mRet (mDis (fun ds => .dat (.tuple ds)) (mCons (mFz (mC (.int 0))) mNil)))
@[reducible] def B_door_fault_2 (K : PySem.W.Frag) : MS := (mRet (mDis (fun ds => .dat (.tuple ds)) (mCons (mFz (mC (.int 1))) mNil)))
@[reducible] def B_door_fault_3 (K : PySem.W.Frag) : MT := (mOr (mB (mOp fNotIn (mOp fIx (mVar 2) (mC (.int 2))) (mVar 0))) (mB (mOp fEq (mOp fIx (mVar 2) (mC (.int 2))) (mOp fIx (mVar 2) (mC (.int 1))))))
@[reducible] def B_door_fault_4 (K : PySem.W.Frag) : MS := (mRet (mDis (fun ds => .dat (.tuple ds)) (mCons (mFz (mC (.int 2))) mNil)))
@[reducible] def B_door_fault_5 (K : PySem.W.Frag) : MT := (mB (mOp fNotIn (mOp fIx (mVar 2) (mC (.int 3))) (mDis (fun ds => .dat (.tuple ds)) (mCons (mFz (mC (.str "leaf"))) (mCons (mFz (mC (.str "gate"))) mNil)))))
@[reducible] def B_door_fault_6 (K : PySem.W.Frag) : MS := (mRet (mIfE (mOr (mNot (mB (mIsi Lk.isStr (mOp fIx (mVar 2) (mC (.int 3)))))) (B_door_fault_5 K)) (mDis (fun ds => .dat (.tuple ds)) (mCons (mFz (mC (.int 3))) mNil)) (mC .none)))
@[reducible] def B_door_fault_7 (K : PySem.W.Frag) : MS := (mSeq (mIf (mOr (mNot (mB (mCall0 (d_is_name K) (mCons (mOp fIx (mVar 2) (mC (.int 2))) mNil)))) (B_door_fault_3 K)) (B_door_fault_4 K) mNext)
  (B_door_fault_6 K))
@[reducible] def B_door_fault_8 (K : PySem.W.Frag) : MS := (mSeq (mIf (mOr (mNot (mB (mCall0 (d_is_name K) (mCons (mOp fIx (mVar 2) (mC (.int 1))) mNil)))) (mB (mOp fNotIn (mOp fIx (mVar 2) (mC (.int 1))) (mVar 0)))) (B_door_fault_2 K) mNext)
  (B_door_fault_7 K))
@[reducible] def B_door_fault_9 (K : PySem.W.Frag) : MS := (mSeq (mIf (mOr (mNot (mB (mCall0 (d_is_name K) (mCons (mOp fIx (mVar 2) (mC (.int 0))) mNil)))) (mB (mOp fIn (mOp fIx (mVar 2) (mC (.int 0))) (mVar 1)))) (B_door_fault_1 K) mNext)
  (B_door_fault_8 K))
def b_door_fault (K : PySem.W.Frag) : MS := (mSeq (mIf (mOr (mNot (mB (mIsi Lk.isTup (mVar 2)))) (mB (mOp fNe (mCB (fl1 fLen) (mCons (mVar 2) mNil)) (mC (.int 4))))) (mRet (mDis (fun ds => .dat (.tuple ds)) mNil)) mNext)
  (B_door_fault_9 K))
def d_door_fault (K : PySem.W.Frag) : Den := runF 3 3 (b_door_fault K)
@[reducible] def B_doors_fault_1 (K : PySem.W.Frag) : MT := (mNot (mB (mChain fLe fLe (mD (mC (.int 1))) (mD (mCB (fl1 fLen) (mCons (mVar 1) mNil))) (mD (mC (.int 6))))))
@[reducible] def B_doors_fault_2 (K : PySem.W.Frag) : MS := (mRet (mDis (fun ds => .dat (.tuple ds)) (mCons (mFz (mC (.int 2))) mNil)))
@[reducible] def B_doors_fault_3 (K : PySem.W.Frag) : MS := (mRet (mDis (fun ds => .dat (.tuple ds)) (mCons (mFz (mC (.int 2))) (mCons (mFz (mVar 2)) (mStar (mVar 4) mNil)))))
@[reducible] def B_doors_fault_4 (K : PySem.W.Frag) : MS := (mIf (mB (mOp fNotN (mVar 4) (mC .none))) (B_doors_fault_3 K) mNext)
@[reducible] def B_doors_fault_5 (K : PySem.W.Frag) : MS := (mSeq (mAsg 4 (mCall0 (d_door_fault K) (mCons (mVar 0) (mCons (mLc (mIt (mSl (mVar 1) mONone (mOSome (mD (mVar 2))))) (mgN 5) mYes (mOp fIx (mVar 5) (mC (.int 0))) [5]) (mCons (mVar 3) mNil)))))
  (B_doors_fault_4 K))
@[reducible] def B_doors_fault_6 (K : PySem.W.Frag) : MS := (mSeq (mFor (mEnum (mVar 1)) (mgT 2 (mgCons (mgN 2) (mgCons (mgN 3) mgNil))) (B_doors_fault_5 K))
  (mRet (mC .none)))
def b_doors_fault (K : PySem.W.Frag) : MS := (mSeq (mIf (mOr (mNot (mB (mIsi Lk.isTup (mVar 1)))) (B_doors_fault_1 K)) (B_doors_fault_2 K) mNext)
  (B_doors_fault_6 K))
def d_doors_fault (K : PySem.W.Frag) : Den := runF 2 6 (b_doors_fault K)
@[reducible] def B_is_whole_1 (K : PySem.W.Frag) : ME := (mAndV (mB (mNotV (mB (mIsi Lk.isBool (mVar 0))))) (mChain fLe fLe (mD (mVar 1)) (mD (mVar 0)) (mD (mVar 2))))
def b_is_whole (K : PySem.W.Frag) : MS := (mRet (mAndV (mB (mIsi Lk.isInt (mVar 0))) (B_is_whole_1 K)))
def d_is_whole (K : PySem.W.Frag) : Den := runF 3 3 (b_is_whole K)
@[reducible] def B_right_fault_1 (K : PySem.W.Frag) : MS := (mRet (mDis (fun ds => .dat (.tuple ds)) (mCons (mFz (mC (.int 0))) mNil)))
@[reducible] def B_right_fault_2 (K : PySem.W.Frag) : MS := (mRet (mDis (fun ds => .dat (.tuple ds)) (mCons (mFz (mC (.int 1))) mNil)))
@[reducible] def B_right_fault_3 (K : PySem.W.Frag) : MS := (mRet (mIfE (mNot (mB (mCall0 (d_is_whole K) (mCons (mOp fIx (mVar 2) (mC (.int 2))) (mCons (mC (.int 0)) (mCons (mC (.int 1)) mNil)))))) (mDis (fun ds => .dat (.tuple ds)) (mCons (mFz (mC (.int 2))) mNil)) (mC .none)))
@[reducible] def B_right_fault_4 (K : PySem.W.Frag) : MS := (mSeq (mIf (mOr (mNot (mB (mCall0 (d_is_name K) (mCons (mOp fIx (mVar 2) (mC (.int 1))) mNil)))) (mB (mOp fNotIn (mOp fIx (mVar 2) (mC (.int 1))) (mVar 0)))) (B_right_fault_2 K) mNext)
  (B_right_fault_3 K))
@[reducible] def B_right_fault_5 (K : PySem.W.Frag) : MS := (mSeq (mIf (mOr (mNot (mB (mCall0 (d_is_name K) (mCons (mOp fIx (mVar 2) (mC (.int 0))) mNil)))) (mB (mOp fNotIn (mOp fIx (mVar 2) (mC (.int 0))) (mVar 1)))) (B_right_fault_1 K) mNext)
  (B_right_fault_4 K))
def b_right_fault (K : PySem.W.Frag) : MS := (mSeq (mIf (mOr (mNot (mB (mIsi Lk.isTup (mVar 2)))) (mB (mOp fNe (mCB (fl1 fLen) (mCons (mVar 2) mNil)) (mC (.int 3))))) (mRet (mDis (fun ds => .dat (.tuple ds)) mNil)) mNext)
  (B_right_fault_5 K))
def d_right_fault (K : PySem.W.Frag) : Den := runF 3 3 (b_right_fault K)
@[reducible] def B_rights_fault_1 (K : PySem.W.Frag) : MS := (mRet (mDis (fun ds => .dat (.tuple ds)) (mCons (mFz (mC (.int 4))) mNil)))
@[reducible] def B_rights_fault_2 (K : PySem.W.Frag) : MS := (mRet (mDis (fun ds => .dat (.tuple ds)) (mCons (mFz (mC (.int 4))) (mCons (mFz (mVar 4)) (mStar (mVar 6) mNil)))))
@[reducible] def B_rights_fault_3 (K : PySem.W.Frag) : MS := (mRet (mDis (fun ds => .dat (.tuple ds)) (mCons (mFz (mC (.int 4))) (mCons (mFz (mVar 4)) mNil))))
@[reducible] def B_rights_fault_4 (K : PySem.W.Frag) : MS := (mSeq (mIf (mB (mOp fLe (mVar 7) (mVar 3))) (B_rights_fault_3 K) mNext)
  (mAsg 3 (mVar 7)))
@[reducible] def B_rights_fault_5 (K : PySem.W.Frag) : MS := (mSeq (mAsg 7 (mDis (fun ds => .dat (.tuple ds)) (mCons (mFz (mIndex (mVar 1) (mD (mOp fIx (mVar 5) (mC (.int 0)))))) (mCons (mFz (mIndex (mVar 0) (mD (mOp fIx (mVar 5) (mC (.int 1)))))) (mCons (mFz (mOp fIx (mVar 5) (mC (.int 2)))) mNil)))))
  (B_rights_fault_4 K))
@[reducible] def B_rights_fault_6 (K : PySem.W.Frag) : MS := (mSeq (mIf (mB (mOp fNotN (mVar 6) (mC .none))) (B_rights_fault_2 K) mNext)
  (B_rights_fault_5 K))
@[reducible] def B_rights_fault_7 (K : PySem.W.Frag) : MS := (mSeq (mAsg 6 (mCall0 (d_right_fault K) (mCons (mVar 0) (mCons (mVar 1) (mCons (mVar 5) mNil)))))
  (B_rights_fault_6 K))
@[reducible] def B_rights_fault_8 (K : PySem.W.Frag) : MS := (mSeq (mFor (mEnum (mVar 2)) (mgT 2 (mgCons (mgN 4) (mgCons (mgN 5) mgNil))) (B_rights_fault_7 K))
  (mRet (mC .none)))
@[reducible] def B_rights_fault_9 (K : PySem.W.Frag) : MS := (mSeq (mAsg 3 (mDis (fun ds => .dat (.tuple ds)) (mCons (mFz (mUn fNeg (mC (.int 1)))) (mCons (mFz (mUn fNeg (mC (.int 1)))) (mCons (mFz (mUn fNeg (mC (.int 1)))) mNil)))))
  (B_rights_fault_8 K))
def b_rights_fault (K : PySem.W.Frag) : MS := (mSeq (mIf (mNot (mB (mIsi Lk.isTup (mVar 2)))) (B_rights_fault_1 K) mNext)
  (B_rights_fault_9 K))
def d_rights_fault (K : PySem.W.Frag) : Den := runF 3 8 (b_rights_fault K)
@[reducible] def B_fault_of_1 (K : PySem.W.Frag) : MT := (mOr (mNot (mB (mIsi Lk.isStr (mOp fIx (mVar 0) (mC (.int 0)))))) (mB (mOp fNe (mOp fIx (mVar 0) (mC (.int 0))) (mC (.str "building")))))
@[reducible] def B_fault_of_2 (K : PySem.W.Frag) : MS := (mAsg 6 (mCall0 (d_doors_fault K) (mCons (mVar 2) (mCons (mVar 3) mNil))))
@[reducible] def B_fault_of_3 (K : PySem.W.Frag) : MS := (mAsg 6 (mCall0 (d_names_fault K) (mCons (mVar 4) (mCons (mC (.int 3)) (mCons (mC (.int 1)) (mCons (mC (.int 3)) mNil))))))
@[reducible] def B_fault_of_4 (K : PySem.W.Frag) : MS := (mAsg 6 (mCall0 (d_rights_fault K) (mCons (mLc (mIt (mVar 3)) (mgN 7) mYes (mOp fIx (mVar 7) (mC (.int 0))) [7]) (mCons (mCB (fl1 fList) (mCons (mVar 4) mNil)) (mCons (mVar 5) mNil)))))
@[reducible] def B_fault_of_5 (K : PySem.W.Frag) : MS := (mSeq (mIf (mB (mOp fIsN (mVar 6) (mC .none))) (B_fault_of_4 K) mNext)
  (mRet (mVar 6)))
@[reducible] def B_fault_of_6 (K : PySem.W.Frag) : MS := (mSeq (mIf (mB (mOp fIsN (mVar 6) (mC .none))) (B_fault_of_3 K) mNext)
  (B_fault_of_5 K))
@[reducible] def B_fault_of_7 (K : PySem.W.Frag) : MS := (mSeq (mIf (mB (mOp fIsN (mVar 6) (mC .none))) (B_fault_of_2 K) mNext)
  (B_fault_of_6 K))
@[reducible] def B_fault_of_8 (K : PySem.W.Frag) : MS := (mSeq (mAsg 6 (mCall0 (d_names_fault K) (mCons (mVar 2) (mCons (mC (.int 1)) (mCons (mC (.int 2)) (mCons (mC (.int 6)) mNil))))))
  (B_fault_of_7 K))
@[reducible] def B_fault_of_9 (K : PySem.W.Frag) : MS := (mSeq (mAsgG (mgT 5 (mgCons (mgN 1) (mgCons (mgN 2) (mgCons (mgN 3) (mgCons (mgN 4) (mgCons (mgN 5) mgNil)))))) (mD (mVar 0)))
  (B_fault_of_8 K))
def b_fault_of (K : PySem.W.Frag) : MS := (mSeq (mIf (mOr (mNot (mB (mIsi Lk.isTup (mVar 0)))) (mOr (mB (mOp fNe (mCB (fl1 fLen) (mCons (mVar 0) mNil)) (mC (.int 5)))) (B_fault_of_1 K))) (mRet (mDis (fun ds => .dat (.tuple ds)) mNil)) mNext)
  (B_fault_of_9 K))
def d_fault_of (K : PySem.W.Frag) : Den := runF 1 8 (b_fault_of K)
def b_is_building (K : PySem.W.Frag) : MS := (mRet (mOp fIsN (mCall0 (d_fault_of K) (mCons (mVar 0) mNil)) (mC .none)))
def d_is_building (K : PySem.W.Frag) : Den := runF 1 1 (b_is_building K)
def b_need_building (K : PySem.W.Frag) : MS := (mIf (mNot (mB (mCall0 (d_is_building K) (mCons (mVar 0) mNil)))) (mRaise (He.ga K "BadBuilding")) mNext)
def d_need_building (K : PySem.W.Frag) : Den := runF 1 1 (b_need_building K)
@[reducible] def B_need_door_1 (K : PySem.W.Frag) : MT := (mB (mOp fNotIn (mVar 1) (mLc (mIt (mOp fIx (mVar 0) (mC (.int 2)))) (mgN 2) mYes (mOp fIx (mVar 2) (mC (.int 0))) [2])))
def b_need_door (K : PySem.W.Frag) : MS := (mIf (mOr (mNot (mB (mCall0 (d_is_name K) (mCons (mVar 1) mNil)))) (B_need_door_1 K)) (mRaise (He.ga K "BadDoor")) mNext)
def d_need_door (K : PySem.W.Frag) : Den := runF 2 3 (b_need_door K)
def b_need_side (K : PySem.W.Frag) : MS := (mIf (mNot (mB (mCall0 (d_is_whole K) (mCons (mVar 0) (mCons (mC (.int 0)) (mCons (mC (.int 1)) mNil)))))) (mRaise (He.ga K "BadSide")) mNext)
def d_need_side (K : PySem.W.Frag) : Den := runF 1 1 (b_need_side K)
def b_door_named (K : PySem.W.Frag) : MS := (mRet (mOp fIx (mLc (mIt (mOp fIx (mVar 0) (mC (.int 2)))) (mgN 2) (mB (mOp fEq (mOp fIx (mVar 2) (mC (.int 0))) (mVar 1))) (mVar 2) [2]) (mC (.int 0))))
def d_door_named (K : PySem.W.Frag) : Den := runF 2 3 (b_door_named K)
@[reducible] def B_area_at_1 (K : PySem.W.Frag) : MS := (mRet (mOp fIx (mCall0 (d_door_named K) (mCons (mVar 0) (mCons (mVar 1) mNil))) (mOp fAdd (mC (.int 1)) (mVar 2))))
@[reducible] def B_area_at_2 (K : PySem.W.Frag) : MS := (mSeq (mDrop (mCall (d_need_side K) (mCons (mVar 2) mNil)))
  (B_area_at_1 K))
@[reducible] def B_area_at_3 (K : PySem.W.Frag) : MS := (mSeq (mDrop (mCall (d_need_door K) (mCons (mVar 0) (mCons (mVar 1) mNil))))
  (B_area_at_2 K))
def b_area_at (K : PySem.W.Frag) : MS := (mSeq (mDrop (mCall (d_need_building K) (mCons (mVar 0) mNil)))
  (B_area_at_3 K))
def d_area_at (K : PySem.W.Frag) : Den := runF 3 3 (b_area_at K)
@[reducible] def B__law_sides_right_1 (K : PySem.W.Frag) : MT := (mB (mOp fNe (mCall0 (swapP [0, 2, 1] (d_area_at K)) (mCons (mVar 1) (mCons (mC (.int 1)) (mCons (mVar 2) mNil)))) (mVar 4)))
@[reducible] def B__law_sides_right_2 (K : PySem.W.Frag) : MS := (mIf (mOr (mB (mOp fNe (mCall (d_area_at K) (mCons (mVar 1) (mCons (mVar 2) (mCons (mC (.int 0)) mNil)))) (mVar 3))) (B__law_sides_right_1 K)) (mRet (mC (.bool false))) mNext)
@[reducible] def B__law_sides_right_3 (K : PySem.W.Frag) : MS := (mRet (mAndV (mB (mIsE K (He.ga K "BadDoor") (mXIx 8 0))) (mIsE K (He.ga K "BadSide") (mXIx 8 1))))
@[reducible] def B__law_sides_right_4 (K : PySem.W.Frag) : MS := (mSeq (mDrop (mXApp 8 (mCaught K (He.ga K "KeptError") (mCall (d_area_at K) (mCons (mVar 1) (mCons (mVar 2) (mCons (mVar 7) mNil)))))))
  (B__law_sides_right_3 K))
@[reducible] def B__law_sides_right_5 (K : PySem.W.Frag) : MS := (mSeq (mAsg 8 (mXs1 (mCaught K (He.ga K "KeptError") (mCall (d_area_at K) (mCons (mVar 1) (mCons (mVar 6) (mCons (mVar 7) mNil)))))))
  (B__law_sides_right_4 K))
@[reducible] def B__law_sides_right_6 (K : PySem.W.Frag) : MS := (mSeq (mAsg 7 (mCall0 (d__law_pick K) (mCons (mVar 0) (mCons (mDis (fun ds => .lst ds) (mCons (mFz (mC (.int 2))) (mCons (mFz (mUn fNeg (mC (.int 1)))) (mCons (mFz (mC .none)) (mCons (mFz (mC (.bool true))) (mCons (mFz (mC (.bool false))) (mCons (mFz (mC (.str "0"))) (mCons (mFz (mOp fPow (mC (.int 10)) (mC (.int 40)))) (mCons (mFz (mDis (fun ds => .dat (.tuple ds)) (mCons (mFz (mC (.int 0))) mNil))) mNil))))))))) mNil))))
  (B__law_sides_right_5 K))
@[reducible] def B__law_sides_right_7 (K : PySem.W.Frag) : MS := (mSeq (mAsg 6 (mCall0 (d__law_pick K) (mCons (mVar 0) (mCons (mDis (fun ds => .lst ds) (mCons (mFz (mC .none)) (mCons (mFz (mC (.str "any"))) (mCons (mFz (mOp fAdd (mVar 2) (mOp fMul (mC (.str "x")) (mC (.int 8))))) (mCons (mFz (mC (.int 0))) (mCons (mFz (mDis (fun ds => .lst ds) (mCons (mFz (mVar 2)) mNil))) (mCons (mFz (mOp fIx (mOp fIx (mVar 1) (mC (.int 2))) (mC (.int 0)))) (mCons (mFz (mC (.str ""))) mNil)))))))) mNil))))
  (B__law_sides_right_6 K))
@[reducible] def B__law_sides_right_8 (K : PySem.W.Frag) : MS := (mSeq (mAsg 2 (mOp fIx (mOp fIx (mOp fIx (mVar 1) (mC (.int 2))) (mC (.int 0))) (mC (.int 0))))
  (B__law_sides_right_7 K))
def b__law_sides_right (K : PySem.W.Frag) : MS := (mSeq (mFor (mIt (mOp fIx (mVar 1) (mC (.int 2)))) (mgT 4 (mgCons (mgN 2) (mgCons (mgN 3) (mgCons (mgN 4) (mgCons (mgN 5) mgNil))))) (B__law_sides_right_2 K))
  (B__law_sides_right_8 K))
def d__law_sides_right (K : PySem.W.Frag) : Den := runF 2 9 (b__law_sides_right K)
def b__law_tells (K : PySem.W.Frag) : MS := (mRet (mIfE (mB (mVar 1)) (mOp fIsB (mVar 0) (mC (.bool true))) (mOp fIsB (mVar 0) (mC (.bool false)))))
def d__law_tells (K : PySem.W.Frag) : Den := runF 2 2 (b__law_tells K)
@[reducible] def B__law_is_named_1 (K : PySem.W.Frag) : MT := (mOr (mB (mOp fGt (mCB (fl1 fLen) (mCons (mVar 0) mNil)) (mC (.int 8)))) (mB (mOp fEq (mVar 0) (mC (.str "any")))))
@[reducible] def B__law_is_named_2 (K : PySem.W.Frag) : MS := (mRet (mOp fEq (mLc (mIt (mVar 0)) (mgN 1) (mB (mOp fNotIn (mVar 1) (mC (.str "abcdefghijklmnopqrstuvwxyz")))) (mC (.int 1)) [1]) (mDis (fun ds => .lst ds) mNil)))
def b__law_is_named (K : PySem.W.Frag) : MS := (mSeq (mIf (mOr (mNot (mB (mIsi Lk.isStr (mVar 0)))) (mOr (mB (mOp fLt (mCB (fl1 fLen) (mCons (mVar 0) mNil)) (mC (.int 1)))) (B__law_is_named_1 K))) (mRet (mC (.bool false))) mNext)
  (B__law_is_named_2 K))
def d__law_is_named (K : PySem.W.Frag) : Den := runF 1 2 (b__law_is_named K)
@[reducible] def B__law_are_named_1 (K : PySem.W.Frag) : MT := (mOr (mB (mOp fLt (mCB (fl1 fLen) (mCons (mVar 0) mNil)) (mVar 1))) (mB (mOp fGt (mCB (fl1 fLen) (mCons (mVar 0) mNil)) (mVar 2))))
@[reducible] def B__law_are_named_2 (K : PySem.W.Frag) : MS := (mRet (mOp fEq (mLc (mRng1 (mCons (mFz (mCB (fl1 fLen) (mCons (mVar 0) mNil))) mNil)) (mgN 4) (mB (mOp fIn (mOp fIx (mVar 0) (mVar 4)) (mSl (mVar 0) mONone (mOSome (mD (mVar 4)))))) (mVar 4) [4]) (mDis (fun ds => .lst ds) mNil)))
@[reducible] def B__law_are_named_3 (K : PySem.W.Frag) : MS := (mSeq (mIf (mB (mOp fNe (mLc (mIt (mVar 0)) (mgN 3) (mNot (mB (mCall0 (d__law_is_named K) (mCons (mVar 3) mNil)))) (mC (.int 1)) [3]) (mDis (fun ds => .lst ds) mNil))) (mRet (mC (.bool false))) mNext)
  (B__law_are_named_2 K))
def b__law_are_named (K : PySem.W.Frag) : MS := (mSeq (mIf (mOr (mNot (mB (mIsi Lk.isTup (mVar 0)))) (B__law_are_named_1 K)) (mRet (mC (.bool false))) mNext)
  (B__law_are_named_3 K))
def d__law_are_named (K : PySem.W.Frag) : Den := runF 3 5 (b__law_are_named K)
@[reducible] def B__law_is_doored_1 (K : PySem.W.Frag) : MT := (mOr (mB (mOp fLt (mCB (fl1 fLen) (mCons (mVar 1) mNil)) (mC (.int 1)))) (mB (mOp fGt (mCB (fl1 fLen) (mCons (mVar 1) mNil)) (mC (.int 6)))))
@[reducible] def B__law_is_doored_2 (K : PySem.W.Frag) : MT := (mOr (mNot (mB (mCall0 (d__law_is_named K) (mCons (mVar 4) mNil)))) (mOr (mB (mOp fNotIn (mVar 2) (mVar 0))) (mB (mOp fNotIn (mVar 4) (mVar 0)))))
@[reducible] def B__law_is_doored_3 (K : PySem.W.Frag) : MT := (mB (mOp fNotIn (mVar 5) (mDis (fun ds => .lst ds) (mCons (mFz (mC (.str "leaf"))) (mCons (mFz (mC (.str "gate"))) mNil)))))
@[reducible] def B__law_is_doored_4 (K : PySem.W.Frag) : MS := (mIf (mOr (mB (mOp fEq (mVar 2) (mVar 4))) (mOr (mNot (mB (mIsi Lk.isStr (mVar 5)))) (B__law_is_doored_3 K))) (mRet (mC (.bool false))) mNext)
@[reducible] def B__law_is_doored_5 (K : PySem.W.Frag) : MS := (mSeq (mIf (mOr (mNot (mB (mCall0 (d__law_is_named K) (mCons (mVar 2) mNil)))) (B__law_is_doored_2 K)) (mRet (mC (.bool false))) mNext)
  (B__law_is_doored_4 K))
@[reducible] def B__law_is_doored_6 (K : PySem.W.Frag) : MS := (mSeq (mFor (mIt (mVar 1)) (mgT 4 (mgCons (mgN 3) (mgCons (mgN 2) (mgCons (mgN 4) (mgCons (mgN 5) mgNil))))) (B__law_is_doored_5 K))
  (mRet (mC (.bool true))))
@[reducible] def B__law_is_doored_7 (K : PySem.W.Frag) : MS := (mSeq (mIf (mNot (mB (mCall0 (d__law_are_named K) (mCons (mUn fTuple (mLc (mIt (mVar 1)) (mgN 2) mYes (mOp fIx (mVar 2) (mC (.int 0))) [2])) (mCons (mC (.int 1)) (mCons (mC (.int 6)) mNil)))))) (mRet (mC (.bool false))) mNext)
  (B__law_is_doored_6 K))
@[reducible] def B__law_is_doored_8 (K : PySem.W.Frag) : MS := (mSeq (mIf (mB (mOp fNe (mLc (mIt (mVar 1)) (mgN 2) (mOr (mNot (mB (mIsi Lk.isTup (mVar 2)))) (mB (mOp fNe (mCB (fl1 fLen) (mCons (mVar 2) mNil)) (mC (.int 4))))) (mC (.int 1)) [2]) (mDis (fun ds => .lst ds) mNil))) (mRet (mC (.bool false))) mNext)
  (B__law_is_doored_7 K))
def b__law_is_doored (K : PySem.W.Frag) : MS := (mSeq (mIf (mOr (mNot (mB (mIsi Lk.isTup (mVar 1)))) (B__law_is_doored_1 K)) (mRet (mC (.bool false))) mNext)
  (B__law_is_doored_8 K))
def d__law_is_doored (K : PySem.W.Frag) : Den := runF 2 6 (b__law_is_doored K)
@[reducible] def B__law_is_housed_1 (K : PySem.W.Frag) : MT := (mOr (mNot (mB (mIsi Lk.isStr (mOp fIx (mVar 0) (mC (.int 0)))))) (mB (mOp fNe (mOp fIx (mVar 0) (mC (.int 0))) (mC (.str "building")))))
@[reducible] def B__law_is_housed_2 (K : PySem.W.Frag) : MT := (mNot (mB (mCall0 (d__law_are_named K) (mCons (mVar 3) (mCons (mC (.int 1)) (mCons (mC (.int 3)) mNil))))))
@[reducible] def B__law_is_housed_3 (K : PySem.W.Frag) : MT := (mOr (mNot (mB (mCall0 (d__law_is_doored K) (mCons (mVar 1) (mCons (mVar 2) mNil))))) (B__law_is_housed_2 K))
@[reducible] def B__law_is_housed_4 (K : PySem.W.Frag) : MS := (mAsg 5 (mOp fAdd (mVar 5) (mDis (fun ds => .lst ds) (mCons (mFz (mDis (fun ds => .dat (.tuple ds)) (mCons (mFz (mVar 7)) (mCons (mFz (mOp fIx (mVar 8) (mC (.int 0)))) (mCons (mFz (mC (.int 0))) mNil))))) (mCons (mFz (mDis (fun ds => .dat (.tuple ds)) (mCons (mFz (mVar 7)) (mCons (mFz (mOp fIx (mVar 8) (mC (.int 0)))) (mCons (mFz (mC (.int 1))) mNil))))) mNil)))))
@[reducible] def B__law_is_housed_5 (K : PySem.W.Frag) : MT := (mOr (mB (mOp fNe (mCB (fl1 fLen) (mCons (mVar 9) mNil)) (mC (.int 3)))) (mOr (mB (mIsi Lk.isBool (mOp fIx (mVar 9) (mC (.int 2))))) (mB (mOp fNotIn (mVar 9) (mVar 5)))))
@[reducible] def B__law_is_housed_6 (K : PySem.W.Frag) : MS := (mDrop (mLM fAppend 6 (mCons (mFz (mIndex (mVar 5) (mD (mVar 9)))) mNil)))
@[reducible] def B__law_is_housed_7 (K : PySem.W.Frag) : MS := (mSeq (mIf (mNot (mB (mIsi Lk.isInt (mOp fIx (mVar 9) (mC (.int 2)))))) (mRet (mC (.bool false))) mNext)
  (B__law_is_housed_6 K))
@[reducible] def B__law_is_housed_8 (K : PySem.W.Frag) : MS := (mSeq (mIf (mOr (mNot (mB (mIsi Lk.isTup (mVar 9)))) (B__law_is_housed_5 K)) (mRet (mC (.bool false))) mNext)
  (B__law_is_housed_7 K))
@[reducible] def B__law_is_housed_9 (K : PySem.W.Frag) : MS := (mSeq (mFor (mIt (mVar 4)) (mgN 9) (B__law_is_housed_8 K))
  (mRet (mOp fEq (mVar 6) (mUn fSortSetI (mVar 6)))))
@[reducible] def B__law_is_housed_10 (K : PySem.W.Frag) : MS := (mSeq (mIf (mNot (mB (mIsi Lk.isTup (mVar 4)))) (mRet (mC (.bool false))) mNext)
  (B__law_is_housed_9 K))
@[reducible] def B__law_is_housed_11 (K : PySem.W.Frag) : MS := (mSeq (mFor (mIt (mVar 3)) (mgN 7) (mFor (mIt (mVar 2)) (mgN 8) (B__law_is_housed_4 K)))
  (B__law_is_housed_10 K))
@[reducible] def B__law_is_housed_12 (K : PySem.W.Frag) : MS := (mSeq (mPar [5, 6] (mCons (mMv (mDis (fun ds => .lst ds) mNil)) (mCons (mMv (mDis (fun ds => .lst ds) mNil)) mNil)))
  (B__law_is_housed_11 K))
@[reducible] def B__law_is_housed_13 (K : PySem.W.Frag) : MS := (mSeq (mIf (mOr (mNot (mB (mCall0 (d__law_are_named K) (mCons (mVar 1) (mCons (mC (.int 2)) (mCons (mC (.int 6)) mNil)))))) (B__law_is_housed_3 K)) (mRet (mC (.bool false))) mNext)
  (B__law_is_housed_12 K))
@[reducible] def B__law_is_housed_14 (K : PySem.W.Frag) : MS := (mSeq (mPar [1, 2, 3, 4] (mCons (mMv (mOp fIx (mVar 0) (mC (.int 1)))) (mCons (mMv (mOp fIx (mVar 0) (mC (.int 2)))) (mCons (mMv (mOp fIx (mVar 0) (mC (.int 3)))) (mCons (mMv (mOp fIx (mVar 0) (mC (.int 4)))) mNil)))))
  (B__law_is_housed_13 K))
def b__law_is_housed (K : PySem.W.Frag) : MS := (mSeq (mIf (mOr (mNot (mB (mIsi Lk.isTup (mVar 0)))) (mOr (mB (mOp fNe (mCB (fl1 fLen) (mCons (mVar 0) mNil)) (mC (.int 5)))) (B__law_is_housed_1 K))) (mRet (mC (.bool false))) mNext)
  (B__law_is_housed_14 K))
def d__law_is_housed (K : PySem.W.Frag) : Den := runF 1 10 (b__law_is_housed K)
@[reducible] def B_need_free_1 (K : PySem.W.Frag) : MT := (mOr (mB (mOp fNotIn (mVar 5) (mVar 2))) (mB (mOp fIn (mVar 5) (mSl (mVar 1) mONone (mOSome (mD (mVar 4)))))))
@[reducible] def B_need_free_2 (K : PySem.W.Frag) : MS := (mIf (mOr (mNot (mB (mCall0 (d_is_name K) (mCons (mVar 5) mNil)))) (B_need_free_1 K)) (mRaise (He.ga K "BadDoors")) mNext)
@[reducible] def B_need_free_3 (K : PySem.W.Frag) : MS := (mFor (mEnum (mVar 1)) (mgT 2 (mgCons (mgN 4) (mgCons (mgN 5) mgNil))) (B_need_free_2 K))
@[reducible] def B_need_free_4 (K : PySem.W.Frag) : MS := (mSeq (mIf (mNot (mB (mIsi (fun d => Lk.isLst d || Lk.isTup d) (mVar 1)))) (mRaise (He.ga K "BadDoors")) mNext)
  (B_need_free_3 K))
def b_need_free (K : PySem.W.Frag) : MS := (mSeq (mAsg 2 (mLc (mIt (mOp fIx (mVar 0) (mC (.int 2)))) (mgN 3) mYes (mOp fIx (mVar 3) (mC (.int 0))) [3]))
  (B_need_free_4 K))
def d_need_free (K : PySem.W.Frag) : Den := runF 2 6 (b_need_free K)
@[reducible] def B_steps_1 (K : PySem.W.Frag) : MS := (mDrop (mLM fAppend 2 (mCons (mFz (mDis (fun ds => .dat (.tuple ds)) (mCons (mFz (mVar 5)) (mCons (mFz (mVar 3)) (mCons (mFz (mVar 4)) mNil))))) mNil)))
@[reducible] def B_steps_2 (K : PySem.W.Frag) : MS := (mSeq (mDrop (mLM fAppend 2 (mCons (mFz (mDis (fun ds => .dat (.tuple ds)) (mCons (mFz (mVar 4)) (mCons (mFz (mVar 3)) (mCons (mFz (mVar 5)) mNil))))) mNil)))
  (B_steps_1 K))
@[reducible] def B_steps_3 (K : PySem.W.Frag) : MS := (mSeq (mFor (mIt (mOp fIx (mVar 0) (mC (.int 2)))) (mgT 4 (mgCons (mgN 3) (mgCons (mgN 4) (mgCons (mgN 5) (mgCons (mgN 6) mgNil))))) (mIf (mB (mOp fIn (mVar 3) (mVar 1))) (B_steps_2 K) mNext))
  (mRet (mVar 2)))
def b_steps (K : PySem.W.Frag) : MS := (mSeq (mAsg 2 (mDis (fun ds => .lst ds) mNil))
  (B_steps_3 K))
def d_steps (K : PySem.W.Frag) : Den := runF 2 7 (b_steps K)
@[reducible] def B_come_to_1 (K : PySem.W.Frag) : MS := (mIf (mAnd (mB (mOp fEq (mVar 6) (mOp fIx (mVar 4) (mVar 5)))) (mAnd (mB (mOp fNotIn (mVar 8) (mVar 4))) (mB (mOp fNotIn (mVar 8) (mVar 3))))) (mDrop (mLM fAppend 4 (mCons (mFz (mVar 8)) mNil))) mNext)
@[reducible] def B_come_to_2 (K : PySem.W.Frag) : MS := (mRet (mLc (mIt (mOp fIx (mVar 0) (mC (.int 1)))) (mgN 9) (mB (mOp fIn (mVar 9) (mVar 4))) (mVar 9) [9]))
@[reducible] def B_come_to_3 (K : PySem.W.Frag) : MS := (mSeq (mWhile (mB (mOp fLt (mVar 5) (mCB (fl1 fLen) (mCons (mVar 4) mNil)))) (mSeq (mFor (mIt (mCall0 (d_steps K) (mCons (mVar 0) (mCons (mVar 1) mNil)))) (mgT 3 (mgCons (mgN 6) (mgCons (mgN 7) (mgCons (mgN 8) mgNil)))) (B_come_to_1 K))
  (mAug 5 (fun a b => a + b) (mD (mC (.int 1))))))
  (B_come_to_2 K))
def b_come_to (K : PySem.W.Frag) : MS := (mSeq (mPar [4, 5] (mCons (mMv (mDis (fun ds => .lst ds) (mCons (mFz (mVar 2)) mNil))) (mCons (mMv (mC (.int 0))) mNil)))
  (B_come_to_3 K))
def d_come_to (K : PySem.W.Frag) : Den := runF 4 10 (b_come_to K)
@[reducible] def B_joined_1 (K : PySem.W.Frag) : MS := (mDrop (mLM fAppend 2 (mCons (mFz (mUn fTuple (mCall0 (d_come_to K) (mCons (mVar 0) (mCons (mVar 1) (mCons (mVar 3) (mCons (mFz (mDis (fun ds => .lst ds) mNil)) mNil))))))) mNil)))
@[reducible] def B_joined_2 (K : PySem.W.Frag) : MS := (mIf (mNot (mB (mCB (fl1 fAny) (mCons (mLcO 2 (mgN 4) mYes (mOp fIn (mVar 3) (mVar 4)) [4]) mNil)))) (B_joined_1 K) mNext)
@[reducible] def B_joined_3 (K : PySem.W.Frag) : MS := (mSeq (mFor (mIt (mOp fIx (mVar 0) (mC (.int 1)))) (mgN 3) (B_joined_2 K))
  (mRet (mVar 2)))
@[reducible] def B_joined_4 (K : PySem.W.Frag) : MS := (mSeq (mAsg 2 (mDis (fun ds => .lst ds) mNil))
  (B_joined_3 K))
@[reducible] def B_joined_5 (K : PySem.W.Frag) : MS := (mSeq (mDrop (mCall (d_need_free K) (mCons (mVar 0) (mCons (mVar 1) mNil))))
  (B_joined_4 K))
def b_joined (K : PySem.W.Frag) : MS := (mSeq (mDrop (mCall (d_need_building K) (mCons (mVar 0) mNil)))
  (B_joined_5 K))
def d_joined (K : PySem.W.Frag) : Den := runF 2 5 (b_joined K)
@[reducible] def B__law_refused_right_1 (K : PySem.W.Frag) : MS := (mRet (mAndV (mB (mNotV (mB (mIsE K (He.ga K "BadBuilding") (mXIx 2 0))))) (mIsNone false (mXIx 2 1))))
@[reducible] def B__law_refused_right_2 (K : PySem.W.Frag) : MS := (mRet (mAndV (mB (mIsE K (He.ga K "BadBuilding") (mXIx 2 0))) (mIsE K (He.ga K "BadBuilding") (mXIx 2 1))))
@[reducible] def B__law_refused_right_3 (K : PySem.W.Frag) : MS := (mSeq (mIf (mB (mCall0 (d__law_is_housed K) (mCons (mVar 1) mNil))) (B__law_refused_right_1 K) mNext)
  (B__law_refused_right_2 K))
@[reducible] def B__law_refused_right_4 (K : PySem.W.Frag) : MS := (mSeq (mDrop (mXApp 2 (mCaught K (He.ga K "KeptError") (mCall (d_joined K) (mCons (mVar 1) (mCons (mFz (mDis (fun ds => .lst ds) mNil)) mNil))))))
  (B__law_refused_right_3 K))
def b__law_refused_right (K : PySem.W.Frag) : MS := (mSeq (mAsg 2 (mXs1 (mCaught K (He.ga K "KeptError") (mCall (d_area_at K) (mCons (mVar 1) (mCons (mC (.str "d")) (mCons (mC (.int 0)) mNil)))))))
  (B__law_refused_right_4 K))
def d__law_refused_right (K : PySem.W.Frag) : Den := runF 2 3 (b__law_refused_right K)
@[reducible] def B_law_1 (K : PySem.W.Frag) : MS := (mAsg 5 (mCall0 (d__law_bent K 5) (mCons (mVar 1) (mCons (mVar 5) mNil))))
@[reducible] def B_law_2 (K : PySem.W.Frag) : MS := (mIf (mOr (mNot (mB (mCall0 (d__law_tells K) (mCons (mCall0 (d_is_building K) (mCons (mVar 5) mNil)) (mCons (mCall0 (d__law_is_housed K) (mCons (mVar 5) mNil)) mNil))))) (mNot (mB (mCall0 (d__law_refused_right K) (mCons (mVar 3) (mCons (mVar 5) mNil)))))) (mRet (mC (.bool false))) mNext)
@[reducible] def B_law_3 (K : PySem.W.Frag) : MS := (mSeq (mIf (mB (mOp fGt (mVar 4) (mC (.int 3)))) (B_law_1 K) mNext)
  (B_law_2 K))
@[reducible] def B_law_4 (K : PySem.W.Frag) : MS := (mSeq (mAsg 5 (mCall0 (d__law_bent K 5) (mCons (mVar 1) (mCons (mVar 3) mNil))))
  (B_law_3 K))
@[reducible] def B_law_5 (K : PySem.W.Frag) : MT := (mOr (mB (mOp fNotB (mCall0 (d_is_name K) (mCons (mC (.str "any")) mNil)) (mC (.bool false)))) (mB (mOp fNotB (mCall0 (d_is_name K) (mCons (mC (.str "a")) mNil)) (mC (.bool true)))))
@[reducible] def B_law_6 (K : PySem.W.Frag) : MS := (mIf (mOr (mNot (mB (mCall0 (d__law_tells K) (mCons (mCall0 (d_is_name K) (mCons (mVar 6) mNil)) (mCons (mCall0 (d__law_is_named K) (mCons (mVar 6) mNil)) mNil))))) (B_law_5 K)) (mRet (mC (.bool false))) mNext)
@[reducible] def B_law_7 (K : PySem.W.Frag) : MS := (mSeq (mAsg 6 (mCall0 (d__law_bent K 5) (mCons (mVar 1) (mCons (mCall0 (d__law_letters K) (mCons (mVar 1) (mCons (mCall0 (d__law_pick K) (mCons (mVar 1) (mCons (mDis (fun ds => .lst ds) (mCons (mFz (mC (.int 1))) (mCons (mFz (mC (.int 8))) (mCons (mFz (mC (.int 9))) (mCons (mFz (mC (.int 0))) (mCons (mFz (mC (.int 3))) mNil)))))) mNil))) mNil))) mNil))))
  (B_law_6 K))
@[reducible] def B_law_8 (K : PySem.W.Frag) : MS := (mSeq (mFor (mRng1 (mCons (mFz (mC (.int 6))) mNil)) (mgN 4) (B_law_4 K))
  (B_law_7 K))
@[reducible] def B_law_9 (K : PySem.W.Frag) : MS := (mSeq (mIf (mOr (mB (mOp fNotB (mCall0 (d_is_building K) (mCons (mVar 3) mNil)) (mC (.bool true)))) (mNot (mB (mCall (d__law_sides_right K) (mCons (mVar 1) (mCons (mVar 3) mNil)))))) (mRet (mC (.bool false))) mNext)
  (B_law_8 K))
@[reducible] def B_law_10 (K : PySem.W.Frag) : MS := (mSeq (mAsg 3 (mCall0 (d__law_house K) (mCons (mVar 1) mNil)))
  (B_law_9 K))
@[reducible] def B_law_11 (K : PySem.W.Frag) : MS := (mSeq (mFor (mRng1 (mCons (mFz (mOp fAdd (mC (.int 1)) (mCB (fl2 fMin2) (mCons (mCB (fl1 fLen) (mCons (mVar 0) mNil)) (mCons (mC (.int 2)) mNil))))) mNil)) (mgN 2) (B_law_10 K))
  (mRet (mC (.bool true))))
def b_law (K : PySem.W.Frag) : MS := (mSeq (mAsg 1 (mCall0 dBegun (mCons (mVar 0) mNil)))
  (B_law_11 K))
def d_law (K : PySem.W.Frag) : Den := runF 1 7 (b_law K)
end K77

/-! part Pd -/
namespace K77
open PySem PySem.Spec PyProof.Rows L2 Evl Lk LamX Mk
section
variable {P : Program} {w : World} {K : PySem.W.Frag} {mg : Str → Option Value} {base : Heap} {f : Addr} {fd : FuncData} {TT : List (Addr × Str)}
/-! ### the state of the draws (the same in every law) -/
theorem ok__law_begun (T : Txt K mg) (F : Fn K "_law_begun" s__law_begun f fd) : FnOk P w K mg base CX0 1 f fd ["script"] (spBegunA K) := by
  refine fn_run F sc__law_begun ?l fun cdv A outer s H E hr => ⟨_, (pss_cons (ps_setLc (i := 1) (own := [("cell", 2)]) (by rfl) sc__law_begun.nd rfl rfl (sw_true rfl rfl rfl (by decide +kernel)) (pi_list (pv 0)) (blkOk_by (own := [("cell", 2)]) (N := N__law_begun) (sc := defScope s__law_begun) (by decide +kernel)) (fun _ _ _ _ _ => (pg_name (i := 2) sc__law_begun.nd rfl (Or.inl rfl))) (fun _ _ _ _ _ => (pts_one (pt_cmpR op_ge (pe_callB cl_abs (by rfl) T.n_abs (by decide +kernel) (pa_cons (pv 2) pa_nil)) (pe_op op_pow pe_int pe_int) (nomark _)))) (fun _ _ _ _ _ => (pe_op op_sub (pe_callB cl_abs (by rfl) T.n_abs (by decide +kernel) (pa_cons (pv 2) pa_nil)) (pe_op op_pow pe_int pe_int))))
  (pss_one (ps_ret (pe_disp (pps_cons pe_str (pv 1) (pps_cons pe_str (by exact (pe_lc (own := [("cell", 2)]) (by rfl) sc__law_begun.nd (pi_list (pv 0)) (blkOk_by (own := [("cell", 2)]) (N := N__law_begun) (sc := defScope s__law_begun) (by decide +kernel)) (fun _ _ _ _ _ => (pg_name (i := 2) sc__law_begun.nd rfl (Or.inl rfl))) (fun _ _ _ _ _ => pts_nil) (fun _ _ _ _ _ => (pe_callB cl_abs (by rfl) T.n_abs (by decide +kernel) (pa_cons (pv 2) pa_nil))))) (pps_cons pe_str pe_int (pps_cons pe_str pe_int pps_nil)))) (by rfl) (by rfl) (fun z => by cases z) (by decide))))), ?p⟩
  case l =>
    rintro vs H Q E ⟨l, cs, rfl, _⟩
    rfl
  case p =>
    rintro vs Q ⟨l, cs, rfl, hl, hz, k⟩
    have at_i : ∀ (i : Nat) (x : V), (cs.map V.int)[i]? = some x → x = .int (cs.getD i 0) := fun i x h => by
      rw [List.getElem?_map] at h
      obtain ⟨y, hy, rfl⟩ := Option.map_eq_some_iff.mp h
      rw [List.getD_eq_getElem?_getD, hy]
      rfl
    have hz' : (cs.map V.int).length ≤ 40000 := by rw [List.length_map]; exact hz
    let ab : Int → Int := fun c => if c < 0 then -c else c
    have gv : ∀ (n : Nat) (f : Nat → Bool) (h : Nat → Int), given n f (fun i => V.int (h i)) = (((List.range n).filter f).map h).map V.int := fun n f h => by
      unfold given
      rw [List.map_map]
      rfl
    refine q_asgL (xs := given (cs.map V.int).length (fun i => decide ((10 : Int) ^ 18 ≤ ab (cs.getD i 0))) fun i => .int (ab (cs.getD i 0) - 10 ^ 18)) ?lc fun g H1 hg e1 h1 => ?_
    case lc =>
      refine el_lcL (xs := cs.map V.int) (fun i => decide ((10 : Int) ^ 18 ≤ ab (cs.getD i 0))) (fun i => .int (ab (cs.getD i 0) - 10 ^ 18)) (ev_var rfl) hl hz' (fun _ => rfl) (fun i x H1 e1 hi => ?_) fun i x H1 e1 hi _ => ?_
      · obtain rfl := at_i i x hi
        exact et_is (by wtm_at "et") (by rfl)
      · obtain rfl := at_i i x hi
        exact ev_is (by wtm_at "ev") (by rfl)
    refine fun p hp => ?_
    have hgp : g ≠ p := by
      rintro rfl
      rw [h1] at hp
      cases hp
    have e2 : Ex H1 (upd H1 p (.dK [])) := Ex.new hp
    refine r_pairEv (v := .ref g) (ev_var rfl) fun H2 e2' => ?_
    refine r_pairEvL (xs := given (cs.map V.int).length (fun _ => true) fun i => .int (ab (cs.getD i 0))) ?lc2 fun c H3 hc e3 h3 => ?_
    case lc2 =>
      refine el_lcL (xs := cs.map V.int) (fun _ => true) (fun i => .int (ab (cs.getD i 0))) (ev_var rfl) (ex_l (e1.trans (e2.trans e2')) hl) hz' (fun _ => rfl) (fun i x H1 e1 hi => et_yes) fun i x H2 e2 hi _ => ?_
      obtain rfl := at_i i x hi
      exact ev_is (by wtm_at "ev") (by rfl)
    refine r_pairEv ev_c fun H4 e4 => r_pairEv ev_c fun H5 e5 => ?_
    have e6 : Ex H1 H3 := e2.trans (e2'.trans e3)
    have e7 : Ex H3 H5 := e4.trans e5
    refine ⟨(e2'.trans (e3.trans e7)) _ _ upd_same, stD g c 0 0, rfl, show 4 ≤ 15 by decide, ?_⟩
    have h1' : H5 g = some (.lst (given (cs.map V.int).length (fun i => decide ((10 : Int) ^ 18 ≤ ab (cs.getD i 0))) fun i => .int (ab (cs.getD i 0) - 10 ^ 18))) := e7 _ _ (e6 _ _ h1)
    have h3' := e7 _ _ h3
    have hpn : H p = none := by
      cases q : H p with
      | none => rfl
      | some o =>
        have := e1 _ _ q
        rw [hp] at this
        cases this
    have hgc : g ≠ c := by
      rintro rfl
      rw [(e2.trans e2') _ _ h1] at hc
      cases hc
    have hpc : c ≠ p := by
      rintro rfl
      rw [e2' _ _ upd_same] at hc
      cases hc
    rw [gv] at h1' h3'
    refine k p g c _ ?_ ⟨_, _, 0, 0, ⟨upd_same, by rw [upd_ne hgp]; exact h1', by rw [upd_ne hpc]; exact h3', hgc⟩, by decide, by decide⟩ hpn hg ?_
    · exact Ex.mut (e1.trans (e6.trans e7)) hpn
    · cases q : H c with
      | none => rfl
      | some o =>
        have := ((e1.trans e2).trans e2') _ _ q
        rw [hc] at this
        cases this
theorem ok__law_mixed (T : Txt K mg) (F : Fn K "_law_mixed" s__law_mixed f fd) : FnOk P w K mg base CX0 1 f fd ["state"] spMixedA := by
  refine fn_run F sc__law_mixed ?l fun cdv A outer s H E hr => ⟨_, (pss_cons (ps_par (i := 1) (j := 2) (by rfl) sc__law_mixed.nd rfl rfl (by decide) rfl rfl (pa_cons (pe_op op_add (pe_dget (hu_of hr) (pv 0) pe_str (fun _ _ => rfl)) pe_int) (pa_cons pe_int pa_nil)) (by rfl))
  (pss_cons (ps_dput (hu_of hr) (pv 0) pe_str (pv 1) rfl)
  (pss_cons (ps_for PassesOwn.never rfl (pi_list (pe_lst (pa_cons pe_int (pa_cons pe_int (pa_cons pe_int (pa_cons pe_int pa_nil)))))) (pg_name (i := 3) sc__law_mixed.nd rfl (Or.inl rfl)) (pss_cons (ps_set (i := 4) sc__law_mixed.nd rfl (Or.inl rfl) (pe_op op_add (pe_op op_mul pe_int (pv 1)) (pe_op op_fdiv (pv 3) pe_int)))
  (pss_cons (ps_for PassesOwn.never rfl (pi_list (pe_dget (hu_of hr) (pv 0) pe_str (fun _ _ => rfl))) (pg_name (i := 5) sc__law_mixed.nd rfl (Or.inl rfl)) (pss_one (ps_set (i := 4) sc__law_mixed.nd rfl (Or.inl rfl) (pe_op op_mod (pe_callTy cl_int (by rfl) T.n_int (by decide +kernel) (pa_cons (pe_op op_add (pe_op op_add (pe_op op_mul (pv 4) pe_int) (pv 5)) (pv 1)) pa_nil)) (pv 3)))))
  (pss_one (ps_set (i := 2) sc__law_mixed.nd rfl (Or.inl rfl) (pe_op op_add (pe_op op_mul (pv 2) pe_int) (pe_op op_mod (pe_callTy cl_int (by rfl) T.n_int (by decide +kernel) (pa_cons (pe_op op_pow (pv 4) pe_int) pa_nil)) (pv 3))))))))
  (pss_one (ps_ret (pv 2)))))), ?p⟩
  case l =>
    rintro vs H Q E ⟨a, g, c, n, rfl, _⟩
    rfl
  case p =>
    rintro vs Q ⟨a, g, c, n, rfl, ⟨gs, cs, r, t, st, t0, tn⟩, hn, k⟩
    refine q_par (x := .int (t + 1)) (y := .int 0) (ea_cons (ev_op (ev_dget (ev_var rfl) st.hd stD_turn) (by wtm_at "ev") (by wtm_at "rv")) (ea_cons (by wtm_at "ev") ea_nil)) fun H1 e1 => ?_
    have st1 := st.ex e1
    refine q_dput ⟨_, rfl, dput_end (T := fun σ H => _) (ev_var rfl) st1.hd stD_len fun H2 e2 => ?_⟩
    rw [put_turn]
    have st2 : StD (upd H2 a (.dK (stD g c r (t + 1)))) a g c gs cs r (t + 1) := (st1.ex e2).put
    have kp2 : Kp a g H (upd H2 a (.dK (stD g c r (t + 1)))) := ((Kp.of e1).trans (Kp.of e2)).trans Kp.a
    generalize upd H2 a (.dK (stD g c r (t + 1))) = H3 at st2 kp2
    have hb : 0 ≤ 69621 * (t + 1) ∧ 69621 * (t + 1) < 100000000000000000 := by
      have h : n < 1000000000000 := hn
      omega
    refine q_forNLn (xs := primes.map V.int) (el_lst (vs := [.int 2147483629, .int 2147483647, .int 2147483563, .int 2147483587]) (by wtm_at "ea") (by decide)) (fun p i σ' H' => Ex H3 H' ∧ H' p = some (.lst (primes.map V.int)) ∧ ∃ (z : Int) (x y u : Option V), σ' = [some (.ref a), some (.int (t + 1)), some (.int z), x, y, u])
      (fun p H4 _ e4 h4 => ⟨e4, h4, 0, none, none, none, rfl⟩) (fun p i σ' H' _ q => sq_of q.2.1) ?_ ?_
    · rintro p i x σ' H' hx ⟨e4, hp, z, x', y, u, rfl⟩
      obtain ⟨q, rfl, q1, q2⟩ := primes_at i x hx
      have st4 := st2.ex e4
      refine q_asg (v := .int (69621 * (t + 1) + q / 41)) (by wtm_at "ev") fun H5 e5 => ?_
      have st5 := st4.ex e5
      refine q_forLn (a := c) (xs := cs.map V.int) (ev_dget (ev_var rfl) st5.hd stD_cells) (sq_of st5.hc) (fun i σ2 H6 => Ex H5 H6 ∧ ∃ (b : Int) (u : Option V), 0 ≤ b ∧ b < 1000000000000000000 ∧ σ2 = [some (.ref a), some (.int (t + 1)), some (.int z), some (.int q), some (.int b), u])
        (fun H6 e6 => ⟨e6, _, u, ?_, ?_, rfl⟩) (fun i σ2 H6 _ w => sq_of (st5.ex w.1).hc) ?_ ?_
      · omega
      · omega
      · rintro i x σ2 H6 hx ⟨e6, b, u, b0, b1, rfl⟩
        rw [List.getElem?_map] at hx
        obtain ⟨y, hy, rfl⟩ := Option.map_eq_some_iff.mp hx
        refine s_asg (v := .int ((b * 48271 + y + (t + 1)) % q)) (by wtm_at "ev") fun H7 e7 => ⟨e6.trans e7, _, _, ?_, ?_, rfl⟩
        · exact Int.emod_nonneg _ (by omega)
        · have := Int.emod_lt_of_pos (b * 48271 + y + (t + 1)) (show 0 < q by omega)
          omega
      · rintro σ2 H6 ⟨e6, b, u, b0, b1, rfl⟩
        refine s_asg (v := .int (z * 2147483659 + b ^ (5 : Int).toNat % q)) (ev_op (by wtm_at "ev") (ev_op (ev_intI (ev_op (by wtm_at "ev") (by wtm_at "ev") (rv_I ⟨by decide, by decide, by omega⟩))) (by wtm_at "ev") (rv_I (by omega))) (by wtm_at "rv")) fun H7 e7 => ?_
        exact ⟨((e4.trans e5).trans e6).trans e7, (e6.trans e7) _ _ (e5 _ _ hp), _, _, _, _, rfl⟩
    · rintro p σ' H' ⟨e4, hp, z, x', y, u, rfl⟩
      refine s_ret (v := .int z) (ev_var rfl) fun H5 e5 => ?_
      exact k z H5 (kp2.trans ((Kp.of e4).trans (Kp.of e5))) ⟨gs, cs, r, t + 1, st2.ex (e4.trans e5), by omega, by omega⟩
abbrev C__law_mixed (P : Program) (w : World) (K : PySem.W.Frag) (mg : Str → Option Value) (base : Heap) : Prop := Cl P w K mg base CX0 1 "_law_mixed" spMixedA
theorem ok__law_draw (T : Txt K mg) (c__law_mixed : C__law_mixed P w K mg base) (F : Fn K "_law_draw" s__law_draw f fd) : FnOk P w K mg base CX0 2 f fd ["state", "room"] spDrawA := by
  refine fn_run F sc__law_draw ?l fun cdv A outer s H E hr => ⟨_, (Evl.pss_cut (ps_if (pt_cmpR op_eq (pe_dget (hu_of hr) (pv 0) pe_str (fun _ _ => rfl)) pe_int (nomark _)) (pss_one (ps_dput (hu_of hr) (pv 0) pe_str (pe_ifExp (pt_cmpR (op_neD hr.units) (pe_dget (hu_of hr) (pv 0) pe_str (fun _ _ => rfl)) (pe_lst pa_nil) (nomark _)) (pe_bm PySem.F.plainAttrs_list PySem.F.slot_list_pop PySem.F.type_list_pop mt_popAt (pe_dget (hu_of hr) (pv 0) pe_str (fun _ _ => rfl)) (pa_cons pe_int pa_nil)) (pe_k c__law_mixed hr (by decide) rfl (by exact (pa_cons (pv 0) pa_nil)))) rfl)) pss_nil)
  (pss_cons (ps_set (i := 2) sc__law_draw.nd rfl (Or.inl rfl) (pe_op op_mod (pe_callTy cl_int (by rfl) T.n_int (by decide +kernel) (pa_cons (pe_dget (hu_of hr) (pv 0) pe_str (fun _ _ => rfl)) pa_nil)) (pv 1)))
  (pss_cons (ps_dput (hu_of hr) (pv 0) pe_str (pe_op op_fdivW (pe_dget (hu_of hr) (pv 0) pe_str (fun _ _ => rfl)) (pv 1)) rfl)
  (pss_one (ps_ret (pv 2)))))), ?p⟩
  case l =>
    rintro vs H Q E ⟨a, g, c, n, room, rfl, _⟩
    rfl
  case p =>
    rintro vs Q ⟨a, g, c, n, room, rfl, ⟨gs, cs, r, t, st, t0, tn⟩, hn, h0, hz, k⟩
    refine q_cut (M := fun σ' H' => σ' = [some (.ref a), some (.int room), none] ∧ Kp a g H H' ∧ StA H' a g c (n + 1)) ?_ ?_
    · refine s_when (b := decide (r = 0)) (et_is (et_test (ev_op (ev_dget (ev_var rfl) st.hd stD_rest) ev_c (by wtm_at "rv"))) (dec_vi' r 0)) (fun hb H1 e1 => ?_) fun hb H1 e1 => ?_
      · have st1 := st.ex e1
        have fin : ∀ (x : Int) (gs' : List Int) (H2 : Hp) (t' : Int), Kp a g H H2 → StD H2 a g c gs' cs r t' → 0 ≤ t' → t' ≤ (n + 1 : Nat) → (tVar 0) [some (.ref a), some (.int room), none] H2 fun x' H3 => ∃ a' H4, x' = .ref a' ∧ DPut H3 a' (.str "rest") (.int x) H4 ∧ [some (V.ref a), some (.int room), none] = [some (.ref a), some (.int room), none] ∧ Kp a g H H4 ∧ StA H4 a g c (n + 1) :=
          fun x gs' H2 t' kp st2 t0 tn => dput_end (T := fun σ' H4 => σ' = [some (.ref a), some (.int room), none] ∧ Kp a g H H4 ∧ StA H4 a g c (n + 1)) (ev_var rfl) st2.hd stD_len fun H3 e3 => ⟨rfl, (kp.trans (Kp.of e3)).trans Kp.a, gs', cs, x, t', by rw [put_rest]; exact (st2.ex e3).put, t0, tn⟩
        refine r_dput (r_if (b := !PyData.eqv (.list (gs.map .int)) (.list [])) (et_test (ev_neD (ed_ev (ev_dget (ev_var rfl) st1.hd stD_great) (.lst (sq_of st1.hg) (dps_ints gs))) (ed_lst eda_nil) (sh_ints gs) rfl)) (fun hb2 H2 e2 => ?_) fun hb2 H2 e2 => ?_)
        · have st2 := st1.ex e2
          rcases gs with _ | ⟨x, gs⟩
          · exact absurd hb2 (by decide)
          · refine r_pop0 (ev_dget (ev_var rfl) st2.hd stD_great) st2.hg fun H3 e3 => ?_
            have st3 := (st2.ex e3).pop (gs' := gs)
            exact fin x gs _ t (((Kp.of e1).trans (Kp.of e2)).trans ((Kp.of e3).trans Kp.g)) st3 t0 (by omega)
        · have st2 := st1.ex e2
          refine ⟨_, rfl, a, g, c, n, rfl, ⟨gs, cs, r, t, st2, t0, tn⟩, hn, fun x H3 kp3 st3 => ?_⟩
          obtain ⟨gs', cs', r', t', st3, t0', tn'⟩ := st3
          exact dput_end (T := fun σ' H4 => σ' = [some (.ref a), some (.int room), none] ∧ Kp a g H H4 ∧ StA H4 a g c (n + 1)) (ev_var rfl) st3.hd stD_len fun H4 e4 =>
            ⟨rfl, (((Kp.of e1).trans (Kp.of e2)).trans (kp3.trans (Kp.of e4))).trans Kp.a, gs', cs', x, t', by rw [put_rest]; exact (st3.ex e4).put, t0', tn'⟩
      · exact ⟨rfl, Kp.of e1, gs, cs, r, t, st.ex e1, t0, by omega⟩
    · rintro σ' H1 ⟨rfl, kp1, gs, cs, r, t, st1, t0, tn⟩
      refine q_asg (v := .int (r % room)) (ev_op (ev_intI (ev_dget (ev_var rfl) st1.hd stD_rest)) (by wtm_at "ev") (rv_I h0)) fun H2 e2 => ?_
      have st2 := st1.ex e2
      refine q_dput (ev_op (z := .int (r / room)) (ev_dget (ev_var rfl) st2.hd stD_rest) (ev_var rfl) (rv_I ⟨h0, hz⟩) H2 (Ex.refl H2) _ fun H3 e3 => dput_end (T := fun σ H => _) (ev_var rfl) (st2.ex e3).hd stD_len fun H4 e4 => ?_)
      refine s_ret (v := .int (r % room)) (ev_var rfl) fun H5 e5 => ?_
      refine k _ H5 (Int.emod_nonneg _ (by omega)) (Int.emod_lt_of_pos _ h0) ((((kp1.trans (Kp.of e2)).trans ((Kp.of e3).trans (Kp.of e4))).trans Kp.a).trans (Kp.of e5)) ⟨gs, cs, r / room, t, ?_, t0, tn⟩
      rw [put_rest] at e5
      exact ((st2.ex (e3.trans e4)).put).ex e5
end
end K77

/-! part Pb -/
namespace K77
open PySem PySem.Spec PyProof.Rows L2 Evl Lk LamX Mk
section
variable {P : Program} {w : World} {K : PySem.W.Frag} {mg : Str → Option Value} {base : Heap} {f : Addr} {fd : FuncData} {TT : List (Addr × Str)}
structure Cg (K : PySem.W.Frag) (mg : Str → Option Value) : Prop where
  ex : ∃ g fd, Fn K "_law_caught" s__law_caught g fd ∧ mg "_law_caught" = some (.ref g)
  ke : mg "KeptError" = some (.ref (He.ga K "KeptError"))
/-- caught(lambda: f(..)) -/
theorem e_caught {X : Cx} {j k k0 : Nat} {xd q y : Str} {G : Den} {W : WX} {mr : MA} {ta : TA} {params : Arguments} {e : Expr} {es : List Expr} {scope : Scope} {p p1 p2 lpos pos : Pos} (hr : Room j X.A) (Gc : Cg X.K X.mg) (LD : LamD X.K X.mg X.base TT xd q)
    (hg : Gl X "_law_caught") (hcode : X.env.code = .ref (He.codeOf X.K (xd, none))) (hq : X.env.qual ++ "<lambda>" = q) (hk : k + 2 ≤ j) (L : LamS X.env.scope scope) (hdef : defaultsOf params X.env = ([], []))
    (hbind : ∀ (q : Str) (cl : List (Str × Addr)) (pm cv ctv : Value), bindArgs (PySem.W.kla_fn "<lambda>" q params (.Call (.Name y p1) (e :: es) [] p2) scope cl pm cv ctv) ⟨[], []⟩ = pure [])
    (c : Cd X.prog X.w X.K X.mg X.base TT k0 y G) (hk0 : k0 ≤ k) (hgl : ∀ (A : Around) (outer : List Env) (s : Shared) (H : Hp) (E : XK) (f' c' : Addr), Gl (lamCx X A outer s H E scope f' c') y)
    (ha : ∀ (A : Around) (outer : List Env) (s : Shared) (H : Hp) (E : XK) (f' c' : Addr) (W : WX), QA (lamCx X A outer s H E scope f' c') K TT W (e :: es) ta mr) (hK : X.K = K := by rfl)
    (hdb : (y == ("__debug__" : Str)) = false := by decide) (he : ∀ (A : Around) (outer : List Env) (s : Shared) (H : Hp) (E : XK) (f' c' : Addr), starEach (e :: es) (lamCx X A outer s H E scope f' c').env = (false, eval e (lamCx X A outer s H E scope f' c').env) :: starEach es (lamCx X A outer s H E scope f' c').env := by intros; rfl)
    (hpl : ∀ (A : Around) (outer : List Env) (s : Shared) (H : Hp) (E : XK) (f' c' : Addr), (backTo p2 (starEach es (lamCx X A outer s H E scope f' c').env)).any (·.1) = false := by intros; rfl) :
    QE X K TT W (.Call (.Name "_law_caught" p) [.Lambda params (.Call (.Name y p1) (e :: es) [] p2) scope lpos] [] pos) (tCg TT X.K (He.ga X.K "KeptError") (spM X.K TT G) ta) (mCaught K (He.ga K "KeptError") (mCall G mr)) := by
  subst hK
  obtain ⟨g, fd, D, hm⟩ := Gc.ex
  refine ⟨?_, sim_caught (fun W => (ha X.A [] X.s_0 X.H_0 (fun _ _ _ => False) 0 0 W).s) rfl rfl⟩
  exact pe_caught (k := k) (a := "action") (n := "error") (y := "found") (e := "KeptError") D hg hm rfl (fun _ _ _ _ _ _ us hl => match us, hl with | [_], _ => rfl) sc__law_caught sc__law_caught.nd (.inl rfl) rfl Gc.ke rfl rfl rfl rfl rfl rfl rfl (by decide) (by decide) (by decide)
    LD hcode hq (hr.mono hk) L hdef hbind fun A outer s H E f' c' hr' => pe_kR (takes_of rfl rfl rfl rfl) c hr' hk0 (hgl A outer s H E f' c') (ha A outer s H E f' c' (fun cls d _ H => E cls d H)).p hdb (he A outer s H E f' c') (hpl A outer s H E f' c')
theorem ok__law_pick (T : Txt K mg) (c__law_draw : Cd P w K mg base TT 2 "_law_draw" dDraw) (F : Fn K "_law_pick" s__law_pick f fd) : FnOk P w K mg base (L2.CX P w) 3 f fd ["state", "some"] (spM K TT (d__law_pick K)) :=
  fn_m F sc__law_pick fun cdv A outer s H E hr => ⟨_, (b_one (s_ret (e_ix (e_v 1) (e_call0 c__law_draw hr (by decide) rfl (a_cons (e_v 0) (a_cons (e_cb (callOr cl_len call_len_str) ps_len (by rfl) T.n_len (by decide +kernel) (a_cons (e_v 1) a_nil)) a_nil))) (fun _ _ => rfl))))⟩
theorem ok__law_letters (T : Txt K mg) (c__law_pick : Cd P w K mg base TT 3 "_law_pick" (d__law_pick K)) (F : Fn K "_law_letters" s__law_letters f fd) : FnOk P w K mg base (L2.CX P w) 4 f fd ["state", "many"] (spM K TT (d__law_letters K)) :=
  fn_m F sc__law_letters fun cdv A outer s H E hr => ⟨_, (b_one (s_ret (e_join (by exact (e_lc (own := [("lap", 2)]) (by rfl) sc__law_letters.nd (i_rng1 (by rfl) T.n_range (f_cons (e_v 1) a_nil)) (blkOk_by (own := [("lap", 2)]) (N := N__law_letters) (sc := defScope s__law_letters) (by decide +kernel)) (fun _ _ _ _ _ => by exact (g_n (i := 2) sc__law_letters.nd rfl (Or.inl rfl))) (gonly_n (by decide)) (fun _ _ _ _ _ => by exact ts_nil) (fun _ _ _ _ _ => by exact (e_call0 c__law_pick hr (by decide) rfl (a_cons (e_v 0) (a_cons e_str a_nil)))))))))⟩
theorem ok__law_new (T : Txt K mg) (c__law_letters : Cd P w K mg base TT 4 "_law_letters" (d__law_letters K)) (c__law_pick : Cd P w K mg base TT 3 "_law_pick" (d__law_pick K)) (F : Fn K "_law_new" s__law_new f fd) : FnOk P w K mg base (L2.CX P w) 5 f fd ["state", "used"] (spM K TT (d__law_new K)) :=
  fn_m F sc__law_new fun cdv A outer s H E hr => ⟨_, (b_cons (s_set (i := 2) sc__law_new.nd rfl (Or.inr rfl) (e_call0 c__law_letters hr (by decide) rfl (a_cons (e_v 0) (a_cons (e_call0 c__law_pick hr (by decide) rfl (a_cons (e_v 0) (a_cons (e_lst (f_cons e_int (f_cons e_int (f_cons e_int (f_cons e_int (f_cons e_int a_nil)))))) a_nil))) a_nil))))
  (b_cons (s_set (i := 3) sc__law_new.nd rfl (Or.inl rfl) (e_add (e_lst (f_cons (e_v 2) a_nil)) (by exact (e_lc (own := [("letter", 4)]) (by rfl) sc__law_new.nd (i_any e_str) (blkOk_by (own := [("letter", 4)]) (N := N__law_new) (sc := defScope s__law_new) (by decide +kernel)) (fun _ _ _ _ _ => by exact (g_n (i := 4) sc__law_new.nd rfl (Or.inl rfl))) (gonly_n (by decide)) (fun _ _ _ _ _ => by exact ts_nil) (fun _ _ _ _ _ => by exact (e_add (e_sl (e_v 2) o_none (o_some e_int)) (e_v 4)))))))
  (b_one (s_ret (e_ix (by exact (e_lc (own := [("one", 5)]) (by rfl) sc__law_new.nd (i_any (e_v 3)) (blkOk_by (own := [("one", 5)]) (N := N__law_new) (sc := defScope s__law_new) (by decide +kernel)) (fun _ _ _ _ _ => by exact (g_n (i := 5) sc__law_new.nd rfl (Or.inl rfl))) (gonly_n (by decide)) (fun _ _ _ _ _ => by exact (ts_one (t_w (w_and (t_cmp (c_notIn (units1 hr)) (e_v 5) (e_v 1) (by rfl)) (w_and1 (t_cmp (c_ne hr.units) (e_v 5) e_str (nomark _))))))) (fun _ _ _ _ _ => by exact (e_v 5)))) e_int (fun _ _ => rfl))))))⟩
theorem ok__law_names (T : Txt K mg) (c__law_new : Cd P w K mg base TT 5 "_law_new" (d__law_new K)) (F : Fn K "_law_names" s__law_names f fd) : FnOk P w K mg base (L2.CX P w) 6 f fd ["state", "many"] (spM K TT (d__law_names K)) :=
  fn_m F sc__law_names fun cdv A outer s H E hr => ⟨_, (b_cons (s_set (i := 2) sc__law_names.nd rfl (Or.inl rfl) (e_lst a_nil))
  (b_cons (s_for (passes_of rfl) rfl (i_rng1 (by rfl) T.n_range (f_cons (e_v 1) a_nil)) (g_n (i := 3) sc__law_names.nd rfl (Or.inl rfl)) (b_one (s_expr (e_lm PySem.F.plainAttrs_list PySem.F.slot_list_append PySem.F.type_list_append mt_append ls_append (i := 2) (by rfl) (Or.inl rfl) (by decide) (by decide) (f_cons (e_call0 c__law_new hr (by decide) rfl (a_cons (e_v 0) (a_cons (e_v 2) a_nil))) a_nil)))))
  (b_one (s_ret (e_v 2)))))⟩
theorem ok__law_house (T : Txt K mg) (c__law_names : Cd P w K mg base TT 6 "_law_names" (d__law_names K)) (c__law_draw : Cd P w K mg base TT 2 "_law_draw" dDraw) (c__law_pick : Cd P w K mg base TT 3 "_law_pick" (d__law_pick K)) (F : Fn K "_law_house" s__law_house f fd) : FnOk P w K mg base (L2.CX P w) 7 f fd ["state"] (spM K TT (d__law_house K)) :=
  fn_m F sc__law_house fun cdv A outer s H E hr => ⟨_, (b_cons (s_par (i := 1) (j := 2) (by rfl) sc__law_house.nd rfl rfl (by decide) rfl rfl (m_cons (e_call0 c__law_names hr (by decide) rfl (a_cons (e_v 0) (a_cons (e_add e_int (e_call0 c__law_draw hr (by decide) rfl (a_cons (e_v 0) (a_cons e_int a_nil)))) a_nil))) (m_cons (e_call0 c__law_names hr (by decide) rfl (a_cons (e_v 0) (a_cons (e_add e_int (e_call0 c__law_draw hr (by decide) rfl (a_cons (e_v 0) (a_cons e_int a_nil)))) a_nil))) a_nil)) (by rfl))
  (b_cons (s_par (i := 3) (j := 4) (by rfl) sc__law_house.nd rfl rfl (by decide) rfl rfl (m_cons (e_lst a_nil) (m_cons (e_lst a_nil) a_nil)) (by rfl))
  (b_cons (s_for (passes_of rfl) rfl (i_any (e_call0 c__law_names hr (by decide) rfl (a_cons (e_v 0) (a_cons (e_add e_int (e_call0 c__law_draw hr (by decide) rfl (a_cons (e_v 0) (a_cons e_int a_nil)))) a_nil)))) (g_n (i := 5) sc__law_house.nd rfl (Or.inl rfl)) (b_cons (s_set (i := 6) sc__law_house.nd rfl (Or.inl rfl) (e_call0 c__law_draw hr (by decide) rfl (a_cons (e_v 0) (a_cons (e_cb (callOr cl_len call_len_str) ps_len (by rfl) T.n_len (by decide +kernel) (a_cons (e_v 1) a_nil)) a_nil))))
  (b_cons (s_set (i := 7) sc__law_house.nd rfl (Or.inl rfl) (e_mod (e_cty cl_int ps_int (by rfl) T.n_int (by decide +kernel) (a_cons (e_add (e_add (e_v 6) e_int) (e_call0 c__law_draw hr (by decide) rfl (a_cons (e_v 0) (a_cons (e_sub (e_cb (callOr cl_len call_len_str) ps_len (by rfl) T.n_len (by decide +kernel) (a_cons (e_v 1) a_nil)) e_int) a_nil)))) a_nil)) (e_cb (callOr cl_len call_len_str) ps_len (by rfl) T.n_len (by decide +kernel) (a_cons (e_v 1) a_nil))))
  (b_one (s_expr (e_lm PySem.F.plainAttrs_list PySem.F.slot_list_append PySem.F.type_list_append mt_append ls_append (i := 3) (by rfl) (Or.inl rfl) (by decide) (by decide) (f_cons (e_tup (f_cons (e_v 5) (f_cons (e_ix (e_v 1) (e_v 6) (fun _ _ => rfl)) (f_cons (e_ix (e_v 1) (e_v 7) (fun _ _ => rfl)) (f_cons (e_call0 c__law_pick hr (by decide) rfl (a_cons (e_v 0) (a_cons (e_lst (f_cons e_str (f_cons e_str a_nil))) a_nil))) a_nil))))) a_nil)))))))
  (b_cons (s_set (i := 8) sc__law_house.nd rfl (Or.inr rfl) (e_call0 c__law_pick hr (by decide) rfl (a_cons (e_v 0) (a_cons (e_lst (f_cons e_int (f_cons e_int (f_cons e_int (f_cons e_int a_nil))))) a_nil))))
  (b_cons (s_for (passes_of rfl) rfl (i_any (e_v 2)) (g_n (i := 9) sc__law_house.nd rfl (Or.inr rfl)) (b_one (s_for (passes_of rfl) rfl (i_any (e_v 3)) (g_n (i := 10) sc__law_house.nd rfl (Or.inr rfl)) (b_one (s_set (i := 4) sc__law_house.nd rfl (Or.inl rfl) (e_add (e_v 4) (by exact (e_lc (own := [("side", 11)]) (by rfl) sc__law_house.nd (i_any (e_lst (f_cons e_int (f_cons e_int a_nil)))) (blkOk_by (own := [("side", 11)]) (N := N__law_house) (sc := defScope s__law_house) (by decide +kernel)) (fun _ _ _ _ _ => by exact (g_n (i := 11) sc__law_house.nd rfl (Or.inl rfl))) (gonly_n (by decide)) (fun _ _ _ _ _ => by exact (ts_one (t_cmp c_gt (e_call0 c__law_draw hr (by decide) rfl (a_cons (e_v 0) (a_cons (e_v 8) a_nil))) e_int (nomark _)))) (fun _ _ _ _ _ => by exact (e_tup (f_cons (e_v 9) (f_cons (e_ix (e_v 10) e_int (fun _ _ => rfl)) (f_cons (e_v 11) a_nil)))))))))))))
  (b_one (s_ret (e_tup (f_cons e_str (f_cons (e_tuple (by rfl) T.n_tuple (e_v 1)) (f_cons (e_tuple (by rfl) T.n_tuple (e_v 3)) (f_cons (e_tuple (by rfl) T.n_tuple (e_v 2)) (f_cons (e_tuple (by rfl) T.n_tuple (e_v 4)) a_nil)))))))))))))⟩
theorem ok__law_bent (n : Nat) (T : Txt K mg) (c__law_draw : Cd P w K mg base TT 2 "_law_draw" dDraw) (c__law_pick : Cd P w K mg base TT 3 "_law_pick" (d__law_pick K)) (c__law_bent : Cd P w K mg base TT (3 + n) "_law_bent" (d__law_bent K n)) (F : Fn K "_law_bent" s__law_bent f fd) : FnOk P w K mg base (L2.CX P w) (3 + n + 1) f fd ["state", "value"] (spM K TT (d__law_bent K (n + 1))) :=
  fn_m F sc__law_bent fun cdv A outer s H E hr => ⟨_, (b_cons (s_set (i := 2) sc__law_bent.nd rfl (Or.inl rfl) (e_call0 c__law_draw hr (by omega) rfl (a_cons (e_v 0) (a_cons e_int a_nil))))
  (b_cons (s_if (t_w (w_or (t_not (t_val (e_isi Lk.kit_tup (by rfl) T.n_isinstance (by rfl) T.n_tuple (by decide +kernel) (e_v 1)))) (w_or (t_cmp (c_eq hr.units) (e_v 2) e_int (nomark _)) (w_or1 (t_cmp (c_eq hr.units) (e_cb (callOr cl_len call_len_str) ps_len (by rfl) T.n_len (by decide +kernel) (a_cons (e_v 1) a_nil)) e_int (nomark _)))))) (b_cons (s_set (i := 3) sc__law_bent.nd rfl (Or.inl rfl) (e_lst (f_cons e_non (f_cons e_str (f_cons e_str (f_cons e_int (f_cons e_bl (f_cons e_int (f_cons e_int (f_cons (e_neg e_int) (f_cons e_int (f_cons e_str (f_cons e_str (f_cons e_str (f_cons e_str (f_cons e_str (f_cons (e_tup a_nil) (f_cons (e_lst (f_cons (e_v 1) a_nil)) (f_cons e_dnew a_nil)))))))))))))))))))
  (b_cons (s_set (i := 3) sc__law_bent.nd rfl (Or.inl rfl) (e_add (e_v 3) (e_if (t_val (e_isi Lk.kit_str (by rfl) T.n_isinstance (by rfl) T.n_str (by decide +kernel) (e_v 1))) (e_lst (f_cons (e_add (e_v 1) e_str) (f_cons (e_sl (e_v 1) (o_some e_int) o_none) (f_cons (e_upper (e_v 1)) (f_cons (e_add (e_v 1) e_str) a_nil))))) (e_lst (f_cons (e_v 1) a_nil)))))
  (b_one (s_ret (e_call0 c__law_pick hr (by omega) rfl (a_cons (e_v 0) (a_cons (e_v 3) a_nil))))))) b_nil)
  (b_cons (s_set (i := 4) sc__law_bent.nd rfl (Or.inl rfl) (e_call0 c__law_draw hr (by omega) rfl (a_cons (e_v 0) (a_cons (e_cb (callOr cl_len call_len_str) ps_len (by rfl) T.n_len (by decide +kernel) (a_cons (e_v 1) a_nil)) a_nil))))
  (b_cons (s_if (t_cmp (c_eq hr.units) (e_v 2) e_int (nomark _)) (b_one (s_ret (e_add (e_sl (e_v 1) o_none (o_some (e_v 4))) (e_sl (e_v 1) (o_some (e_add (e_v 4) e_int)) o_none)))) b_nil)
  (b_cons (s_if (t_cmp (c_eq hr.units) (e_v 2) e_int (nomark _)) (b_one (s_ret (e_add (e_add (e_sl (e_v 1) o_none (o_some (e_v 4))) (e_tup (f_cons (e_ix (e_v 1) (e_v 4) (fun _ _ => rfl)) a_nil))) (e_sl (e_v 1) (o_some (e_v 4)) o_none)))) b_nil)
  (b_cons (s_if (t_w (w_and (t_cmp (c_eq hr.units) (e_v 2) e_int (nomark _)) (w_and1 (t_cmp c_gt (e_v 4) e_int (nomark _))))) (b_one (s_ret (e_add (e_add (e_sl (e_v 1) o_none (o_some (e_sub (e_v 4) e_int))) (e_tup (f_cons (e_ix (e_v 1) (e_v 4) (fun _ _ => rfl)) (f_cons (e_ix (e_v 1) (e_sub (e_v 4) e_int) (fun _ _ => rfl)) a_nil)))) (e_sl (e_v 1) (o_some (e_add (e_v 4) e_int)) o_none)))) b_nil)
  (b_cons (s_if (t_cmp (c_eq hr.units) (e_v 2) e_int (nomark _)) (b_one (s_ret (e_add (e_add (e_sl (e_v 1) o_none (o_some (e_v 4))) (e_tup (f_cons (e_ix (e_v 1) (e_call0 c__law_draw hr (by omega) rfl (a_cons (e_v 0) (a_cons (e_cb (callOr cl_len call_len_str) ps_len (by rfl) T.n_len (by decide +kernel) (a_cons (e_v 1) a_nil)) a_nil))) (fun _ _ => rfl)) a_nil))) (e_sl (e_v 1) (o_some (e_add (e_v 4) e_int)) o_none)))) b_nil)
  (b_one (s_ret (e_add (e_add (e_sl (e_v 1) o_none (o_some (e_v 4))) (e_tup (f_cons (e_call0 c__law_bent hr (by omega) rfl (a_cons (e_v 0) (a_cons (e_ix (e_v 1) (e_v 4) (fun _ _ => rfl)) a_nil))) a_nil))) (e_sl (e_v 1) (o_some (e_add (e_v 4) e_int)) o_none)))))))))))⟩
theorem ok_is_name (T : Txt K mg) (F : Fn K "is_name" s_is_name f fd) : FnOk P w K mg base (L2.CX P w) 1 f fd ["value"] (spM K TT (d_is_name K)) :=
  fn_m F sc_is_name fun cdv A outer s H E hr => ⟨_, (b_cons (s_if (t_w (w_or (t_not (t_val (e_isi Lk.kit_str (by rfl) T.n_isinstance (by rfl) T.n_str (by decide +kernel) (e_v 0)))) (w_or (t_not (t_chain (c_le hr.units0) (c_le hr.units0) e_int (e_cb (callOr cl_len call_len_str) ps_len (by rfl) T.n_len (by decide +kernel) (a_cons (e_v 0) a_nil)) e_int)) (w_or1 (t_cmp (c_eq hr.units) (e_v 0) e_str (nomark _)))))) (b_one (s_ret e_bl)) b_nil)
  (b_one (s_ret (e_cb (cr_all rfl) ps_all (by rfl) T.n_all (by decide +kernel) (a_cons (by exact (e_lc (own := [("letter", 1)]) (by rfl) sc_is_name.nd (i_any (e_v 0)) (blkOk_by (own := [("letter", 1)]) (N := N_is_name) (sc := defScope s_is_name) (by decide +kernel)) (fun _ _ _ _ _ => by exact (g_n (i := 1) sc_is_name.nd rfl (Or.inl rfl))) (gonly_n (by decide)) (fun _ _ _ _ _ => by exact ts_nil) (fun _ _ _ _ _ => by exact (e_cmp (c_in (units1 hr)) (e_v 1) (e_gl rfl T.v_LETTERS) (by rfl))))) a_nil)))))⟩
theorem ok_names_fault (T : Txt K mg) (c_is_name : Cd P w K mg base TT 1 "is_name" (d_is_name K)) (F : Fn K "names_fault" s_names_fault f fd) : FnOk P w K mg base (L2.CX P w) 2 f fd ["names", "place", "least", "most"] (spM K TT (d_names_fault K)) :=
  fn_m F sc_names_fault fun cdv A outer s H E hr => ⟨_, (b_cons (s_if (t_w (w_or (t_not (t_val (e_isi Lk.kit_tup (by rfl) T.n_isinstance (by rfl) T.n_tuple (by decide +kernel) (e_v 0)))) (w_or1 (t_not (t_chain (c_le hr.units0) (c_le hr.units0) (e_v 2) (e_cb (callOr cl_len call_len_str) ps_len (by rfl) T.n_len (by decide +kernel) (a_cons (e_v 0) a_nil)) (e_v 3)))))) (b_one (s_ret (e_tup (f_cons (e_v 1) a_nil)))) b_nil)
  (b_cons (s_for (passes_of rfl) rfl (i_enum (by rfl) T.n_enumerate (e_v 0)) (g_tup rfl (gs_cons (g_n (i := 4) sc_names_fault.nd rfl (Or.inl rfl)) (gs_cons (g_n (i := 5) sc_names_fault.nd rfl (Or.inl rfl)) gs_nil))) (b_one (s_if (t_w (w_or (t_not (t_val (e_call0 c_is_name hr (by decide) rfl (a_cons (e_v 5) a_nil)))) (w_or1 (t_cmp (c_in (units1 hr)) (e_v 5) (e_sl (e_v 0) o_none (o_some (e_v 4))) (by rfl))))) (b_one (s_ret (e_tup (f_cons (e_v 1) (f_cons (e_v 4) a_nil))))) b_nil)))
  (b_one (s_ret e_non))))⟩
theorem ok_door_fault (T : Txt K mg) (c_is_name : Cd P w K mg base TT 1 "is_name" (d_is_name K)) (F : Fn K "door_fault" s_door_fault f fd) : FnOk P w K mg base (L2.CX P w) 2 f fd ["areas", "ahead", "door"] (spM K TT (d_door_fault K)) :=
  fn_m F sc_door_fault fun cdv A outer s H E hr => ⟨_, (b_cons (s_if (t_w (w_or (t_not (t_val (e_isi Lk.kit_tup (by rfl) T.n_isinstance (by rfl) T.n_tuple (by decide +kernel) (e_v 2)))) (w_or1 (t_cmp (c_ne hr.units) (e_cb (callOr cl_len call_len_str) ps_len (by rfl) T.n_len (by decide +kernel) (a_cons (e_v 2) a_nil)) e_int (nomark _))))) (b_one (s_ret (e_tup a_nil))) b_nil)
  (b_cons (s_if (t_w (w_or (t_not (t_val (e_call0 c_is_name hr (by decide) rfl (a_cons (e_ix (e_v 2) e_int (fun _ _ => rfl)) a_nil)))) (w_or1 (t_cmp (c_in (units1 hr)) (e_ix (e_v 2) e_int (fun _ _ => rfl)) (e_v 1) (by rfl))))) (b_one (s_ret (e_tup (f_cons e_int a_nil)))) b_nil)
  (b_cons (s_if (t_w (w_or (t_not (t_val (e_call0 c_is_name hr (by decide) rfl (a_cons (e_ix (e_v 2) e_int (fun _ _ => rfl)) a_nil)))) (w_or1 (t_cmp (c_notIn (units1 hr)) (e_ix (e_v 2) e_int (fun _ _ => rfl)) (e_v 0) (by rfl))))) (b_one (s_ret (e_tup (f_cons e_int a_nil)))) b_nil)
  (b_cons (s_if (t_w (w_or (t_not (t_val (e_call0 c_is_name hr (by decide) rfl (a_cons (e_ix (e_v 2) e_int (fun _ _ => rfl)) a_nil)))) (w_or (t_cmp (c_notIn (units1 hr)) (e_ix (e_v 2) e_int (fun _ _ => rfl)) (e_v 0) (by rfl)) (w_or1 (t_cmp (c_eq hr.units) (e_ix (e_v 2) e_int (fun _ _ => rfl)) (e_ix (e_v 2) e_int (fun _ _ => rfl)) (nomark _)))))) (b_one (s_ret (e_tup (f_cons e_int a_nil)))) b_nil)
  (b_one (s_ret (e_if (t_w (w_or (t_not (t_val (e_isi Lk.kit_str (by rfl) T.n_isinstance (by rfl) T.n_str (by decide +kernel) (e_ix (e_v 2) e_int (fun _ _ => rfl))))) (w_or1 (t_cmp (c_notIn (units1 hr)) (e_ix (e_v 2) e_int (fun _ _ => rfl)) (e_tup (f_cons e_str (f_cons e_str a_nil))) (by rfl))))) (e_tup (f_cons e_int a_nil)) e_non)))))))⟩
theorem ok_doors_fault (T : Txt K mg) (c_door_fault : Cd P w K mg base TT 2 "door_fault" (d_door_fault K)) (F : Fn K "doors_fault" s_doors_fault f fd) : FnOk P w K mg base (L2.CX P w) 3 f fd ["areas", "doors"] (spM K TT (d_doors_fault K)) :=
  fn_m F sc_doors_fault fun cdv A outer s H E hr => ⟨_, (b_cons (s_if (t_w (w_or (t_not (t_val (e_isi Lk.kit_tup (by rfl) T.n_isinstance (by rfl) T.n_tuple (by decide +kernel) (e_v 1)))) (w_or1 (t_not (t_chain (c_le hr.units0) (c_le hr.units0) e_int (e_cb (callOr cl_len call_len_str) ps_len (by rfl) T.n_len (by decide +kernel) (a_cons (e_v 1) a_nil)) e_int))))) (b_one (s_ret (e_tup (f_cons e_int a_nil)))) b_nil)
  (b_cons (s_for (passes_of rfl) rfl (i_enum (by rfl) T.n_enumerate (e_v 1)) (g_tup rfl (gs_cons (g_n (i := 2) sc_doors_fault.nd rfl (Or.inl rfl)) (gs_cons (g_n (i := 3) sc_doors_fault.nd rfl (Or.inl rfl)) gs_nil))) (b_cons (s_set (i := 4) sc_doors_fault.nd rfl (Or.inl rfl) (e_call0 c_door_fault hr (by decide) rfl (a_cons (e_v 0) (a_cons (by exact (e_lc (own := [("one", 5)]) (by rfl) sc_doors_fault.nd (i_any (e_sl (e_v 1) o_none (o_some (e_v 2)))) (blkOk_by (own := [("one", 5)]) (N := N_doors_fault) (sc := defScope s_doors_fault) (by decide +kernel)) (fun _ _ _ _ _ => by exact (g_n (i := 5) sc_doors_fault.nd rfl (Or.inl rfl))) (gonly_n (by decide)) (fun _ _ _ _ _ => by exact ts_nil) (fun _ _ _ _ _ => by exact (e_ix (e_v 5) e_int (fun _ _ => rfl))))) (a_cons (e_v 3) a_nil)))))
  (b_one (s_if (t_cmp c_notN (e_v 4) e_non (nomark _)) (b_one (s_ret (e_tup (f_cons e_int (f_cons (e_v 2) (f_star (e_v 4) a_nil)))))) b_nil))))
  (b_one (s_ret e_non))))⟩
theorem ok_is_whole (T : Txt K mg) (F : Fn K "is_whole" s_is_whole f fd) : FnOk P w K mg base (L2.CX P w) 1 f fd ["value", "low", "high"] (spM K TT (d_is_whole K)) :=
  fn_m F sc_is_whole fun cdv A outer s H E hr => ⟨_, (b_one (s_ret (e_and (e_isi Lk.kit_int (by rfl) T.n_isinstance (by rfl) T.n_int (by decide +kernel) (e_v 0)) (e_and (e_not (e_isi Lk.kit_bool (by rfl) T.n_isinstance (by rfl) T.n_bool (by decide +kernel) (e_v 0))) (e_one (e_chain (c_le hr.units0) (c_le hr.units0) (e_v 1) (e_v 0) (e_v 2)))))))⟩
theorem ok_right_fault (T : Txt K mg) (c_is_name : Cd P w K mg base TT 1 "is_name" (d_is_name K)) (c_is_whole : Cd P w K mg base TT 1 "is_whole" (d_is_whole K)) (F : Fn K "right_fault" s_right_fault f fd) : FnOk P w K mg base (L2.CX P w) 2 f fd ["names", "kinds", "right"] (spM K TT (d_right_fault K)) :=
  fn_m F sc_right_fault fun cdv A outer s H E hr => ⟨_, (b_cons (s_if (t_w (w_or (t_not (t_val (e_isi Lk.kit_tup (by rfl) T.n_isinstance (by rfl) T.n_tuple (by decide +kernel) (e_v 2)))) (w_or1 (t_cmp (c_ne hr.units) (e_cb (callOr cl_len call_len_str) ps_len (by rfl) T.n_len (by decide +kernel) (a_cons (e_v 2) a_nil)) e_int (nomark _))))) (b_one (s_ret (e_tup a_nil))) b_nil)
  (b_cons (s_if (t_w (w_or (t_not (t_val (e_call0 c_is_name hr (by decide) rfl (a_cons (e_ix (e_v 2) e_int (fun _ _ => rfl)) a_nil)))) (w_or1 (t_cmp (c_notIn (units1 hr)) (e_ix (e_v 2) e_int (fun _ _ => rfl)) (e_v 1) (by rfl))))) (b_one (s_ret (e_tup (f_cons e_int a_nil)))) b_nil)
  (b_cons (s_if (t_w (w_or (t_not (t_val (e_call0 c_is_name hr (by decide) rfl (a_cons (e_ix (e_v 2) e_int (fun _ _ => rfl)) a_nil)))) (w_or1 (t_cmp (c_notIn (units1 hr)) (e_ix (e_v 2) e_int (fun _ _ => rfl)) (e_v 0) (by rfl))))) (b_one (s_ret (e_tup (f_cons e_int a_nil)))) b_nil)
  (b_one (s_ret (e_if (t_not (t_val (e_call0 c_is_whole hr (by decide) rfl (a_cons (e_ix (e_v 2) e_int (fun _ _ => rfl)) (a_cons e_int (a_cons e_int a_nil)))))) (e_tup (f_cons e_int a_nil)) e_non))))))⟩
theorem ok_rights_fault (T : Txt K mg) (c_right_fault : Cd P w K mg base TT 2 "right_fault" (d_right_fault K)) (F : Fn K "rights_fault" s_rights_fault f fd) : FnOk P w K mg base (L2.CX P w) 3 f fd ["names", "kinds", "rights"] (spM K TT (d_rights_fault K)) :=
  fn_m F sc_rights_fault fun cdv A outer s H E hr => ⟨_, (b_cons (s_if (t_not (t_val (e_isi Lk.kit_tup (by rfl) T.n_isinstance (by rfl) T.n_tuple (by decide +kernel) (e_v 2)))) (b_one (s_ret (e_tup (f_cons e_int a_nil)))) b_nil)
  (b_cons (s_set (i := 3) sc_rights_fault.nd rfl (Or.inl rfl) (e_tup (f_cons (e_neg e_int) (f_cons (e_neg e_int) (f_cons (e_neg e_int) a_nil)))))
  (b_cons (s_for (passes_of rfl) rfl (i_enum (by rfl) T.n_enumerate (e_v 2)) (g_tup rfl (gs_cons (g_n (i := 4) sc_rights_fault.nd rfl (Or.inl rfl)) (gs_cons (g_n (i := 5) sc_rights_fault.nd rfl (Or.inl rfl)) gs_nil))) (b_cons (s_set (i := 6) sc_rights_fault.nd rfl (Or.inl rfl) (e_call0 c_right_fault hr (by decide) rfl (a_cons (e_v 0) (a_cons (e_v 1) (a_cons (e_v 5) a_nil)))))
  (b_cons (s_if (t_cmp c_notN (e_v 6) e_non (nomark _)) (b_one (s_ret (e_tup (f_cons e_int (f_cons (e_v 4) (f_star (e_v 6) a_nil)))))) b_nil)
  (b_cons (s_set (i := 7) sc_rights_fault.nd rfl (Or.inl rfl) (e_tup (f_cons (e_index (units1 hr) (e_v 1) (e_ix (e_v 5) e_int (fun _ _ => rfl))) (f_cons (e_index (units1 hr) (e_v 0) (e_ix (e_v 5) e_int (fun _ _ => rfl))) (f_cons (e_ix (e_v 5) e_int (fun _ _ => rfl)) a_nil)))))
  (b_cons (s_if (t_cmp (c_le hr.units0) (e_v 7) (e_v 3) (nomark _)) (b_one (s_ret (e_tup (f_cons e_int (f_cons (e_v 4) a_nil))))) b_nil)
  (b_one (s_set (i := 3) sc_rights_fault.nd rfl (Or.inl rfl) (e_v 7))))))))
  (b_one (s_ret e_non)))))⟩
theorem ok_fault_of (T : Txt K mg) (c_names_fault : Cd P w K mg base TT 2 "names_fault" (d_names_fault K)) (c_doors_fault : Cd P w K mg base TT 3 "doors_fault" (d_doors_fault K)) (c_rights_fault : Cd P w K mg base TT 3 "rights_fault" (d_rights_fault K)) (F : Fn K "fault_of" s_fault_of f fd) : FnOk P w K mg base (L2.CX P w) 4 f fd ["value"] (spM K TT (d_fault_of K)) :=
  fn_m F sc_fault_of fun cdv A outer s H E hr => ⟨_, (b_cons (s_if (t_w (w_or (t_not (t_val (e_isi Lk.kit_tup (by rfl) T.n_isinstance (by rfl) T.n_tuple (by decide +kernel) (e_v 0)))) (w_or (t_cmp (c_ne hr.units) (e_cb (callOr cl_len call_len_str) ps_len (by rfl) T.n_len (by decide +kernel) (a_cons (e_v 0) a_nil)) e_int (nomark _)) (w_or (t_not (t_val (e_isi Lk.kit_str (by rfl) T.n_isinstance (by rfl) T.n_str (by decide +kernel) (e_ix (e_v 0) e_int (fun _ _ => rfl))))) (w_or1 (t_cmp (c_ne hr.units) (e_ix (e_v 0) e_int (fun _ _ => rfl)) e_str (nomark _))))))) (b_one (s_ret (e_tup a_nil))) b_nil)
  (b_cons (s_asgG (e_v 0) (g_tup rfl (gs_cons (g_n (i := 1) sc_fault_of.nd rfl (Or.inl rfl)) (gs_cons (g_n (i := 2) sc_fault_of.nd rfl (Or.inl rfl)) (gs_cons (g_n (i := 3) sc_fault_of.nd rfl (Or.inl rfl)) (gs_cons (g_n (i := 4) sc_fault_of.nd rfl (Or.inl rfl)) (gs_cons (g_n (i := 5) sc_fault_of.nd rfl (Or.inl rfl)) gs_nil)))))))
  (b_cons (s_set (i := 6) sc_fault_of.nd rfl (Or.inl rfl) (e_call0 c_names_fault hr (by decide) rfl (a_cons (e_v 2) (a_cons e_int (a_cons e_int (a_cons e_int a_nil))))))
  (b_cons (s_if (t_cmp c_isN (e_v 6) e_non (nomark _)) (b_one (s_set (i := 6) sc_fault_of.nd rfl (Or.inl rfl) (e_call0 c_doors_fault hr (by decide) rfl (a_cons (e_v 2) (a_cons (e_v 3) a_nil))))) b_nil)
  (b_cons (s_if (t_cmp c_isN (e_v 6) e_non (nomark _)) (b_one (s_set (i := 6) sc_fault_of.nd rfl (Or.inl rfl) (e_call0 c_names_fault hr (by decide) rfl (a_cons (e_v 4) (a_cons e_int (a_cons e_int (a_cons e_int a_nil))))))) b_nil)
  (b_cons (s_if (t_cmp c_isN (e_v 6) e_non (nomark _)) (b_one (s_set (i := 6) sc_fault_of.nd rfl (Or.inl rfl) (e_call0 c_rights_fault hr (by decide) rfl (a_cons (by exact (e_lc (own := [("door", 7)]) (by rfl) sc_fault_of.nd (i_any (e_v 3)) (blkOk_by (own := [("door", 7)]) (N := N_fault_of) (sc := defScope s_fault_of) (by decide +kernel)) (fun _ _ _ _ _ => by exact (g_n (i := 7) sc_fault_of.nd rfl (Or.inl rfl))) (gonly_n (by decide)) (fun _ _ _ _ _ => by exact ts_nil) (fun _ _ _ _ _ => by exact (e_ix (e_v 7) e_int (fun _ _ => rfl))))) (a_cons (e_cty call_list_of ps_list (by rfl) T.n_list (by decide +kernel) (a_cons (e_v 4) a_nil)) (a_cons (e_v 5) a_nil)))))) b_nil)
  (b_one (s_ret (e_v 6)))))))))⟩
theorem ok_is_building (T : Txt K mg) (c_fault_of : Cd P w K mg base TT 4 "fault_of" (d_fault_of K)) (F : Fn K "is_building" s_is_building f fd) : FnOk P w K mg base (L2.CX P w) 5 f fd ["value"] (spM K TT (d_is_building K)) :=
  fn_m F sc_is_building fun cdv A outer s H E hr => ⟨_, (b_one (s_ret (e_cmp c_isN (e_call0 c_fault_of hr (by decide) rfl (a_cons (e_v 0) a_nil)) e_non (nomark _))))⟩
theorem ok_need_building (T : Txt K mg) (c_is_building : Cd P w K mg base TT 5 "is_building" (d_is_building K)) (F : Fn K "need_building" s_need_building f fd) : FnOk P w K mg base (L2.CX P w) 6 f fd ["building"] (spM K TT (d_need_building K)) :=
  fn_m F sc_need_building fun cdv A outer s H E hr => ⟨_, (b_one (s_if (t_not (t_val (e_call0 c_is_building hr (by decide) rfl (a_cons (e_v 0) a_nil)))) (b_one (s_raise rfl (takes_of rfl rfl rfl rfl) T.x_BadBuilding rfl (raises_own T.x_BadBuilding.sb T.x_BadBuilding.ty))) b_nil))⟩
theorem ok_need_door (T : Txt K mg) (c_is_name : Cd P w K mg base TT 1 "is_name" (d_is_name K)) (F : Fn K "need_door" s_need_door f fd) : FnOk P w K mg base (L2.CX P w) 2 f fd ["building", "door"] (spM K TT (d_need_door K)) :=
  fn_m F sc_need_door fun cdv A outer s H E hr => ⟨_, (b_one (s_if (t_w (w_or (t_not (t_val (e_call0 c_is_name hr (by decide) rfl (a_cons (e_v 1) a_nil)))) (w_or1 (t_cmp (c_notIn (units1 hr)) (e_v 1) (by exact (e_lc (own := [("one", 2)]) (by rfl) sc_need_door.nd (i_any (e_ix (e_v 0) e_int (fun _ _ => rfl))) (blkOk_by (own := [("one", 2)]) (N := N_need_door) (sc := defScope s_need_door) (by decide +kernel)) (fun _ _ _ _ _ => by exact (g_n (i := 2) sc_need_door.nd rfl (Or.inl rfl))) (gonly_n (by decide)) (fun _ _ _ _ _ => by exact ts_nil) (fun _ _ _ _ _ => by exact (e_ix (e_v 2) e_int (fun _ _ => rfl))))) (by rfl))))) (b_one (s_raise rfl (takes_of rfl rfl rfl rfl) T.x_BadDoor rfl (raises_own T.x_BadDoor.sb T.x_BadDoor.ty))) b_nil))⟩
theorem ok_need_side (T : Txt K mg) (c_is_whole : Cd P w K mg base TT 1 "is_whole" (d_is_whole K)) (F : Fn K "need_side" s_need_side f fd) : FnOk P w K mg base (L2.CX P w) 2 f fd ["side"] (spM K TT (d_need_side K)) :=
  fn_m F sc_need_side fun cdv A outer s H E hr => ⟨_, (b_one (s_if (t_not (t_val (e_call0 c_is_whole hr (by decide) rfl (a_cons (e_v 0) (a_cons e_int (a_cons e_int a_nil)))))) (b_one (s_raise rfl (takes_of rfl rfl rfl rfl) T.x_BadSide rfl (raises_own T.x_BadSide.sb T.x_BadSide.ty))) b_nil))⟩
theorem ok_door_named (T : Txt K mg) (F : Fn K "door_named" s_door_named f fd) : FnOk P w K mg base (L2.CX P w) 1 f fd ["building", "door"] (spM K TT (d_door_named K)) :=
  fn_m F sc_door_named fun cdv A outer s H E hr => ⟨_, (b_one (s_ret (e_ix (by exact (e_lc (own := [("one", 2)]) (by rfl) sc_door_named.nd (i_any (e_ix (e_v 0) e_int (fun _ _ => rfl))) (blkOk_by (own := [("one", 2)]) (N := N_door_named) (sc := defScope s_door_named) (by decide +kernel)) (fun _ _ _ _ _ => by exact (g_n (i := 2) sc_door_named.nd rfl (Or.inl rfl))) (gonly_n (by decide)) (fun _ _ _ _ _ => by exact (ts_one (t_cmp (c_eq hr.units) (e_ix (e_v 2) e_int (fun _ _ => rfl)) (e_v 1) (nomark _)))) (fun _ _ _ _ _ => by exact (e_v 2)))) e_int (fun _ _ => rfl))))⟩
theorem ok_area_at (T : Txt K mg) (c_need_building : Cd P w K mg base TT 6 "need_building" (d_need_building K)) (c_need_door : Cd P w K mg base TT 2 "need_door" (d_need_door K)) (c_need_side : Cd P w K mg base TT 2 "need_side" (d_need_side K)) (c_door_named : Cd P w K mg base TT 1 "door_named" (d_door_named K)) (F : Fn K "area_at" s_area_at f fd) : FnOk P w K mg base (L2.CX P w) 7 f fd ["building", "door", "side"] (spM K TT (d_area_at K)) :=
  fn_m F sc_area_at fun cdv A outer s H E hr => ⟨_, (b_cons (s_expr (e_call (takes_of rfl rfl rfl rfl) c_need_building hr (by decide) rfl (a_cons (e_v 0) a_nil)))
  (b_cons (s_expr (e_call (takes_of rfl rfl rfl rfl) c_need_door hr (by decide) rfl (a_cons (e_v 0) (a_cons (e_v 1) a_nil))))
  (b_cons (s_expr (e_call (takes_of rfl rfl rfl rfl) c_need_side hr (by decide) rfl (a_cons (e_v 2) a_nil)))
  (b_one (s_ret (e_ix (e_call0 c_door_named hr (by decide) rfl (a_cons (e_v 0) (a_cons (e_v 1) a_nil))) (e_add e_int (e_v 2)) (fun _ _ => rfl)))))))⟩
theorem ok__law_sides_right (T : Txt K mg) (Gc : Cg K mg) (LD : LamD K mg base TT "_law_sides_right" "_law_sides_right.<locals>.<lambda>") (c_area_at : Cd P w K mg base TT 7 "area_at" (d_area_at K)) (u_area_at_021 : Cdp P w K mg base TT 7 "area_at" ["building", "side", "door"] [0, 2, 1] (d_area_at K)) (c__law_pick : Cd P w K mg base TT 3 "_law_pick" (d__law_pick K)) (F : Fn K "_law_sides_right" s__law_sides_right f fd) (hf : f = He.fAd K ("_law_sides_right", none)) : FnOk P w K mg base (L2.CX P w) 10 f fd ["state", "house"] (spM K TT (d__law_sides_right K)) :=
  fn_ml F hf sc__law_sides_right fun A outer s H E hr => ⟨_, (b_cons (s_for (passes_of rfl) rfl (i_any (e_ix (e_v 1) e_int (fun _ _ => rfl))) (g_tup rfl (gs_cons (g_n (i := 2) sc__law_sides_right.nd rfl (Or.inr rfl)) (gs_cons (g_n (i := 3) sc__law_sides_right.nd rfl (Or.inl rfl)) (gs_cons (g_n (i := 4) sc__law_sides_right.nd rfl (Or.inl rfl)) (gs_cons (g_n (i := 5) sc__law_sides_right.nd rfl (Or.inl rfl)) gs_nil))))) (b_one (s_if (t_w (w_or (t_cmp (c_ne hr.units) (e_call (takes_of rfl rfl rfl rfl) c_area_at hr (by decide) rfl (a_cons (e_v 1) (a_cons (e_v 2) (a_cons e_int a_nil)))) (e_v 3) (nomark _)) (w_or1 (t_cmp (c_ne hr.units) (e_kwP u_area_at_021 hr (by decide) rfl (k_cons (e_v 1) (k_cons e_int (k_cons (e_v 2) k_nil)))) (e_v 4) (nomark _))))) (b_one (s_ret e_bl)) b_nil)))
  (b_cons (s_set (i := 2) sc__law_sides_right.nd rfl (Or.inr rfl) (e_ix (e_ix (e_ix (e_v 1) e_int (fun _ _ => rfl)) e_int (fun _ _ => rfl)) e_int (fun _ _ => rfl)))
  (b_cons (s_set (i := 6) sc__law_sides_right.nd rfl (Or.inr rfl) (e_call0 c__law_pick hr (by decide) rfl (a_cons (e_v 0) (a_cons (e_lst (f_cons e_non (f_cons e_str (f_cons (e_add (e_v 2) (e_mul e_str e_int)) (f_cons e_int (f_cons (e_lst (f_cons (e_v 2) a_nil)) (f_cons (e_ix (e_ix (e_v 1) e_int (fun _ _ => rfl)) e_int (fun _ _ => rfl)) (f_cons e_str a_nil)))))))) a_nil))))
  (b_cons (s_set (i := 7) sc__law_sides_right.nd rfl (Or.inr rfl) (e_call0 c__law_pick hr (by decide) rfl (a_cons (e_v 0) (a_cons (e_lst (f_cons e_int (f_cons (e_neg e_int) (f_cons e_non (f_cons e_bl (f_cons e_bl (f_cons e_str (f_cons (e_pow e_int e_int) (f_cons (e_tup (f_cons e_int a_nil)) a_nil))))))))) a_nil))))
  (b_cons (s_set (i := 8) sc__law_sides_right.nd rfl (Or.inl rfl) (e_xs1 (e_caught (k := 7) hr Gc LD rfl rfl rfl (by decide) (lamS_by (by rfl)) rfl (fun _ _ _ _ _ => rfl) c_area_at (by decide) (fun _ _ _ _ _ _ _ => rfl) (fun _ _ _ _ _ _ _ _ => by exact (a_cons (e_v 1) (a_cons (e_v 6) (a_cons (e_v 7) a_nil)))))))
  (b_cons (s_expr (e_xapp (i := 8) (by rfl) (Or.inl rfl) (by decide) (by decide) (e_caught (k := 7) hr Gc LD rfl rfl rfl (by decide) (lamS_by (by rfl)) rfl (fun _ _ _ _ _ => rfl) c_area_at (by decide) (fun _ _ _ _ _ _ _ => rfl) (fun _ _ _ _ _ _ _ _ => by exact (a_cons (e_v 1) (a_cons (e_v 2) (a_cons (e_v 7) a_nil)))))))
  (b_one (s_ret (e_and (e_isE (by rfl) T.n_isinstance (by rfl) T.x_BadDoor.gl (e_xix (i := 8) (j := 0) (by rfl) (Or.inl rfl) (by decide) (by decide) (fun _ _ => rfl)) (.own _)) (e_one (e_isE (by rfl) T.n_isinstance (by rfl) T.x_BadSide.gl (e_xix (i := 8) (j := 1) (by rfl) (Or.inl rfl) (by decide) (by decide) (fun _ _ => rfl)) (.own _))))))))))))⟩
theorem ok__law_tells (T : Txt K mg) (F : Fn K "_law_tells" s__law_tells f fd) : FnOk P w K mg base (L2.CX P w) 1 f fd ["value", "due"] (spM K TT (d__law_tells K)) :=
  fn_m F sc__law_tells fun cdv A outer s H E hr => ⟨_, (b_one (s_ret (e_if (t_val (e_v 1)) (e_cmp c_isB (e_v 0) e_bl (nomark _)) (e_cmp c_isB (e_v 0) e_bl (nomark _)))))⟩
theorem ok__law_is_named (T : Txt K mg) (F : Fn K "_law_is_named" s__law_is_named f fd) : FnOk P w K mg base (L2.CX P w) 1 f fd ["value"] (spM K TT (d__law_is_named K)) :=
  fn_m F sc__law_is_named fun cdv A outer s H E hr => ⟨_, (b_cons (s_if (t_w (w_or (t_not (t_val (e_isi Lk.kit_str (by rfl) T.n_isinstance (by rfl) T.n_str (by decide +kernel) (e_v 0)))) (w_or (t_cmp c_lt (e_cb (callOr cl_len call_len_str) ps_len (by rfl) T.n_len (by decide +kernel) (a_cons (e_v 0) a_nil)) e_int (nomark _)) (w_or (t_cmp c_gt (e_cb (callOr cl_len call_len_str) ps_len (by rfl) T.n_len (by decide +kernel) (a_cons (e_v 0) a_nil)) e_int (nomark _)) (w_or1 (t_cmp (c_eq hr.units) (e_v 0) e_str (nomark _))))))) (b_one (s_ret e_bl)) b_nil)
  (b_one (s_ret (e_cmp (c_eq hr.units) (by exact (e_lc (own := [("letter", 1)]) (by rfl) sc__law_is_named.nd (i_any (e_v 0)) (blkOk_by (own := [("letter", 1)]) (N := N__law_is_named) (sc := defScope s__law_is_named) (by decide +kernel)) (fun _ _ _ _ _ => by exact (g_n (i := 1) sc__law_is_named.nd rfl (Or.inl rfl))) (gonly_n (by decide)) (fun _ _ _ _ _ => by exact (ts_one (t_cmp (c_notIn (units1 hr)) (e_v 1) e_str (by rfl)))) (fun _ _ _ _ _ => by exact e_int))) (e_lst a_nil) (nomark _)))))⟩
theorem ok__law_are_named (T : Txt K mg) (c__law_is_named : Cd P w K mg base TT 1 "_law_is_named" (d__law_is_named K)) (F : Fn K "_law_are_named" s__law_are_named f fd) : FnOk P w K mg base (L2.CX P w) 2 f fd ["value", "low", "high"] (spM K TT (d__law_are_named K)) :=
  fn_m F sc__law_are_named fun cdv A outer s H E hr => ⟨_, (b_cons (s_if (t_w (w_or (t_not (t_val (e_isi Lk.kit_tup (by rfl) T.n_isinstance (by rfl) T.n_tuple (by decide +kernel) (e_v 0)))) (w_or (t_cmp c_lt (e_cb (callOr cl_len call_len_str) ps_len (by rfl) T.n_len (by decide +kernel) (a_cons (e_v 0) a_nil)) (e_v 1) (nomark _)) (w_or1 (t_cmp c_gt (e_cb (callOr cl_len call_len_str) ps_len (by rfl) T.n_len (by decide +kernel) (a_cons (e_v 0) a_nil)) (e_v 2) (nomark _)))))) (b_one (s_ret e_bl)) b_nil)
  (b_cons (s_if (t_cmp (c_ne hr.units) (by exact (e_lc (own := [("one", 3)]) (by rfl) sc__law_are_named.nd (i_any (e_v 0)) (blkOk_by (own := [("one", 3)]) (N := N__law_are_named) (sc := defScope s__law_are_named) (by decide +kernel)) (fun _ _ _ _ _ => by exact (g_n (i := 3) sc__law_are_named.nd rfl (Or.inl rfl))) (gonly_n (by decide)) (fun _ _ _ _ _ => by exact (ts_one (t_not (t_val (e_call0 c__law_is_named hr (by decide) rfl (a_cons (e_v 3) a_nil)))))) (fun _ _ _ _ _ => by exact e_int))) (e_lst a_nil) (nomark _)) (b_one (s_ret e_bl)) b_nil)
  (b_one (s_ret (e_cmp (c_eq hr.units) (by exact (e_lc (own := [("at", 4)]) (by rfl) sc__law_are_named.nd (i_rng1 (by rfl) T.n_range (f_cons (e_cb (callOr cl_len call_len_str) ps_len (by rfl) T.n_len (by decide +kernel) (a_cons (e_v 0) a_nil)) a_nil)) (blkOk_by (own := [("at", 4)]) (N := N__law_are_named) (sc := defScope s__law_are_named) (by decide +kernel)) (fun _ _ _ _ _ => by exact (g_n (i := 4) sc__law_are_named.nd rfl (Or.inl rfl))) (gonly_n (by decide)) (fun _ _ _ _ _ => by exact (ts_one (t_cmp (c_in (units1 hr)) (e_ix (e_v 0) (e_v 4) (fun _ _ => rfl)) (e_sl (e_v 0) o_none (o_some (e_v 4))) (by rfl)))) (fun _ _ _ _ _ => by exact (e_v 4)))) (e_lst a_nil) (nomark _))))))⟩
theorem ok__law_is_doored (T : Txt K mg) (c__law_are_named : Cd P w K mg base TT 2 "_law_are_named" (d__law_are_named K)) (c__law_is_named : Cd P w K mg base TT 1 "_law_is_named" (d__law_is_named K)) (F : Fn K "_law_is_doored" s__law_is_doored f fd) : FnOk P w K mg base (L2.CX P w) 3 f fd ["areas", "value"] (spM K TT (d__law_is_doored K)) :=
  fn_m F sc__law_is_doored fun cdv A outer s H E hr => ⟨_, (b_cons (s_if (t_w (w_or (t_not (t_val (e_isi Lk.kit_tup (by rfl) T.n_isinstance (by rfl) T.n_tuple (by decide +kernel) (e_v 1)))) (w_or (t_cmp c_lt (e_cb (callOr cl_len call_len_str) ps_len (by rfl) T.n_len (by decide +kernel) (a_cons (e_v 1) a_nil)) e_int (nomark _)) (w_or1 (t_cmp c_gt (e_cb (callOr cl_len call_len_str) ps_len (by rfl) T.n_len (by decide +kernel) (a_cons (e_v 1) a_nil)) e_int (nomark _)))))) (b_one (s_ret e_bl)) b_nil)
  (b_cons (s_if (t_cmp (c_ne hr.units) (by exact (e_lc (own := [("one", 2)]) (by rfl) sc__law_is_doored.nd (i_any (e_v 1)) (blkOk_by (own := [("one", 2)]) (N := N__law_is_doored) (sc := defScope s__law_is_doored) (by decide +kernel)) (fun _ _ _ _ _ => by exact (g_n (i := 2) sc__law_is_doored.nd rfl (Or.inl rfl))) (gonly_n (by decide)) (fun _ _ _ _ _ => by exact (ts_one (t_w (w_or (t_not (t_val (e_isi Lk.kit_tup (by rfl) T.n_isinstance (by rfl) T.n_tuple (by decide +kernel) (e_v 2)))) (w_or1 (t_cmp (c_ne hr.units) (e_cb (callOr cl_len call_len_str) ps_len (by rfl) T.n_len (by decide +kernel) (a_cons (e_v 2) a_nil)) e_int (nomark _))))))) (fun _ _ _ _ _ => by exact e_int))) (e_lst a_nil) (nomark _)) (b_one (s_ret e_bl)) b_nil)
  (b_cons (s_if (t_not (t_val (e_call0 c__law_are_named hr (by decide) rfl (a_cons (e_tuple (by rfl) T.n_tuple (by exact (e_lc (own := [("one", 2)]) (by rfl) sc__law_is_doored.nd (i_any (e_v 1)) (blkOk_by (own := [("one", 2)]) (N := N__law_is_doored) (sc := defScope s__law_is_doored) (by decide +kernel)) (fun _ _ _ _ _ => by exact (g_n (i := 2) sc__law_is_doored.nd rfl (Or.inl rfl))) (gonly_n (by decide)) (fun _ _ _ _ _ => by exact ts_nil) (fun _ _ _ _ _ => by exact (e_ix (e_v 2) e_int (fun _ _ => rfl)))))) (a_cons e_int (a_cons e_int a_nil)))))) (b_one (s_ret e_bl)) b_nil)
  (b_cons (s_for (passes_of rfl) rfl (i_any (e_v 1)) (g_tup rfl (gs_cons (g_n (i := 3) sc__law_is_doored.nd rfl (Or.inl rfl)) (gs_cons (g_n (i := 2) sc__law_is_doored.nd rfl (Or.inl rfl)) (gs_cons (g_n (i := 4) sc__law_is_doored.nd rfl (Or.inl rfl)) (gs_cons (g_n (i := 5) sc__law_is_doored.nd rfl (Or.inl rfl)) gs_nil))))) (b_cons (s_if (t_w (w_or (t_not (t_val (e_call0 c__law_is_named hr (by decide) rfl (a_cons (e_v 2) a_nil)))) (w_or (t_not (t_val (e_call0 c__law_is_named hr (by decide) rfl (a_cons (e_v 4) a_nil)))) (w_or (t_cmp (c_notIn (units1 hr)) (e_v 2) (e_v 0) (by rfl)) (w_or1 (t_cmp (c_notIn (units1 hr)) (e_v 4) (e_v 0) (by rfl))))))) (b_one (s_ret e_bl)) b_nil)
  (b_one (s_if (t_w (w_or (t_cmp (c_eq hr.units) (e_v 2) (e_v 4) (nomark _)) (w_or (t_not (t_val (e_isi Lk.kit_str (by rfl) T.n_isinstance (by rfl) T.n_str (by decide +kernel) (e_v 5)))) (w_or1 (t_cmp (c_notIn (units1 hr)) (e_v 5) (e_lst (f_cons e_str (f_cons e_str a_nil))) (by rfl)))))) (b_one (s_ret e_bl)) b_nil))))
  (b_one (s_ret e_bl))))))⟩
theorem ok__law_is_housed (T : Txt K mg) (c__law_are_named : Cd P w K mg base TT 2 "_law_are_named" (d__law_are_named K)) (c__law_is_doored : Cd P w K mg base TT 3 "_law_is_doored" (d__law_is_doored K)) (F : Fn K "_law_is_housed" s__law_is_housed f fd) : FnOk P w K mg base (L2.CX P w) 4 f fd ["value"] (spM K TT (d__law_is_housed K)) :=
  fn_m F sc__law_is_housed fun cdv A outer s H E hr => ⟨_, (b_cons (s_if (t_w (w_or (t_not (t_val (e_isi Lk.kit_tup (by rfl) T.n_isinstance (by rfl) T.n_tuple (by decide +kernel) (e_v 0)))) (w_or (t_cmp (c_ne hr.units) (e_cb (callOr cl_len call_len_str) ps_len (by rfl) T.n_len (by decide +kernel) (a_cons (e_v 0) a_nil)) e_int (nomark _)) (w_or (t_not (t_val (e_isi Lk.kit_str (by rfl) T.n_isinstance (by rfl) T.n_str (by decide +kernel) (e_ix (e_v 0) e_int (fun _ _ => rfl))))) (w_or1 (t_cmp (c_ne hr.units) (e_ix (e_v 0) e_int (fun _ _ => rfl)) e_str (nomark _))))))) (b_one (s_ret e_bl)) b_nil)
  (b_cons (s_parN (is := [1, 2, 3, 4]) rfl (m_cons (e_ix (e_v 0) e_int (fun _ _ => rfl)) (m_cons (e_ix (e_v 0) e_int (fun _ _ => rfl)) (m_cons (e_ix (e_v 0) e_int (fun _ _ => rfl)) (m_cons (e_ix (e_v 0) e_int (fun _ _ => rfl)) a_nil)))) (gs_cons (g_n (i := 1) sc__law_is_housed.nd rfl (Or.inl rfl)) (gs_cons (g_n (i := 2) sc__law_is_housed.nd rfl (Or.inl rfl)) (gs_cons (g_n (i := 3) sc__law_is_housed.nd rfl (Or.inl rfl)) (gs_cons (g_n (i := 4) sc__law_is_housed.nd rfl (Or.inl rfl)) gs_nil)))) rfl rfl (by decide))
  (b_cons (s_if (t_w (w_or (t_not (t_val (e_call0 c__law_are_named hr (by decide) rfl (a_cons (e_v 1) (a_cons e_int (a_cons e_int a_nil)))))) (w_or (t_not (t_val (e_call0 c__law_is_doored hr (by decide) rfl (a_cons (e_v 1) (a_cons (e_v 2) a_nil))))) (w_or1 (t_not (t_val (e_call0 c__law_are_named hr (by decide) rfl (a_cons (e_v 3) (a_cons e_int (a_cons e_int a_nil)))))))))) (b_one (s_ret e_bl)) b_nil)
  (b_cons (s_par (i := 5) (j := 6) (by rfl) sc__law_is_housed.nd rfl rfl (by decide) rfl rfl (m_cons (e_lst a_nil) (m_cons (e_lst a_nil) a_nil)) (by rfl))
  (b_cons (s_for (passes_of rfl) rfl (i_any (e_v 3)) (g_n (i := 7) sc__law_is_housed.nd rfl (Or.inl rfl)) (b_one (s_for (passes_of rfl) rfl (i_any (e_v 2)) (g_n (i := 8) sc__law_is_housed.nd rfl (Or.inl rfl)) (b_one (s_set (i := 5) sc__law_is_housed.nd rfl (Or.inl rfl) (e_add (e_v 5) (e_lst (f_cons (e_tup (f_cons (e_v 7) (f_cons (e_ix (e_v 8) e_int (fun _ _ => rfl)) (f_cons e_int a_nil)))) (f_cons (e_tup (f_cons (e_v 7) (f_cons (e_ix (e_v 8) e_int (fun _ _ => rfl)) (f_cons e_int a_nil)))) a_nil)))))))))
  (b_cons (s_if (t_not (t_val (e_isi Lk.kit_tup (by rfl) T.n_isinstance (by rfl) T.n_tuple (by decide +kernel) (e_v 4)))) (b_one (s_ret e_bl)) b_nil)
  (b_cons (s_for (passes_of rfl) rfl (i_any (e_v 4)) (g_n (i := 9) sc__law_is_housed.nd rfl (Or.inl rfl)) (b_cons (s_if (t_w (w_or (t_not (t_val (e_isi Lk.kit_tup (by rfl) T.n_isinstance (by rfl) T.n_tuple (by decide +kernel) (e_v 9)))) (w_or (t_cmp (c_ne hr.units) (e_cb (callOr cl_len call_len_str) ps_len (by rfl) T.n_len (by decide +kernel) (a_cons (e_v 9) a_nil)) e_int (nomark _)) (w_or (t_val (e_isi Lk.kit_bool (by rfl) T.n_isinstance (by rfl) T.n_bool (by decide +kernel) (e_ix (e_v 9) e_int (fun _ _ => rfl)))) (w_or1 (t_cmp (c_notIn (units1 hr)) (e_v 9) (e_v 5) (by rfl))))))) (b_one (s_ret e_bl)) b_nil)
  (b_cons (s_if (t_not (t_val (e_isi Lk.kit_int (by rfl) T.n_isinstance (by rfl) T.n_int (by decide +kernel) (e_ix (e_v 9) e_int (fun _ _ => rfl))))) (b_one (s_ret e_bl)) b_nil)
  (b_one (s_expr (e_lm PySem.F.plainAttrs_list PySem.F.slot_list_append PySem.F.type_list_append mt_append ls_append (i := 6) (by rfl) (Or.inl rfl) (by decide) (by decide) (f_cons (e_index (units1 hr) (e_v 5) (e_v 9)) a_nil)))))))
  (b_one (s_ret (e_cmp (c_eq hr.units) (e_v 6) (e_sortSetI rfl hr.units (by rfl) T.n_sorted (by rfl) T.n_set (e_v 6)) (nomark _)))))))))))⟩
theorem ok_need_free (T : Txt K mg) (c_is_name : Cd P w K mg base TT 1 "is_name" (d_is_name K)) (F : Fn K "need_free" s_need_free f fd) : FnOk P w K mg base (L2.CX P w) 2 f fd ["building", "free"] (spM K TT (d_need_free K)) :=
  fn_m F sc_need_free fun cdv A outer s H E hr => ⟨_, (b_cons (s_setLc (i := 2) (own := [("door", 3)]) (by rfl) sc_need_free.nd rfl rfl (sw_true rfl rfl rfl (by decide +kernel)) (i_any (e_ix (e_v 0) e_int (fun _ _ => rfl))) (blkOk_by (own := [("door", 3)]) (N := N_need_free) (sc := defScope s_need_free) (by decide +kernel)) (fun _ _ _ _ _ => by exact (g_n (i := 3) sc_need_free.nd rfl (Or.inl rfl))) (gonly_n (by decide)) (fun _ _ _ _ _ => by exact ts_nil) (fun _ _ _ _ _ => by exact (e_ix (e_v 3) e_int (fun _ _ => rfl))))
  (b_cons (s_if (t_not (t_val (e_isi2 Lk.kit_lst Lk.kit_tup (by rfl) T.n_isinstance (by rfl) T.n_list (by decide +kernel) (by rfl) T.n_tuple (by decide +kernel) (e_v 1)))) (b_one (s_raise rfl (takes_of rfl rfl rfl rfl) T.x_BadDoors rfl (raises_own T.x_BadDoors.sb T.x_BadDoors.ty))) b_nil)
  (b_one (s_for (passes_of rfl) rfl (i_enum (by rfl) T.n_enumerate (e_v 1)) (g_tup rfl (gs_cons (g_n (i := 4) sc_need_free.nd rfl (Or.inl rfl)) (gs_cons (g_n (i := 5) sc_need_free.nd rfl (Or.inl rfl)) gs_nil))) (b_one (s_if (t_w (w_or (t_not (t_val (e_call0 c_is_name hr (by decide) rfl (a_cons (e_v 5) a_nil)))) (w_or (t_cmp (c_notIn (units1 hr)) (e_v 5) (e_v 2) (by rfl)) (w_or1 (t_cmp (c_in (units1 hr)) (e_v 5) (e_sl (e_v 1) o_none (o_some (e_v 4))) (by rfl)))))) (b_one (s_raise rfl (takes_of rfl rfl rfl rfl) T.x_BadDoors rfl (raises_own T.x_BadDoors.sb T.x_BadDoors.ty))) b_nil))))))⟩
theorem ok_steps (T : Txt K mg) (F : Fn K "steps" s_steps f fd) : FnOk P w K mg base (L2.CX P w) 1 f fd ["building", "free"] (spM K TT (d_steps K)) :=
  fn_m F sc_steps fun cdv A outer s H E hr => ⟨_, (b_cons (s_set (i := 2) sc_steps.nd rfl (Or.inl rfl) (e_lst a_nil))
  (b_cons (s_for (passes_of rfl) rfl (i_any (e_ix (e_v 0) e_int (fun _ _ => rfl))) (g_tup rfl (gs_cons (g_n (i := 3) sc_steps.nd rfl (Or.inl rfl)) (gs_cons (g_n (i := 4) sc_steps.nd rfl (Or.inl rfl)) (gs_cons (g_n (i := 5) sc_steps.nd rfl (Or.inl rfl)) (gs_cons (g_n (i := 6) sc_steps.nd rfl (Or.inl rfl)) gs_nil))))) (b_one (s_if (t_cmp (c_in (units1 hr)) (e_v 3) (e_v 1) (by rfl)) (b_cons (s_expr (e_lm PySem.F.plainAttrs_list PySem.F.slot_list_append PySem.F.type_list_append mt_append ls_append (i := 2) (by rfl) (Or.inl rfl) (by decide) (by decide) (f_cons (e_tup (f_cons (e_v 4) (f_cons (e_v 3) (f_cons (e_v 5) a_nil)))) a_nil)))
  (b_one (s_expr (e_lm PySem.F.plainAttrs_list PySem.F.slot_list_append PySem.F.type_list_append mt_append ls_append (i := 2) (by rfl) (Or.inl rfl) (by decide) (by decide) (f_cons (e_tup (f_cons (e_v 5) (f_cons (e_v 3) (f_cons (e_v 4) a_nil)))) a_nil))))) b_nil)))
  (b_one (s_ret (e_v 2)))))⟩
theorem ok_come_to (T : Txt K mg) (c_steps : Cd P w K mg base TT 1 "steps" (d_steps K)) (F : Fn K "come_to" s_come_to f fd) : FnOk P w K mg base (L2.CX P w) 2 f fd ["building", "free", "area", "closed"] (spM K TT (d_come_to K)) :=
  fn_m F sc_come_to fun cdv A outer s H E hr => ⟨_, (b_cons (s_parN (is := [4, 5]) rfl (m_cons (e_lst (f_cons (e_v 2) a_nil)) (m_cons e_int a_nil)) (gs_cons (g_n (i := 4) sc_come_to.nd rfl (Or.inr rfl)) (gs_cons (g_n (i := 5) sc_come_to.nd rfl (Or.inl rfl)) gs_nil)) rfl rfl (by decide))
  (b_cons (s_while (passes_of rfl) (t_cmp c_lt (e_v 5) (e_cb (callOr cl_len call_len_str) ps_len (by rfl) T.n_len (by decide +kernel) (a_cons (e_v 4) a_nil)) (nomark _)) (b_cons (s_for (passes_of rfl) rfl (i_any (e_call0 c_steps hr (by decide) rfl (a_cons (e_v 0) (a_cons (e_v 1) a_nil)))) (g_tup rfl (gs_cons (g_n (i := 6) sc_come_to.nd rfl (Or.inl rfl)) (gs_cons (g_n (i := 7) sc_come_to.nd rfl (Or.inl rfl)) (gs_cons (g_n (i := 8) sc_come_to.nd rfl (Or.inl rfl)) gs_nil)))) (b_one (s_if (t_w (w_and (t_cmp (c_eq hr.units) (e_v 6) (e_ix (e_v 4) (e_v 5) (fun _ _ => rfl)) (nomark _)) (w_and (t_cmp (c_notIn (units1 hr)) (e_v 8) (e_v 4) (by rfl)) (w_and1 (t_cmp (c_notIn (units1 hr)) (e_v 8) (e_v 3) (by rfl)))))) (b_one (s_expr (e_lm PySem.F.plainAttrs_list PySem.F.slot_list_append PySem.F.type_list_append mt_append ls_append (i := 4) (by rfl) (Or.inr (Or.inl rfl)) (by decide) (by decide) (f_cons (e_v 8) a_nil)))) b_nil)))
  (b_one (s_aug (i := 5) sc_come_to.nd rfl (Or.inl rfl) e_int ip_add))))
  (b_one (s_ret (by exact (e_lc (own := [("one", 9)]) (by rfl) sc_come_to.nd (i_any (e_ix (e_v 0) e_int (fun _ _ => rfl))) (blkOk_by (own := [("one", 9)]) (N := N_come_to) (sc := defScope s_come_to) (by decide +kernel)) (fun _ _ _ _ _ => by exact (g_n (i := 9) sc_come_to.nd rfl (Or.inl rfl))) (gonly_n (by decide)) (fun _ _ _ _ _ => by exact (ts_one (t_cmp (c_in (units1 hr)) (e_v 9) (e_v 4) (by rfl)))) (fun _ _ _ _ _ => by exact (e_v 9))))))))⟩
theorem ok_joined (T : Txt K mg) (c_need_building : Cd P w K mg base TT 6 "need_building" (d_need_building K)) (c_need_free : Cd P w K mg base TT 2 "need_free" (d_need_free K)) (c_come_to : Cd P w K mg base TT 2 "come_to" (d_come_to K)) (F : Fn K "joined" s_joined f fd) : FnOk P w K mg base (L2.CX P w) 7 f fd ["building", "free"] (spM K TT (d_joined K)) :=
  fn_m F sc_joined fun cdv A outer s H E hr => ⟨_, (b_cons (s_expr (e_call (takes_of rfl rfl rfl rfl) c_need_building hr (by decide) rfl (a_cons (e_v 0) a_nil)))
  (b_cons (s_expr (e_call (takes_of rfl rfl rfl rfl) c_need_free hr (by decide) rfl (a_cons (e_v 0) (a_cons (e_v 1) a_nil))))
  (b_cons (s_set (i := 2) sc_joined.nd rfl (Or.inl rfl) (e_lst a_nil))
  (b_cons (s_for (passes_of rfl) rfl (i_any (e_ix (e_v 0) e_int (fun _ _ => rfl))) (g_n (i := 3) sc_joined.nd rfl (Or.inr rfl)) (b_one (s_if (t_not (t_val (e_cb (cr_any rfl) ps_any (by rfl) T.n_any (by decide +kernel) (a_cons (by exact (e_lcO (own := [("part", 4)]) (i := 2) (by rfl) sc_joined.nd (by rfl) (Or.inl rfl) (by decide) (by decide) (blkOk_by (own := [("part", 4)]) (N := N_joined) (sc := defScope s_joined) (by decide +kernel)) (fun _ _ _ _ _ => by exact (g_n (i := 4) sc_joined.nd rfl (Or.inl rfl))) (gonly_n (by decide)) (fun _ _ _ _ _ => by exact ts_nil) (fun _ _ _ _ _ => by exact (e_cmp (c_in (units1 hr)) (e_v 3) (e_v 4) (by rfl))))) a_nil)))) (b_one (s_expr (e_lm PySem.F.plainAttrs_list PySem.F.slot_list_append PySem.F.type_list_append mt_append ls_append (i := 2) (by rfl) (Or.inl rfl) (by decide) (by decide) (f_cons (e_tuple (by rfl) T.n_tuple (e_call0 c_come_to hr (by decide) rfl (a_cons (e_v 0) (a_cons (e_v 1) (a_cons (e_v 3) (f_cons (e_lst a_nil) a_nil)))))) a_nil)))) b_nil)))
  (b_one (s_ret (e_v 2)))))))⟩
theorem ok__law_refused_right (T : Txt K mg) (Gc : Cg K mg) (LD : LamD K mg base TT "_law_refused_right" "_law_refused_right.<locals>.<lambda>") (c_area_at : Cd P w K mg base TT 7 "area_at" (d_area_at K)) (c_joined : Cd P w K mg base TT 7 "joined" (d_joined K)) (c__law_is_housed : Cd P w K mg base TT 4 "_law_is_housed" (d__law_is_housed K)) (F : Fn K "_law_refused_right" s__law_refused_right f fd) (hf : f = He.fAd K ("_law_refused_right", none)) : FnOk P w K mg base (L2.CX P w) 10 f fd ["house", "bad"] (spM K TT (d__law_refused_right K)) :=
  fn_ml F hf sc__law_refused_right fun A outer s H E hr => ⟨_, (b_cons (s_set (i := 2) sc__law_refused_right.nd rfl (Or.inl rfl) (e_xs1 (e_caught (k := 7) hr Gc LD rfl rfl rfl (by decide) (lamS_by (by rfl)) rfl (fun _ _ _ _ _ => rfl) c_area_at (by decide) (fun _ _ _ _ _ _ _ => rfl) (fun _ _ _ _ _ _ _ _ => by exact (a_cons (e_v 1) (a_cons e_str (a_cons e_int a_nil)))))))
  (b_cons (s_expr (e_xapp (i := 2) (by rfl) (Or.inl rfl) (by decide) (by decide) (e_caught (k := 7) hr Gc LD rfl rfl rfl (by decide) (lamS_by (by rfl)) rfl (fun _ _ _ _ _ => rfl) c_joined (by decide) (fun _ _ _ _ _ _ _ => rfl) (fun _ _ _ _ _ _ _ _ => by exact (a_cons (e_v 1) (f_cons (e_lst a_nil) a_nil))))))
  (b_cons (s_if (t_val (e_call0 c__law_is_housed hr (by decide) rfl (a_cons (e_v 1) a_nil))) (b_one (s_ret (e_and (e_not (e_isE (by rfl) T.n_isinstance (by rfl) T.x_BadBuilding.gl (e_xix (i := 2) (j := 0) (by rfl) (Or.inl rfl) (by decide) (by decide) (fun _ _ => rfl)) (.own _))) (e_one (e_isNE (e_xix (i := 2) (j := 1) (by rfl) (Or.inl rfl) (by decide) (by decide) (fun _ _ => rfl)) (nomark _)))))) b_nil)
  (b_one (s_ret (e_and (e_isE (by rfl) T.n_isinstance (by rfl) T.x_BadBuilding.gl (e_xix (i := 2) (j := 0) (by rfl) (Or.inl rfl) (by decide) (by decide) (fun _ _ => rfl)) (.own _)) (e_one (e_isE (by rfl) T.n_isinstance (by rfl) T.x_BadBuilding.gl (e_xix (i := 2) (j := 1) (by rfl) (Or.inl rfl) (by decide) (by decide) (fun _ _ => rfl)) (.own _)))))))))⟩
theorem ok_law (T : Txt K mg) (c__law_begun : Cd P w K mg base TT 1 "_law_begun" dBegun) (c__law_house : Cd P w K mg base TT 7 "_law_house" (d__law_house K)) (c__law_sides_right : Cd P w K mg base TT 10 "_law_sides_right" (d__law_sides_right K)) (c_is_building : Cd P w K mg base TT 5 "is_building" (d_is_building K)) (w_is_building : Cdk P w K mg base TT 5 "is_building" ["value"] (d_is_building K)) (c__law_bent : Cd P w K mg base TT 8 "_law_bent" (d__law_bent K 5)) (c__law_refused_right : Cd P w K mg base TT 10 "_law_refused_right" (d__law_refused_right K)) (c__law_tells : Cd P w K mg base TT 1 "_law_tells" (d__law_tells K)) (c__law_is_housed : Cd P w K mg base TT 4 "_law_is_housed" (d__law_is_housed K)) (c__law_letters : Cd P w K mg base TT 4 "_law_letters" (d__law_letters K)) (c__law_pick : Cd P w K mg base TT 3 "_law_pick" (d__law_pick K)) (c_is_name : Cd P w K mg base TT 1 "is_name" (d_is_name K)) (c__law_is_named : Cd P w K mg base TT 1 "_law_is_named" (d__law_is_named K)) (F : Fn K "law" s_law f fd) : FnOk P w K mg base (L2.CX P w) 11 f fd ["script"] (spM K TT (d_law K)) :=
  fn_m F sc_law fun cdv A outer s H E hr => ⟨_, (b_cons (s_set (i := 1) sc_law.nd rfl (Or.inl rfl) (e_call0 c__law_begun hr (by decide) rfl (a_cons (e_v 0) a_nil)))
  (b_cons (s_for (passes_of rfl) rfl (i_rng1 (by rfl) T.n_range (f_cons (e_add e_int (e_cb (cl_min rfl) ps_min2 (by rfl) T.n_min (by decide +kernel) (a_cons (e_cb (callOr cl_len call_len_str) ps_len (by rfl) T.n_len (by decide +kernel) (a_cons (e_v 0) a_nil)) (a_cons e_int a_nil)))) a_nil)) (g_n (i := 2) sc_law.nd rfl (Or.inl rfl)) (b_cons (s_set (i := 3) sc_law.nd rfl (Or.inl rfl) (e_call0 c__law_house hr (by decide) rfl (a_cons (e_v 1) a_nil)))
  (b_cons (s_if (t_w (w_or (t_cmp c_notB (e_call0 c_is_building hr (by decide) rfl (a_cons (e_v 3) a_nil)) e_bl (nomark _)) (w_or1 (t_not (t_val (e_call (takes_of rfl rfl rfl rfl) c__law_sides_right hr (by decide) rfl (a_cons (e_v 1) (a_cons (e_v 3) a_nil)))))))) (b_one (s_ret e_bl)) b_nil)
  (b_cons (s_for (passes_of rfl) rfl (i_rng1 (by rfl) T.n_range (f_cons e_int a_nil)) (g_n (i := 4) sc_law.nd rfl (Or.inl rfl)) (b_cons (s_set (i := 5) sc_law.nd rfl (Or.inl rfl) (e_call0 c__law_bent hr (by decide) rfl (a_cons (e_v 1) (a_cons (e_v 3) a_nil))))
  (b_cons (s_if (t_cmp c_gt (e_v 4) e_int (nomark _)) (b_one (s_set (i := 5) sc_law.nd rfl (Or.inl rfl) (e_call0 c__law_bent hr (by decide) rfl (a_cons (e_v 1) (a_cons (e_v 5) a_nil))))) b_nil)
  (b_one (s_if (t_w (w_or (t_not (t_val (e_call0 c__law_tells hr (by decide) rfl (a_cons (e_kw0 w_is_building hr (by decide) rfl (k_cons (e_v 5) k_nil)) (a_cons (e_call0 c__law_is_housed hr (by decide) rfl (a_cons (e_v 5) a_nil)) a_nil))))) (w_or1 (t_not (t_val (e_call0 c__law_refused_right hr (by decide) rfl (a_cons (e_v 3) (a_cons (e_v 5) a_nil)))))))) (b_one (s_ret e_bl)) b_nil)))))
  (b_cons (s_set (i := 6) sc_law.nd rfl (Or.inl rfl) (e_call0 c__law_bent hr (by decide) rfl (a_cons (e_v 1) (a_cons (e_call0 c__law_letters hr (by decide) rfl (a_cons (e_v 1) (a_cons (e_call0 c__law_pick hr (by decide) rfl (a_cons (e_v 1) (a_cons (e_lst (f_cons e_int (f_cons e_int (f_cons e_int (f_cons e_int (f_cons e_int a_nil)))))) a_nil))) a_nil))) a_nil))))
  (b_one (s_if (t_w (w_or (t_not (t_val (e_call0 c__law_tells hr (by decide) rfl (a_cons (e_call0 c_is_name hr (by decide) rfl (a_cons (e_v 6) a_nil)) (a_cons (e_call0 c__law_is_named hr (by decide) rfl (a_cons (e_v 6) a_nil)) a_nil))))) (w_or (t_cmp c_notB (e_call0 c_is_name hr (by decide) rfl (a_cons e_str a_nil)) e_bl (nomark _)) (w_or1 (t_cmp c_notB (e_call0 c_is_name hr (by decide) rfl (a_cons e_str a_nil)) e_bl (nomark _)))))) (b_one (s_ret e_bl)) b_nil)))))))
  (b_one (s_ret e_bl))))⟩
end
end K77

end

section
/-! the plain part's small tactics: one step of a denotation; all steps that go by themselves -/
local macro_rules | `(tactic| wtm_at "k") => `(tactic| fail "no call")
local macro_rules | `(tactic| wtm_at "set") => `(tactic| (first | (simp only [List.set_cons_zero, List.set_cons_succ, List.set_nil]; done) | (simp only [List.set_cons_zero, List.set_cons_succ, List.set_nil]; exact rfl) | exact rfl))
local macro_rules | `(tactic| wtm_at "cond") => `(tactic| first | assumption | omega | decide | rfl | (exact ⟨by omega, by decide⟩))
local macro_rules | `(tactic| wtm_at "sh") => `(tactic| first | assumption | rfl | decide +kernel)
local macro_rules | `(tactic| wtm_at "x1") => `(tactic| (with_reducible refine Mk.x_stp ?_))
local macro_rules | `(tactic| wtm_at "x2") => `(tactic| first
  | ((with_reducible refine' Mk.x_seqK ?a ?h); (case a => exact rfl))
  | ((with_reducible refine' Mk.x_callK ?a ?b ?h); (case a => exact rfl); (case b => first | exact List.nodup_nil | (simp only [Mk.u_slots_slot, Mk.u_slots_val, Mk.u_slots_nil]; decide)))
  | ((with_reducible refine' Mk.x_lm ?a ?h); (case a => exact rfl))
  | ((with_reducible refine' Mk.x_lmK ?a ?b ?h); (case a => exact rfl); (case b => exact rfl))
  | ((with_reducible refine' Mk.x_isD ?e ?h); (case e => exact rfl))
  | ((with_reducible refine' Mk.x_isDct ?e ?h); (case e => exact rfl))
  | ((with_reducible refine' Mk.x_isLs ?e ?h); (case e => exact rfl))
  | ((with_reducible refine' Mk.x_get2K ?a ?b ?h); (case a => exact rfl); (case b => exact rfl))
  | ((with_reducible refine' Mk.x_gT ?a ?h); (case a => exact rfl))
  | ((with_reducible refine' Mk.x_aug ?a ?h); (case a => exact rfl))
  | ((with_reducible refine' Mk.x_fMul ?c ?h); (case c => first | exact .inl (.inl ⟨by omega, by omega⟩) | exact .inl (.inr ⟨by omega, by omega⟩) | assumption))
  | ((with_reducible refine' Mk.x_rngK1 ?c ?h); (case c => omega))
  | ((with_reducible refine' Mk.x_rngK2 ?c ?h); (case c => omega))
  | ((with_reducible refine' Mk.x_lcS ?a ?b ?h); (case a => simp); (case b => (simp only [Mk.wipeE, List.set_cons_zero, List.set_cons_succ]; exact rfl)))
  | ((with_reducible refine' Mk.x_fSum ?a ?h); (case a => exact Mk.ints_some _ _))
  | ((with_reducible refine' Mk.x_fAll ?a ?h); (case a => exact Mk.bools_some _ _))
  | ((with_reducible refine' Mk.x_disl ?c ?h); (case c => first | decide | assumption | (simp; done) | omega))
  | ((with_reducible refine' Mk.x_fEqS ?a ?b ?h); (case a => first | assumption | decide +kernel); (case b => first | assumption | decide +kernel))
  | ((with_reducible refine' Mk.x_fNeS ?a ?b ?h); (case a => first | assumption | decide +kernel); (case b => first | assumption | decide +kernel))
  | ((with_reducible refine' Mk.x_fLenS ?a ?h); (case a => first | assumption | omega | decide))
  | ((with_reducible refine' Mk.x_fMod ?c ?h); (case c => first | omega | decide))
  | ((with_reducible refine' Mk.x_fFdiv ?c ?h); (case c => wtm_at "cond"))
  | ((with_reducible refine' Mk.x_fIxT ?c ?h); (case c => first | exact rfl | assumption | exact Mk.u_atI0))
  | ((with_reducible refine' Mk.x_fIxL ?c ?h); (case c => first | exact rfl | assumption | exact Mk.u_atI0))
  | ((with_reducible refine' Mk.x_fEq ?a ?b ?h); (case a => wtm_at "sh"); (case b => wtm_at "sh"))
  | ((with_reducible refine' Mk.x_fNe ?a ?b ?h); (case a => wtm_at "sh"); (case b => wtm_at "sh"))
  | ((with_reducible refine' Mk.x_rt ?a ?h); (case a => exact rfl))
  | ((with_reducible refine' Mk.x_nx ?a ?h); (case a => exact rfl))
  | ((with_reducible refine' Mk.x_er ?a ?h); (case a => exact rfl))
  | ((with_reducible refine' Mk.x_datsK ?a ?h); (case a => exact rfl))
  | ((with_reducible refine' Mk.x_rdsK ?a ?h); (case a => exact rfl))
  | ((with_reducible refine' Mk.x_rdK ?a ?h); (case a => exact rfl))
  | ((with_reducible refine' Mk.x_opK ?a ?b ?h); (case a => exact rfl); (case b => exact rfl))
  | ((with_reducible refine' Mk.x_itK ?a ?h); (case a => exact rfl))
  | ((with_reducible refine' Mk.x_callV ?a ?b ?h); (case a => exact rfl); (case b => exact rfl))
  | ((with_reducible refine' Mk.x_mov_slot ?a ?c ?h); (case a => exact rfl); (case c => wtm_at "set"))
  | ((with_reducible refine' Mk.x_frz_slot ?a ?c ?h); (case a => exact rfl); (case c => wtm_at "set"))
  | ((with_reducible refine' Mk.x_put ?a ?b ?c ?h); (case a => first | exact List.not_mem_nil | decide); (case b => first | decide | simp); (case c => wtm_at "set"))
  | ((with_reducible refine' Mk.x_v_dat ?e ?h); (case e => exact rfl))
  | ((with_reducible refine' Mk.x_v_lst ?e ?h); (case e => exact rfl))
  | ((with_reducible refine' Mk.x_v_st ?e ?h); (case e => exact rfl))
  | ((with_reducible refine' Mk.x_v_dct ?e ?h); (case e => exact rfl)))
local macro_rules | `(tactic| wtm_at "x") => `(tactic| first | (with_reducible refine Mk.x_stp ?_) | ((with_reducible refine' Mk.x_iteF2 ?a ?h); (case a => first | assumption | exact rfl | decide +kernel)) | ((with_reducible refine' Mk.x_iteT2 ?a ?h); (case a => first | assumption | exact rfl | decide +kernel)) | ((with_reducible refine' Mk.x_iteN ?a ?h); (case a => assumption)) | ((with_reducible refine' Mk.x_iteM ?a ?h); (case a => assumption)) | wtm_at "k" | wtm_at "x2")
local macro_rules | `(tactic| wtm_at "go") => `(tactic| repeat (wtm_at "x"))
local macro_rules | `(tactic| wtm_at "all") => `(tactic| repeat' (first | wtm_at "x" | (with_reducible refine Mk.x_ite (fun _ => ?_) (fun _ => ?_))))
local macro_rules | `(tactic| wtm_at "in") => `(tactic| ((with_reducible refine' Mk.x_run ?a ?b ?c ?h); (case a => exact rfl); (case b => (simp only [List.map_cons, List.map_nil, List.length_cons, List.length_nil, List.replicate, List.nil_append, List.cons_append, Nat.reduceAdd, Nat.reduceSub]; exact rfl)); (case c => (simp only [Mk.u_owns_nil, Mk.u_owns_dat, Mk.u_owns_exc, Mk.u_owns_st, Mk.u_owns_lst, Nat.reduceAdd]; exact rfl))))
local macro_rules | `(tactic| wtm_at "hy") => `(tactic| simp only [Bool.not_eq_true', Bool.not_eq_false', decide_eq_true_eq, decide_eq_false_iff_not, Bool.and_eq_true, Bool.or_eq_true, Bool.and_eq_false_iff, Bool.or_eq_false_iff, Mk.eqd_int, Mk.eqd_str, Mk.isNone, Lk.isInt, Lk.isBool, Lk.isTup, Lk.isStr, Lk.isLst] at *)
local macro_rules | `(tactic| wtm_at "bz") => `(tactic| ((try simp only [Bool.not_eq_true', Bool.not_eq_false'] at *); simp [*]))
local macro_rules | `(tactic| wtm_at "bk") => `(tactic| simp only [Mk.u_backs_slot, Mk.u_backs_val, Mk.u_backs_nil, Mk.u_putO, List.set_cons_zero, List.set_cons_succ])
local macro_rules | `(tactic| wtm_at "gs") => `(tactic| repeat ((fail_if_success (with_reducible refine Mk.x_seq ?_)); wtm_at "x"))

/-! part Q1 -/
namespace K77
open PySem PySem.Spec PyProof.Rows L2 Evl Lk LamX Mk
/-! ### names, whole numbers -/
def isWhole : PyData → Int → Int → Bool
  | .int i, lo, hi => decide (lo ≤ i) && decide (i ≤ hi)
  | _, _, _ => false
theorem isWhole_int {d : PyData} {lo hi : Int} (h : isWhole d lo hi = true) : ∃ i, d = .int i ∧ lo ≤ i ∧ i ≤ hi := by
  cases d with
  | int i =>
    have h' : (decide (lo ≤ i) && decide (i ≤ hi)) = true := h
    rw [Bool.and_eq_true, decide_eq_true_eq, decide_eq_true_eq] at h'
    exact ⟨i, rfl, h'.1, h'.2⟩
  | _ => cases h
def letters : Str := "abcdefghijklmnopqrstuvwxyz"
def isLet (c : Nat) : Bool := decide (c ∈ letters.cps.toList)
def isName : PyData → Bool
  | .str x => decide ((1 : Int) ≤ (x.length : Nat)) && decide (((x.length : Nat) : Int) ≤ 8) && !decide (x = "any") && x.cps.toList.all isLet
  | _ => false
theorem isName_str {d : PyData} (h : isName d = true) : ∃ x, d = .str x := by
  cases d with
  | str x => exact ⟨x, rfl⟩
  | _ => cases h
/-- a text of ASCII signs, so long at most -/
structure Tx (m : Nat) (x : Str) : Prop where
  a : ∀ c ∈ x.cps.toList, c < 128
  l : x.length ≤ m
theorem Tx.ok {m : Nat} {x : Str} (h : Tx m x) : PyData.strOk x = true := by
  unfold PyData.strOk
  rw [← Array.all_toList]
  exact List.all_eq_true.mpr fun c hc => decide_eq_true (by have := h.a c hc; omega)
theorem Tx.mono {m k : Nat} {x : Str} (h : Tx m x) (l : m ≤ k) : Tx k x := ⟨h.a, Nat.le_trans h.l l⟩
theorem let_ascii : ∀ c, isLet c = true → c < 128 := by
  have h : (letters.cps.toList.all fun c => decide (c < 128)) = true := by decide +kernel
  exact fun c hc => of_decide_eq_true (List.all_eq_true.mp h c (of_decide_eq_true hc))
theorem name_tx {x : Str} (h : isName (.str x) = true) : Tx 8 x := by
  have e : isName (.str x) = (decide ((1 : Int) ≤ (x.length : Nat)) && decide (((x.length : Nat) : Int) ≤ 8) && !decide (x = "any") && x.cps.toList.all isLet) := rfl
  rw [e] at h
  simp only [Bool.and_eq_true, decide_eq_true_eq] at h
  obtain ⟨⟨⟨_, h2⟩, _⟩, h4⟩ := h
  exact ⟨fun c hc => let_ascii c (List.all_eq_true.mp h4 c hc), by omega⟩
/-! data with texts of ASCII signs, of such a length; empty dicts may stand within -/
mutual
def txD (m : Nat) : PyData → Bool
  | .str x => x.cps.toList.all (fun c => decide (c < 128)) && decide (x.length ≤ m)
  | .list ds => txDs m ds
  | .tuple ds => txDs m ds
  | _ => true
def txDs (m : Nat) : List PyData → Bool
  | [] => true
  | d :: ds => txD m d && txDs m ds
end
structure Tame (m : Nat) (d : PyData) : Prop where
  k : txD m d = true
theorem txDs_all {m : Nat} {ds : List PyData} : txDs m ds = true ↔ ∀ d ∈ ds, txD m d = true := by
  induction ds with
  | nil => simp [txDs]
  | cons a ds ih => rw [txDs, Bool.and_eq_true, ih]; simp
theorem Tame.tup {m : Nat} {ds : List PyData} (h : ∀ d ∈ ds, Tame m d) : Tame m (.tuple ds) := ⟨by rw [txD]; exact txDs_all.mpr fun d hd => (h d hd).k⟩
theorem Tame.list {m : Nat} {ds : List PyData} (h : ∀ d ∈ ds, Tame m d) : Tame m (.list ds) := ⟨by rw [txD]; exact txDs_all.mpr fun d hd => (h d hd).k⟩
theorem Tame.item {m : Nat} {ds : List PyData} {d : PyData} (t : Tame m (.tuple ds)) (h : d ∈ ds) : Tame m d := by
  have k := t.k
  rw [txD] at k
  exact ⟨txDs_all.mp k d h⟩
theorem Tame.int {m : Nat} {i : Int} : Tame m (.int i) := ⟨by simp [txD]⟩
theorem Tame.none {m : Nat} : Tame m .none := ⟨by simp [txD]⟩
theorem Tame.bool {m : Nat} {b : Bool} : Tame m (.bool b) := ⟨by simp [txD]⟩
theorem Tame.dict {m : Nat} {kv : List (PyData × PyData)} : Tame m (.dict kv) := ⟨by simp [txD]⟩
theorem Tame.str {m : Nat} {x : Str} (h : Tx m x) : Tame m (.str x) := ⟨by
  rw [txD, decide_eq_true h.l, List.all_eq_true.mpr fun c hc => decide_eq_true (h.a c hc)]
  rfl⟩
theorem Tame.tx {m : Nat} {x : Str} (t : Tame m (.str x)) : Tx m x := by
  have k := t.k
  rw [txD, Bool.and_eq_true, decide_eq_true_eq, List.all_eq_true] at k
  exact ⟨fun c hc => of_decide_eq_true (k.1 c hc), k.2⟩
theorem txD_mono {m k : Nat} (l : m ≤ k) : ∀ d : PyData, txD m d = true → txD k d = true := by
  intro d
  refine PyData.rec (motive_1 := fun d => txD m d = true → txD k d = true) (motive_2 := fun ds => txDs m ds = true → txDs k ds = true) (motive_3 := fun _ => True) (motive_4 := fun _ => True) ?_ ?_ ?_ ?_ ?_ ?_ ?_ ?_ ?_ ?_ ?_ ?_ d
  · intro _; simp [txD]
  · intro _ _; simp [txD]
  · intro _ _; simp [txD]
  · intro x h
    exact (Tame.str ((Tame.tx ⟨h⟩).mono l)).k
  · intro ds ih h
    rw [txD] at h ⊢
    exact ih h
  · intro ds ih h
    rw [txD] at h ⊢
    exact ih h
  · intro _ _ _; simp [txD]
  · intro _; simp [txDs]
  · intro a ds ha hs h
    rw [txDs, Bool.and_eq_true] at h ⊢
    exact ⟨ha h.1, hs h.2⟩
  · trivial
  · intros; trivial
  · intros; trivial
theorem Tame.mono {m k : Nat} {d : PyData} (h : Tame m d) (l : m ≤ k) : Tame k d := ⟨txD_mono l d h.k⟩
section
variable {K : PySem.W.Frag} {n : Nat} {Q : O → List O → Nat → Prop} {X : Addr → List O → Nat → Prop}
theorem k_is_whole {d : PyData} {lo hi : Int} (h : Q (.dat (.bool (isWhole d lo hi))) [.dat d, .dat (.int lo), .dat (.int hi)] n) : d_is_whole K [.dat d, .dat (.int lo), .dat (.int hi)] n Q X := by
  unfold d_is_whole b_is_whole
  cases d <;> wtm_at "in" <;> wtm_at "all"
  all_goals (refine x_fin h ?_; simp_all [isWhole]; try omega)
theorem all_map' {α : Type} (p : α → Bool) : ∀ l : List α, (l.map p).all id = l.all p
  | [] => rfl
  | x :: l => by rw [List.map_cons, List.all_cons, List.all_cons, all_map' p l]; rfl
theorem k_is_name {d : PyData} {m : Nat} (t : Tame m d) (hm : m ≤ 1000) (h : Q (.dat (.bool (isName d))) [.dat d] n) : d_is_name K [.dat d] n Q X := by
  unfold d_is_name b_is_name
  cases d with
  | str z =>
    have hz : z.length ≤ 100000 := by have := t.tx.l; omega
    have hs := t.tx.ok
    have e : isName (.str z) = (decide ((1 : Int) ≤ (z.length : Nat)) && decide (((z.length : Nat) : Int) ≤ 8) && !decide (z = "any") && z.cps.toList.all isLet) := rfl
    rw [e] at h
    wtm_at "in"
    wtm_at "all"
    case _ =>
      refine x_fin h ?_
      generalize z.cps.toList.all isLet = L
      wtm_at "bz"
    case _ =>
      refine x_fin h ?_
      generalize z.cps.toList.all isLet = L
      wtm_at "bz"
    case _ =>
      refine x_lcA (l := z.cps.toList) (fun c : Nat => PyData.str ⟨#[c]⟩) (fun c : Nat => PyData.bool (isLet c)) (by rw [Array.length_toList]; exact hz) (fun c hc A hA => ?_) ?_
      · wtm_at "all"
        exact hA
      wtm_at "all"
      rw [all_map']
      refine x_fin h ?_
      generalize z.cps.toList.all isLet = L
      wtm_at "bz"
    case _ =>
      refine x_fin h ?_
      generalize z.cps.toList.all isLet = L
      wtm_at "bz"
  | _ =>
    wtm_at "in"
    wtm_at "all"
    exact h
theorem not_all {α : Type} (p : α → Bool) : ∀ l : List α, decide ((l.filter fun a => !p a).length = 0) = l.all p
  | [] => rfl
  | x :: l => by
    have ih := not_all p l
    rw [List.all_cons]
    cases hp : p x with
    | true => rw [List.filter_cons_of_neg (by simp [hp]), ih]; rfl
    | false => rw [List.filter_cons_of_pos (by simp [hp])]; rfl
theorem k__law_is_named {d : PyData} {m : Nat} (t : Tame m d) (hm : m ≤ 1000) (h : Q (.dat (.bool (isName d))) [.dat d] n) : d__law_is_named K [.dat d] n Q X := by
  unfold d__law_is_named b__law_is_named
  cases d with
  | str z =>
    have hz : z.length ≤ 100000 := by have := t.tx.l; omega
    have hs := t.tx.ok
    have e : isName (.str z) = (decide ((1 : Int) ≤ (z.length : Nat)) && decide (((z.length : Nat) : Int) ≤ 8) && !decide (z = "any") && z.cps.toList.all isLet) := rfl
    rw [e] at h
    wtm_at "in"
    wtm_at "all"
    case _ =>
      refine x_fin h ?_
      generalize z.cps.toList.all isLet = L
      wtm_at "hy"
      wtm_at "bz"
      omega
    case _ =>
      refine x_fin h ?_
      generalize z.cps.toList.all isLet = L
      wtm_at "hy"
      wtm_at "bz"
      omega
    case _ =>
      refine x_fin h ?_
      generalize z.cps.toList.all isLet = L
      wtm_at "hy"
      wtm_at "bz"
    case _ =>
      refine x_lcM (fun c : Nat => PyData.str ⟨#[c]⟩) (fun c => !isLet c) (fun _ => PyData.int 1) (l := z.cps.toList) (by rw [Array.length_toList]; exact hz) (fun c hc A B hA hB => ?_) ?_
      · wtm_at "all"
        · rename_i q
          exact hA q
        · rename_i q
          exact hB q
      wtm_at "all"
      rw [not_all]
      refine x_fin h ?_
      rename_i c1 c2 c3
      generalize z.cps.toList.all isLet = L
      have e1 : decide ((1 : Int) ≤ (z.length : Nat)) = true := decide_eq_true (by have := of_decide_eq_false c1; omega)
      have e2 : decide (((z.length : Nat) : Int) ≤ 8) = true := decide_eq_true (by have := of_decide_eq_false c2; omega)
      rw [e1, e2, c3]
      simp
  | _ =>
    wtm_at "in"
    wtm_at "all"
    exact h
end
end K77

/-! part Q2 -/
namespace K77
open PySem PySem.Spec PyProof.Rows L2 Evl Lk LamX Mk
/-! ### small facts of lists -/
theorem lay_all {ds : List PyData} (h : ∀ d ∈ ds, d.canLay0 = true) : PyData.canLayAll0 ds = true := by
  induction ds with
  | nil => rfl
  | cons a ds ih => rw [PyData.canLayAll0, h a List.mem_cons_self, ih fun d hd => h d (List.mem_cons_of_mem _ hd)]; rfl
theorem dep_all {ds : List PyData} {k : Nat} (h : ∀ d ∈ ds, d.depth ≤ k) : PyData.depthAll ds ≤ k := by
  induction ds with
  | nil => simp only [PyData.depthAll]; omega
  | cons a ds ih =>
    have h1 := h a List.mem_cons_self
    have h2 := ih fun d hd => h d (List.mem_cons_of_mem _ hd)
    simp only [PyData.depthAll]
    omega
/-- of the known shape, not deep -/
def Sh (d : PyData) : Prop := d.canLay0 = true ∧ d.depth ≤ 20
theorem shT {ds : List PyData} (h : ∀ d ∈ ds, Sh d) : SeqAt.shaped (.tuple ds) = true := by
  have h3 : (PyData.tuple ds).canLay0 = true := by rw [PyData.canLay0]; exact lay_all fun d hd => (h d hd).1
  have h4 := dep_all fun d hd => (h d hd).2
  unfold SeqAt.shaped
  rw [h3, decide_eq_true (by simp only [PyData.depth]; omega)]
  rfl
theorem shL {ds : List PyData} (h : ∀ d ∈ ds, Sh d) : SeqAt.shaped (.list ds) = true := by
  have h3 : (PyData.list ds).canLay0 = true := by rw [PyData.canLay0]; exact lay_all fun d hd => (h d hd).1
  have h4 := dep_all fun d hd => (h d hd).2
  unfold SeqAt.shaped
  rw [h3, decide_eq_true (by simp only [PyData.depth]; omega)]
  rfl
theorem Sh.int {i : Int} : Sh (.int i) := ⟨rfl, by simp only [PyData.depth]; omega⟩
theorem Sh.bool {b : Bool} : Sh (.bool b) := ⟨rfl, by simp only [PyData.depth]; omega⟩
theorem Sh.str {x : Str} {m : Nat} (h : Tx m x) : Sh (.str x) := ⟨by rw [PyData.canLay0]; exact h.ok, by simp only [PyData.depth]; omega⟩
theorem Sh.sh {d : PyData} (h : Sh d) : SeqAt.shaped d = true := by
  unfold SeqAt.shaped
  rw [h.1, decide_eq_true (by have := h.2; omega)]
  rfl
theorem name_sh {d : PyData} (h : isName d = true) : Sh d := by
  obtain ⟨x, rfl⟩ := isName_str h
  exact .str (name_tx h)
def hasD (ds : List PyData) (d : PyData) : Bool := ds.any fun z => PyData.eqv z d
theorem inT {ds : List PyData} {d : PyData} (h : ∀ d ∈ ds, Sh d) : inB d (.tuple ds) = some (hasD ds d) := by
  show (if SeqAt.shaped (.tuple ds) = true then some (ds.any fun z => PyData.eqv z d) else none) = _
  rw [shT h]
  rfl
theorem inL {ds : List PyData} {d : PyData} (h : ∀ d ∈ ds, Sh d) : inB d (.list ds) = some (hasD ds d) := by
  show (if SeqAt.shaped (.list ds) = true then some (ds.any fun z => PyData.eqv z d) else none) = _
  rw [shL h]
  rfl
theorem cut_take {ds : List PyData} {k : Nat} (h : k ≤ ds.length) : Mk.cutD ds none (some (k : Int)) = ds.take k := by
  unfold Mk.cutD
  have e1 : HT.sIx ds.length 0 none = 0 := rfl
  have e2 : HT.sIx ds.length ds.length (some (k : Int)) = k := by
    simp only [HT.sIx]
    split <;> omega
  rw [e1, e2, List.drop_zero, Nat.sub_zero]
theorem cut_app {ds es : List PyData} : Mk.cutD (ds ++ es) none (some (ds.length : Int)) = ds := by
  rw [cut_take (by rw [List.length_append]; omega), List.take_left']
  rfl
theorem none_of {α : Type} (p : α → Bool) : ∀ l : List α, decide ((l.filter p).length = 0) = l.all fun a => !p a
  | [] => rfl
  | x :: l => by
    have ih := none_of p l
    rw [List.all_cons]
    cases hp : p x with
    | false => rw [List.filter_cons_of_neg (by simp [hp]), ih]; rfl
    | true => rw [List.filter_cons_of_pos hp]; rfl
theorem atI_get {ds : List PyData} {i : Nat} (h : i < ds.length) : atI ds (i : Int) = some (ds.getD i .none) := by
  refine atI_nat ?_
  rw [List.getD_eq_getElem?_getD, List.getElem?_eq_getElem h]
  rfl
/-! ### lots of names -/
def namesGo (seen : List PyData) : List PyData → Bool
  | [] => true
  | d :: r => isName d && !hasD seen d && namesGo (seen ++ [d]) r
def namesOk (lo hi : Int) : PyData → Bool
  | .tuple ds => decide (lo ≤ (ds.length : Int)) && decide ((ds.length : Int) ≤ hi) && namesGo [] ds
  | _ => false
theorem namesGo_eq : ∀ (r seen : List PyData), namesGo seen r = (r.all isName && (List.range r.length).all fun i => !hasD (seen ++ r.take i) (r.getD i .none))
  | [], _ => rfl
  | d :: r, seen => by
    rw [namesGo, namesGo_eq r, List.all_cons, List.length_cons, List.range_succ_eq_map, List.all_cons, List.all_map]
    have e : ((fun i => !hasD (seen ++ (d :: r).take i) ((d :: r).getD i .none)) ∘ Nat.succ) = fun i => !hasD (seen ++ [d] ++ r.take i) (r.getD i .none) := by
      funext i
      simp [Function.comp]
    rw [e, List.take_zero, List.append_nil]
    show (isName d && !hasD seen d && (r.all isName && _)) = (isName d && r.all isName && (!hasD seen d && _))
    cases isName d <;> cases hasD seen d <;> cases r.all isName <;> rfl
theorem namesGo_all {r seen : List PyData} (h : namesGo seen r = true) : ∀ d ∈ r, isName d = true := by
  rw [namesGo_eq, Bool.and_eq_true] at h
  exact List.all_eq_true.mp h.1
theorem namesOk_is {lo hi : Int} {d : PyData} (h : namesOk lo hi d = true) : ∃ ds, d = .tuple ds ∧ lo ≤ ds.length ∧ (ds.length : Int) ≤ hi ∧ namesGo [] ds = true := by
  cases d with
  | tuple ds =>
    have h' : (decide (lo ≤ (ds.length : Int)) && decide ((ds.length : Int) ≤ hi) && namesGo [] ds) = true := h
    rw [Bool.and_eq_true, Bool.and_eq_true, decide_eq_true_eq, decide_eq_true_eq] at h'
    exact ⟨ds, rfl, h'.1.1, h'.1.2, h'.2⟩
  | _ => cases h
/-- None, or a fault: a short tuple -/
def OkR (r : PyData) (b : Bool) : Prop := (b = true ∧ r = .none) ∨ (b = false ∧ ∃ ds, r = .tuple ds ∧ ds.length ≤ 10)
section
variable {K : PySem.W.Frag} {n : Nat} {Q : O → List O → Nat → Prop} {X : Addr → List O → Nat → Prop}
theorem k_names_fault {d : PyData} {lo hi pl : Int} {m : Nat} (t : Tame m d) (hm : m ≤ 1000) (h : ∀ r, OkR r (namesOk lo hi d) → Q (.dat r) [.dat d, .dat (.int pl), .dat (.int lo), .dat (.int hi)] n) : d_names_fault K [.dat d, .dat (.int pl), .dat (.int lo), .dat (.int hi)] n Q X := by
  unfold d_names_fault b_names_fault
  cases d with
  | tuple ds =>
    have hp : namesOk lo hi (.tuple ds) = (decide (lo ≤ (ds.length : Int)) && decide ((ds.length : Int) ≤ hi) && namesGo [] ds) := rfl
    wtm_at "in"
    wtm_at "all"
    case _ =>
      refine h _ (.inr ⟨?_, _, rfl, by simp⟩)
      rw [hp]
      wtm_at "bz"
    case _ =>
      rename_i c1 c2
      refine x_forI (fun r s => ∃ seen es u4 u5, r = enumD (seen.length : Nat) es ∧ ds = seen ++ es ∧ s = ⟨[some (.dat (.tuple ds)), some (.dat (.int pl)), some (.dat (.int lo)), some (.dat (.int hi)), u4, u5], n, []⟩ ∧ (∀ d ∈ seen, isName d = true) ∧ namesGo [] ds = namesGo seen es) ?_ ?_ ⟨[], ds, none, none, rfl, rfl, rfl, (fun _ z => by cases z), rfl⟩
      · rintro p r s N ⟨seen, es, u4, u5, er, ed, rfl, hs, inv⟩ hN
        cases es with
        | nil => cases er
        | cons e es =>
          rw [enumD] at er
          obtain ⟨rfl, rfl⟩ := List.cons.inj er
          have te : Tame m e := t.item (by rw [ed]; simp)
          have hsh : ∀ d ∈ seen, Sh d := fun d hd => name_sh (hs d hd)
          wtm_at "go"
          refine k_is_name te hm ?_
          cases c3 : isName e with
          | false =>
            wtm_at "go"
            refine h _ (.inr ⟨?_, _, rfl, by simp⟩)
            rw [hp, inv, namesGo, c3]
            simp
          | true =>
            wtm_at "go"
            rw [ed, cut_app]
            refine x_fIn (inT hsh) ?_
            cases c4 : hasD seen e with
            | true =>
              wtm_at "go"
              rw [← ed]
              refine h _ (.inr ⟨?_, _, rfl, by simp⟩)
              rw [hp, inv, namesGo, c4]
              simp
            | false =>
              wtm_at "go"
              rw [← ed]
              refine hN _ ⟨seen ++ [e], es, _, _, ?_, by rw [ed]; simp, rfl, fun d hd => ?_, ?_⟩
              · rw [List.length_append, List.length_singleton]
                rfl
              · rcases List.mem_append.mp hd with hd | hd
                · exact hs d hd
                · rw [List.mem_singleton.mp hd]; exact c3
              · rw [inv, namesGo, c3, c4]
                rfl
      · rintro s ⟨seen, es, u4, u5, er, ed, rfl, hs, inv⟩
        cases es with
        | cons e es => cases er
        | nil =>
          wtm_at "go"
          refine h _ (.inl ⟨?_, rfl⟩)
          rw [hp, inv, c1, show decide ((ds.length : Int) ≤ hi) = true from by simpa using c2]
          rfl
    case _ =>
      refine h _ (.inr ⟨?_, _, rfl, by simp⟩)
      rw [hp]
      wtm_at "bz"
  | _ =>
    wtm_at "in"
    wtm_at "all"
    exact h _ (.inr ⟨rfl, _, rfl, by simp⟩)
theorem k__law_are_named {d : PyData} {lo hi : Int} {m : Nat} (t : Tame m d) (hm : m ≤ 1000) (hl : ∀ ds, d = .tuple ds → ds.length ≤ 1000) (h : Q (.dat (.bool (namesOk lo hi d))) [.dat d, .dat (.int lo), .dat (.int hi)] n) : d__law_are_named K [.dat d, .dat (.int lo), .dat (.int hi)] n Q X := by
  unfold d__law_are_named b__law_are_named
  cases d with
  | tuple ds =>
    have hp : namesOk lo hi (.tuple ds) = (decide (lo ≤ (ds.length : Int)) && decide ((ds.length : Int) ≤ hi) && namesGo [] ds) := rfl
    have hl := hl ds rfl
    wtm_at "in"
    wtm_at "all"
    case _ =>
      rename_i c
      refine x_fin h ?_
      rw [hp, decide_eq_false (by have := of_decide_eq_true c; omega : ¬ lo ≤ (ds.length : Int))]
      rfl
    case _ =>
      rename_i c1 c
      refine x_fin h ?_
      rw [hp, decide_eq_false (by have := of_decide_eq_true c; omega : ¬ (ds.length : Int) ≤ hi)]
      simp
    case _ =>
      rename_i c1 c2
      have e1 : decide (lo ≤ (ds.length : Int)) = true := decide_eq_true (by have := of_decide_eq_false c1; omega)
      have e2 : decide ((ds.length : Int) ≤ hi) = true := decide_eq_true (by have := of_decide_eq_false c2; omega)
      refine x_lcL (fun d => !isName d) (fun _ => .int 1) (by simp; omega) (fun d hd A B hA hB => ?_) ?_
      · wtm_at "go"
        refine k__law_is_named (t.item hd) hm ?_
        cases c : isName d with
        | true =>
          wtm_at "go"
          exact hB (by rw [c]; rfl)
        | false =>
          wtm_at "go"
          exact hA (by rw [c]; rfl)
      rw [List.nil_append]
      wtm_at "go"
      rw [not_all]
      cases c3 : ds.all isName with
      | false =>
        wtm_at "go"
        refine x_fin h ?_
        rw [hp, namesGo_eq, c3]
        simp
      | true =>
        have hs : ∀ d ∈ ds, Sh d := fun d hd => name_sh (List.all_eq_true.mp c3 d hd)
        wtm_at "go"
        refine x_lcM (fun i : Nat => PyData.int (0 + (i : Int))) (fun i => hasD (ds.take i) (ds.getD i .none)) (fun i => PyData.int ((i : Nat) : Int)) (l := List.range ds.length) (by simp; omega) (fun i hi A B hA hB => ?_) ?_
        · have hi := List.mem_range.mp hi
          rw [Int.zero_add]
          wtm_at "go"
          refine x_fIxT (atI_get hi) ?_
          wtm_at "go"
          rw [cut_take (by omega)]
          refine x_fIn (inT fun d hd => hs d (List.mem_of_mem_take hd)) ?_
          cases c : hasD (ds.take i) (ds.getD i .none) with
          | true =>
            wtm_at "go"
            exact hA c
          | false =>
            wtm_at "go"
            exact hB c
        wtm_at "go"
        rw [none_of]
        refine x_fin h ?_
        rw [hp, namesGo_eq, c3, e1, e2]
        rfl
  | _ =>
    wtm_at "in"
    wtm_at "all"
    exact h
end
end K77

/-! part Q3 -/
namespace K77
open PySem PySem.Spec PyProof.Rows L2 Evl Lk LamX Mk
/-! ### doors -/
def sorts : List PyData := [.str "leaf", .str "gate"]
def isSort : PyData → Bool
  | .str x => hasD sorts (.str x)
  | _ => false
def fst (d : PyData) : PyData := match d with
  | .tuple (a :: _) => a
  | _ => .none
def four : PyData → Bool
  | .tuple [_, _, _, _] => true
  | _ => false
def restOk (as : List PyData) : PyData → Bool
  | .tuple [_, b, c, e] => (isName b && hasD as b) && (isName c && hasD as c && !eqd c b) && isSort e
  | _ => false
def doorOk (as ahead : List PyData) (d : PyData) : Bool := four d && (isName (fst d) && !hasD ahead (fst d)) && restOk as d
def doorsGo (as ahead : List PyData) : List PyData → Bool
  | [] => true
  | d :: r => doorOk as ahead d && doorsGo as (ahead ++ [fst d]) r
def doorsOk (as : List PyData) : PyData → Bool
  | .tuple ds => decide ((1 : Int) ≤ (ds.length : Int)) && decide ((ds.length : Int) ≤ 6) && doorsGo as [] ds
  | _ => false
theorem four_is {d : PyData} (h : four d = true) : ∃ a b c e, d = .tuple [a, b, c, e] := by
  match d, h with
  | .tuple [a, b, c, e], _ => exact ⟨a, b, c, e, rfl⟩
theorem four_len {ds : List PyData} : four (.tuple ds) = decide ((ds.length : Int) = 4) := by
  match ds with
  | [] => rfl
  | [_] => rfl
  | [_, _] => rfl
  | [_, _, _] => rfl
  | [_, _, _, _] => rfl
  | _ :: _ :: _ :: _ :: _ :: r =>
    show false = _
    rw [decide_eq_false]
    simp only [List.length_cons]
    omega
theorem doorOk_is {as ahead : List PyData} {d : PyData} (h : doorOk as ahead d = true) : ∃ a b c e, d = .tuple [a, b, c, e] ∧ isName a = true ∧ hasD ahead a = false ∧ isName b = true ∧ hasD as b = true ∧ isName c = true ∧ hasD as c = true ∧ eqd c b = false ∧ isSort e = true := by
  unfold doorOk at h
  rw [Bool.and_eq_true, Bool.and_eq_true] at h
  obtain ⟨⟨h1, h2⟩, h3⟩ := h
  obtain ⟨a, b, c, e, rfl⟩ := four_is h1
  have h2' : (isName a && !hasD ahead a) = true := h2
  have h3' : ((isName b && hasD as b) && (isName c && hasD as c && !eqd c b) && isSort e) = true := h3
  simp only [Bool.and_eq_true, Bool.not_eq_true'] at h2' h3'
  exact ⟨a, b, c, e, rfl, h2'.1, h2'.2, h3'.1.1.1, h3'.1.1.2, h3'.1.2.1.1, h3'.1.2.1.2, h3'.1.2.2, h3'.2⟩
theorem doorsGo_eq (as : List PyData) : ∀ (r ahead : List PyData), doorsGo as ahead r = (r.all four && namesGo ahead (r.map fst) && r.all (restOk as))
  | [], _ => rfl
  | d :: r, ahead => by
    rw [doorsGo, doorsGo_eq as r, List.all_cons, List.all_cons, List.map_cons, namesGo, doorOk]
    cases four d <;> cases r.all four <;> cases isName (fst d) <;> cases hasD ahead (fst d) <;> cases namesGo (ahead ++ [fst d]) (r.map fst) <;> cases restOk as d <;> cases r.all (restOk as) <;> rfl
theorem doorsOk_is {as : List PyData} {d : PyData} (h : doorsOk as d = true) : ∃ ds, d = .tuple ds ∧ 1 ≤ ds.length ∧ ds.length ≤ 6 ∧ doorsGo as [] ds = true := by
  cases d with
  | tuple ds =>
    have h' : (decide ((1 : Int) ≤ (ds.length : Int)) && decide ((ds.length : Int) ≤ 6) && doorsGo as [] ds) = true := h
    rw [Bool.and_eq_true, Bool.and_eq_true, decide_eq_true_eq, decide_eq_true_eq] at h'
    exact ⟨ds, rfl, by omega, by omega, h'.2⟩
  | _ => cases h
theorem doorsGo_four {as ahead r : List PyData} (h : doorsGo as ahead r = true) : ∀ d ∈ r, four d = true := by
  rw [doorsGo_eq, Bool.and_eq_true, Bool.and_eq_true] at h
  exact List.all_eq_true.mp h.1.1
theorem doorsGo_names {as ahead r : List PyData} (h : doorsGo as ahead r = true) : namesGo ahead (r.map fst) = true := by
  rw [doorsGo_eq, Bool.and_eq_true, Bool.and_eq_true] at h
  exact h.1.2
theorem sorts_sh : ∀ d ∈ sorts, Sh d := by
  intro d hd
  unfold sorts at hd
  simp only [List.mem_cons, List.not_mem_nil, or_false] at hd
  rcases hd with rfl | rfl <;> exact .str (m := 4) ⟨by decide +kernel, by decide +kernel⟩
/-- None, or a fault -/
def OkF (r : PyData) (b : Bool) : Prop := (b = true ∧ r = .none) ∨ (b = false ∧ ∃ ds, r = .tuple ds)
theorem OkR.f {r : PyData} {b : Bool} (h : OkR r b) : OkF r b := h.imp id fun ⟨h1, ds, h2, _⟩ => ⟨h1, ds, h2⟩
section
variable {K : PySem.W.Frag} {n : Nat} {Q : O → List O → Nat → Prop} {X : Addr → List O → Nat → Prop}
theorem k_door_fault {as ahead : List PyData} {d : PyData} {m : Nat} (ha : ∀ d ∈ as, Sh d) (hh : ∀ d ∈ ahead, Sh d) (t : Tame m d) (hm : m ≤ 1000) (h : ∀ r, OkR r (doorOk as ahead d) → Q (.dat r) [.dat (.tuple as), .lst ahead, .dat d] n) : d_door_fault K [.dat (.tuple as), .lst ahead, .dat d] n Q X := by
  unfold d_door_fault b_door_fault
  cases d with
  | tuple ds =>
    wtm_at "in"
    wtm_at "go"
    cases c0 : decide ((ds.length : Int) = 4) with
    | false =>
      wtm_at "go"
      refine h _ (.inr ⟨?_, _, rfl, by simp⟩)
      rw [doorOk, four_len, c0]
      rfl
    | true =>
      have c0' := c0
      rw [← four_len] at c0'
      obtain ⟨a, b, c, e, ed⟩ := four_is c0'
      cases ed
      have eo : doorOk as ahead (.tuple [a, b, c, e]) = ((isName a && !hasD ahead a) && ((isName b && hasD as b) && (isName c && hasD as c && !eqd c b) && isSort e)) := rfl
      have ta := t.item (d := a) (by simp)
      have tb := t.item (d := b) (by simp)
      have tc := t.item (d := c) (by simp)
      have te := t.item (d := e) (by simp)
      wtm_at "go"
      refine k_is_name ta hm ?_
      cases c1 : isName a with
      | false =>
        wtm_at "go"
        refine h _ (.inr ⟨?_, _, rfl, by simp⟩)
        rw [eo, c1]
        rfl
      | true =>
        wtm_at "go"
        refine x_fIn (inL hh) ?_
        cases c2 : hasD ahead a with
        | true =>
          wtm_at "go"
          refine h _ (.inr ⟨?_, _, rfl, by simp⟩)
          rw [eo, c1, c2]
          rfl
        | false =>
          wtm_at "go"
          refine k_is_name tb hm ?_
          cases c3 : isName b with
          | false =>
            wtm_at "go"
            refine h _ (.inr ⟨?_, _, rfl, by simp⟩)
            rw [eo, c1, c2, c3]
            rfl
          | true =>
            wtm_at "go"
            refine x_fNotIn (inT ha) ?_
            cases c4 : hasD as b with
            | false =>
              wtm_at "go"
              refine h _ (.inr ⟨?_, _, rfl, by simp⟩)
              rw [eo, c1, c2, c3, c4]
              rfl
            | true =>
              wtm_at "go"
              refine k_is_name tc hm ?_
              cases c5 : isName c with
              | false =>
                wtm_at "go"
                refine h _ (.inr ⟨?_, _, rfl, by simp⟩)
                rw [eo, c1, c2, c3, c4, c5]
                rfl
              | true =>
                wtm_at "go"
                refine x_fNotIn (inT ha) ?_
                cases c6 : hasD as c with
                | false =>
                  wtm_at "go"
                  refine h _ (.inr ⟨?_, _, rfl, by simp⟩)
                  rw [eo, c1, c2, c3, c4, c5, c6]
                  rfl
                | true =>
                  have sb := (name_sh c3).sh
                  have sc := (name_sh c5).sh
                  wtm_at "go"
                  cases c7 : eqd c b with
                  | true =>
                    wtm_at "go"
                    refine h _ (.inr ⟨?_, _, rfl, by simp⟩)
                    rw [eo, c1, c2, c3, c4, c5, c6, c7]
                    rfl
                  | false =>
                    wtm_at "go"
                    cases e with
                    | str z =>
                      wtm_at "go"
                      refine x_fNotIn (inT sorts_sh) ?_
                      have ez : isSort (.str z) = hasD sorts (.str z) := rfl
                      cases c8 : hasD sorts (.str z) with
                      | true =>
                        wtm_at "go"
                        refine h _ (.inl ⟨?_, rfl⟩)
                        rw [eo, c1, c2, c3, c4, c5, c6, c7, ez, c8]
                        rfl
                      | false =>
                        wtm_at "go"
                        refine h _ (.inr ⟨?_, _, rfl, by simp⟩)
                        rw [eo, c1, c2, c3, c4, c5, c6, c7, ez, c8]
                        rfl
                    | _ =>
                      wtm_at "go"
                      refine h _ (.inr ⟨?_, _, rfl, by simp⟩)
                      rw [eo, c1, c2, c3, c4, c5, c6, c7]
                      rfl
  | _ =>
    wtm_at "in"
    wtm_at "all"
    exact h _ (.inr ⟨rfl, _, rfl, by simp⟩)
theorem k_doors_fault {as : List PyData} {d : PyData} {m : Nat} (ha : ∀ d ∈ as, Sh d) (t : Tame m d) (hm : m ≤ 1000) (h : ∀ r, OkF r (doorsOk as d) → Q (.dat r) [.dat (.tuple as), .dat d] n) : d_doors_fault K [.dat (.tuple as), .dat d] n Q X := by
  unfold d_doors_fault b_doors_fault
  cases d with
  | tuple ds =>
    have hp : doorsOk as (.tuple ds) = (decide ((1 : Int) ≤ (ds.length : Int)) && decide ((ds.length : Int) ≤ 6) && doorsGo as [] ds) := rfl
    wtm_at "in"
    wtm_at "all"
    case _ =>
      refine h _ (.inr ⟨?_, _, rfl⟩)
      rw [hp]
      wtm_at "bz"
    case _ =>
      rename_i c1 c2
      have c2' : decide ((ds.length : Int) ≤ 6) = true := by simpa using c2
      have hl := of_decide_eq_true c2'
      refine x_forI (fun r s => ∃ seen es u2 u3 u4, r = enumD (seen.length : Nat) es ∧ ds = seen ++ es ∧ s = ⟨[some (.dat (.tuple as)), some (.dat (.tuple ds)), u2, u3, u4, none], n, []⟩ ∧ (∀ d ∈ seen, four d = true ∧ isName (fst d) = true) ∧ doorsGo as [] ds = doorsGo as (seen.map fst) es) ?_ ?_ ⟨[], ds, none, none, none, rfl, rfl, rfl, (fun _ z => by cases z), rfl⟩
      · rintro p r s N ⟨seen, es, u2, u3, u4, er, ed, rfl, hs, inv⟩ hN
        cases es with
        | nil => cases er
        | cons e es =>
          rw [enumD] at er
          obtain ⟨rfl, rfl⟩ := List.cons.inj er
          have te : Tame m e := t.item (by rw [ed]; simp)
          have hsh : ∀ d ∈ seen.map fst, Sh d := fun d hd => by
            obtain ⟨z, hz, rfl⟩ := List.mem_map.mp hd
            exact name_sh (hs z hz).2
          wtm_at "go"
          rw [ed, cut_app]
          refine x_lcL (fun _ => true) fst (by rw [ed, List.length_append] at hl; simp; omega) (fun d hd A B hA _ => ?_) ?_
          · obtain ⟨a, b, c, z, rfl⟩ := four_is (hs d hd).1
            wtm_at "go"
            exact hA rfl
          rw [filter_true, List.nil_append]
          wtm_at "go"
          refine k_door_fault ha hsh te hm fun r hr => ?_
          wtm_at "go"
          rcases hr with ⟨hb, rfl⟩ | ⟨hb, fs, rfl, hf⟩
          · wtm_at "go"
            rw [← ed]
            have hb' := hb
            obtain ⟨a, b, c, z, ez, n1, _⟩ := doorOk_is hb'
            refine hN _ ⟨seen ++ [e], es, _, _, _, ?_, by rw [ed]; simp, rfl, fun d hd => ?_, ?_⟩
            · rw [List.length_append, List.length_singleton]
              rfl
            · rcases List.mem_append.mp hd with hd | hd
              · exact hs d hd
              · rw [List.mem_singleton.mp hd, ez]; exact ⟨rfl, n1⟩
            · rw [inv, doorsGo, hb, List.map_append]
              rfl
          · wtm_at "go"
            refine x_disl (by simp; omega) ?_
            wtm_at "go"
            rw [← ed]
            refine h _ (.inr ⟨?_, _, rfl⟩)
            rw [hp, inv, doorsGo, hb]
            simp
      · rintro s ⟨seen, es, u2, u3, u4, er, ed, rfl, hs, inv⟩
        cases es with
        | cons e es => cases er
        | nil =>
          wtm_at "go"
          refine h _ (.inl ⟨?_, rfl⟩)
          rw [hp, inv, c1, c2']
          rfl
    case _ =>
      refine h _ (.inr ⟨?_, _, rfl⟩)
      rw [hp]
      wtm_at "bz"
  | _ =>
    wtm_at "in"
    wtm_at "all"
    exact h _ (.inr ⟨rfl, _, rfl⟩)
end
end K77

/-! part Q4 -/
namespace K77
open PySem PySem.Spec PyProof.Rows L2 Evl Lk LamX Mk
theorem fst_tame {m : Nat} {d : PyData} (t : Tame m d) : Tame m (fst d) := by
  match d, t with
  | .tuple (a :: r), t => exact t.item (d := a) (by simp)
  | .tuple [], _ => exact .none
  | .none, _ => exact .none
  | .bool _, _ => exact .none
  | .int _, _ => exact .none
  | .str _, _ => exact .none
  | .list _, _ => exact .none
  | .dict _, _ => exact .none
theorem eqd_names {b c : PyData} (hb : isName b = true) (hc : isName c = true) : eqd b c = eqd c b := by
  obtain ⟨x, rfl⟩ := isName_str hb
  obtain ⟨y, rfl⟩ := isName_str hc
  rw [eqd_str, eqd_str]
  exact decide_eq_decide.mpr eq_comm
section
variable {K : PySem.W.Frag} {n : Nat} {Q : O → List O → Nat → Prop} {X : Addr → List O → Nat → Prop}
theorem k__law_is_doored {as : List PyData} {d : PyData} {m : Nat} (ha : ∀ d ∈ as, Sh d) (t : Tame m d) (hm : m ≤ 1000) (h : Q (.dat (.bool (doorsOk as d))) [.dat (.tuple as), .dat d] n) : d__law_is_doored K [.dat (.tuple as), .dat d] n Q X := by
  unfold d__law_is_doored b__law_is_doored
  cases d with
  | tuple ds =>
    have hp : doorsOk as (.tuple ds) = (decide ((1 : Int) ≤ (ds.length : Int)) && decide ((ds.length : Int) ≤ 6) && doorsGo as [] ds) := rfl
    wtm_at "in"
    wtm_at "all"
    case _ =>
      rename_i c
      refine x_fin h ?_
      rw [hp, decide_eq_false (by have := of_decide_eq_true c; omega : ¬ (1 : Int) ≤ (ds.length : Int))]
      rfl
    case _ =>
      rename_i c1 c
      refine x_fin h ?_
      rw [hp, decide_eq_false (by have := of_decide_eq_true c; omega : ¬ (ds.length : Int) ≤ 6)]
      simp
    case _ =>
      rename_i c1 c2
      have e1 : decide ((1 : Int) ≤ (ds.length : Int)) = true := decide_eq_true (by have := of_decide_eq_false c1; omega)
      have hl := of_decide_eq_false c2
      have e2 : decide ((ds.length : Int) ≤ 6) = true := decide_eq_true (by omega)
      rw [e1, e2, doorsGo_eq] at hp
      refine x_lcL (fun d => !four d) (fun _ => .int 1) (by simp; omega) (fun d hd A B hA hB => ?_) ?_
      · cases d with
        | tuple es =>
          rw [four_len] at hA hB
          wtm_at "go"
          cases c : decide ((es.length : Int) = 4) with
          | true =>
            wtm_at "go"
            exact hB (by rw [c]; rfl)
          | false =>
            wtm_at "go"
            exact hA (by rw [c]; rfl)
        | _ =>
          wtm_at "go"
          exact hA rfl
      rw [List.nil_append]
      wtm_at "go"
      rw [not_all]
      cases c3 : ds.all four with
      | false =>
        wtm_at "go"
        refine x_fin h ?_
        rw [hp, c3]
        rfl
      | true =>
        have hf : ∀ d ∈ ds, four d = true := List.all_eq_true.mp c3
        wtm_at "go"
        refine x_lcL (fun _ => true) fst (by simp; omega) (fun d hd A B hA _ => ?_) ?_
        · obtain ⟨a, b, c, z, rfl⟩ := four_is (hf d hd)
          wtm_at "go"
          exact hA rfl
        rw [filter_true, List.nil_append]
        wtm_at "go"
        have tf : Tame m (.tuple (ds.map fst)) := .tup fun d hd => by
          obtain ⟨z, hz, rfl⟩ := List.mem_map.mp hd
          exact fst_tame (t.item hz)
        refine k__law_are_named tf hm (fun es e => by cases e; rw [List.length_map]; omega) ?_
        have en : namesOk 1 6 (.tuple (ds.map fst)) = namesGo [] (ds.map fst) := by
          show (decide ((1 : Int) ≤ ((ds.map fst).length : Int)) && decide (((ds.map fst).length : Int) ≤ 6) && _) = _
          rw [List.length_map, e1, e2]
          rfl
        rw [en]
        cases c4 : namesGo [] (ds.map fst) with
        | false =>
          wtm_at "go"
          refine x_fin h ?_
          rw [hp, c3, c4]
          rfl
        | true =>
          have hn : ∀ d ∈ ds, isName (fst d) = true := fun d hd => namesGo_all c4 _ (List.mem_map_of_mem hd)
          wtm_at "go"
          refine x_forI (fun r s => ∃ u2 u3 u4 u5, s = ⟨[some (.dat (.tuple as)), some (.dat (.tuple ds)), u2, u3, u4, u5], n, []⟩ ∧ (∀ d ∈ r, d ∈ ds) ∧ ds.all (restOk as) = r.all (restOk as)) ?_ ?_ ⟨none, none, none, none, rfl, (fun _ z => z), rfl⟩
          · rintro p r s N ⟨u2, u3, u4, u5, rfl, hr, inv⟩ hN
            have hpd := hr p List.mem_cons_self
            obtain ⟨a, b, c, e, rfl⟩ := four_is (hf p hpd)
            have tp := t.item hpd
            have tb := tp.item (d := b) (by simp)
            have tc := tp.item (d := c) (by simp)
            have er : restOk as (.tuple [a, b, c, e]) = ((isName b && hasD as b) && (isName c && hasD as c && !eqd c b) && isSort e) := rfl
            have no : restOk as (.tuple [a, b, c, e]) = false → Q (.dat (.bool false)) [.dat (.tuple as), .dat (.tuple ds)] n := fun q => by
              rw [hp, inv, List.all_cons, q, c3, c4] at h
              exact h
            wtm_at "go"
            refine k__law_is_named tb hm ?_
            cases d1 : isName b with
            | false =>
              wtm_at "go"
              exact no (by rw [er, d1]; rfl)
            | true =>
              wtm_at "go"
              refine k__law_is_named tc hm ?_
              cases d2 : isName c with
              | false =>
                wtm_at "go"
                exact no (by rw [er, d2]; simp)
              | true =>
                wtm_at "go"
                refine x_fNotIn (inT ha) ?_
                cases d3 : hasD as b with
                | false =>
                  wtm_at "go"
                  exact no (by rw [er, d3]; simp)
                | true =>
                  wtm_at "go"
                  refine x_fNotIn (inT ha) ?_
                  cases d4 : hasD as c with
                  | false =>
                    wtm_at "go"
                    exact no (by rw [er, d4]; simp)
                  | true =>
                    have sb := (name_sh d1).sh
                    have sc := (name_sh d2).sh
                    wtm_at "go"
                    rw [eqd_names d1 d2]
                    cases d5 : eqd c b with
                    | true =>
                      wtm_at "go"
                      exact no (by rw [er, d5]; simp)
                    | false =>
                      wtm_at "go"
                      cases e with
                      | str z =>
                        wtm_at "go"
                        refine x_fNotIn (inL sorts_sh) ?_
                        have ez : isSort (.str z) = hasD sorts (.str z) := rfl
                        cases d6 : hasD sorts (.str z) with
                        | false =>
                          wtm_at "go"
                          exact no (by rw [er, ez, d6]; simp)
                        | true =>
                          wtm_at "go"
                          refine hN _ ⟨_, _, _, _, rfl, fun d hd => hr d (List.mem_cons_of_mem _ hd), ?_⟩
                          rw [inv, List.all_cons, er, d1, d2, d3, d4, d5, ez, d6]
                          rfl
                      | _ =>
                        wtm_at "go"
                        exact no (by rw [er]; simp [isSort])
          · rintro s ⟨u2, u3, u4, u5, rfl, _, inv⟩
            wtm_at "go"
            refine x_fin h ?_
            rw [hp, c3, c4, inv]
            rfl
  | _ =>
    wtm_at "in"
    wtm_at "all"
    exact h
end
end K77

/-! part Q5 -/
namespace K77
open PySem PySem.Spec PyProof.Rows L2 Evl Lk LamX Mk
/-! ### rights: pure facts -/
def posD : List PyData → PyData → Nat
  | [], _ => 0
  | z :: zs, d => if PyData.eqv z d = true then 0 else posD zs d + 1
theorem hasD_cons {z d : PyData} {zs : List PyData} : hasD (z :: zs) d = (PyData.eqv z d || hasD zs d) := by
  unfold hasD
  rw [List.any_cons]
theorem hasD_app {l k : List PyData} {d : PyData} : hasD (l ++ k) d = (hasD l d || hasD k d) := by
  unfold hasD
  rw [List.any_append]
theorem pos_spec {d : PyData} : ∀ {ds : List PyData}, hasD ds d = true → ∃ z, ds[posD ds d]? = some z ∧ PyData.eqv z d = true ∧ ∀ (m : Nat) (z' : PyData), m < posD ds d → ds[m]? = some z' → PyData.eqv z' d = false
  | [], h => by cases h
  | z :: zs, h => by
    by_cases c : PyData.eqv z d = true
    · have e : posD (z :: zs) d = 0 := by rw [posD, if_pos c]
      rw [e]
      exact ⟨z, rfl, c, fun m _ hm => by omega⟩
    · rw [hasD_cons, Bool.or_eq_true] at h
      rcases h with h | h
      · exact (c h).elim
      · obtain ⟨y, h1, h2, h3⟩ := pos_spec h
        have e : posD (z :: zs) d = posD zs d + 1 := by rw [posD, if_neg c]
        rw [e]
        refine ⟨y, by rw [List.getElem?_cons_succ]; exact h1, h2, fun m z' hm hz => ?_⟩
        cases m with
        | zero =>
          rw [List.getElem?_cons_zero] at hz
          cases hz
          exact Bool.not_eq_true _ ▸ c
        | succ m =>
          rw [List.getElem?_cons_succ] at hz
          exact h3 m z' (by omega) hz
theorem pos_lt {d : PyData} {ds : List PyData} (h : hasD ds d = true) : posD ds d < ds.length := by
  obtain ⟨z, h1, _⟩ := pos_spec h
  exact (List.getElem?_eq_some_iff.mp h1).1
theorem pos_app {d : PyData} : ∀ {l k : List PyData}, posD (l ++ k) d = if hasD l d = true then posD l d else l.length + posD k d
  | [], k => by simp [hasD]
  | z :: zs, k => by
    rw [List.cons_append, posD, posD, hasD_cons, pos_app (l := zs)]
    by_cases c : PyData.eqv z d = true
    · rw [if_pos c, if_pos c, c]
      rfl
    · have c' : PyData.eqv z d = false := by simpa using c
      rw [if_neg c, if_neg c, c', Bool.false_or, List.length_cons]
      split <;> omega
theorem eqv_str {x : Str} {d : PyData} (h : PyData.eqv (.str x) d = true) : d = .str x := by
  cases d with
  | str y =>
    have h' : (x == y) = true := by rw [PyData.eqv] at h; exact h
    rw [eq_of_beq h']
  | _ => simp [PyData.eqv] at h
theorem hasD_name {ks : List PyData} {d : PyData} (hk : ∀ z ∈ ks, isName z = true) (h : hasD ks d = true) : isName d = true := by
  unfold hasD at h
  rw [List.any_eq_true] at h
  obtain ⟨z, hz, e⟩ := h
  have hn := hk z hz
  obtain ⟨x, rfl⟩ := isName_str hn
  rw [eqv_str e]
  exact hn
/-- one right: a kind, a door, a side -/
def rightOk (ns ks : List PyData) : PyData → Bool
  | .tuple [k, w, s] => (isName k && hasD ks k) && (isName w && hasD ns w) && isWhole s 0 1
  | _ => false
def intOf : PyData → Int
  | .int i => i
  | _ => 0
def spotOf (ns ks : List PyData) : PyData → Int
  | .tuple [k, w, s] => (((posD ks k : Nat) : Int) * (ns.length : Int) + ((posD ns w : Nat) : Int)) * 2 + intOf s
  | _ => 0
theorem rightOk_is {ns ks : List PyData} {d : PyData} (h : rightOk ns ks d = true) : ∃ k w i, d = .tuple [k, w, .int i] ∧ isName k = true ∧ hasD ks k = true ∧ isName w = true ∧ hasD ns w = true ∧ 0 ≤ i ∧ i ≤ 1 := by
  match d, h with
  | .tuple [k, w, s], h =>
    have h' : ((isName k && hasD ks k) && (isName w && hasD ns w) && isWhole s 0 1) = true := h
    simp only [Bool.and_eq_true] at h'
    obtain ⟨i, rfl, i0, i1⟩ := isWhole_int h'.2
    exact ⟨k, w, i, rfl, h'.1.1.1, h'.1.1.2, h'.1.2.1, h'.1.2.2, i0, i1⟩
def ascI (last : Int) : List Int → Bool
  | [] => true
  | i :: r => decide (last < i) && ascI i r
def rightsGo (ns ks : List PyData) (last : Int) : List PyData → Bool
  | [] => true
  | r :: rs => rightOk ns ks r && decide (last < spotOf ns ks r) && rightsGo ns ks (spotOf ns ks r) rs
def rightsOk (ns ks : List PyData) : PyData → Bool
  | .tuple rs => rightsGo ns ks (-1) rs
  | _ => false
theorem rightsGo_eq {ns ks : List PyData} : ∀ {rs : List PyData} {last : Int}, rightsGo ns ks last rs = (rs.all (rightOk ns ks) && ascI last (rs.map (spotOf ns ks)))
  | [], _ => rfl
  | r :: rs, last => by
    rw [rightsGo, rightsGo_eq (rs := rs), List.all_cons, List.map_cons, ascI]
    cases rightOk ns ks r <;> cases decide (last < spotOf ns ks r) <;> cases rs.all (rightOk ns ks) <;> rfl
theorem spot_nn {ns ks : List PyData} {d : PyData} (h : rightOk ns ks d = true) : 0 ≤ spotOf ns ks d := by
  obtain ⟨k, w, i, rfl, _, _, _, _, i0, i1⟩ := rightOk_is h
  show 0 ≤ (((posD ks k : Nat) : Int) * (ns.length : Int) + ((posD ns w : Nat) : Int)) * 2 + i
  have : 0 ≤ ((posD ks k : Nat) : Int) * (ns.length : Int) := Int.mul_nonneg (by omega) (by omega)
  omega
theorem asc_pair : ∀ {l : List Int} {last : Int}, ascI last l = true ↔ (∀ i ∈ l, last < i) ∧ l.Pairwise (· < ·)
  | [], last => by simp [ascI]
  | i :: l, last => by
    rw [ascI, Bool.and_eq_true, asc_pair (l := l), decide_eq_true_eq, List.pairwise_cons]
    constructor
    · rintro ⟨h1, h2, h3⟩
      refine ⟨fun j hj => ?_, h2, h3⟩
      rcases List.mem_cons.mp hj with rfl | hj
      · exact h1
      · have := h2 j hj
        omega
    · rintro ⟨h1, h2, h3⟩
      exact ⟨h1 i List.mem_cons_self, h2, h3⟩
/-- two ascending lists of the same numbers are one -/
theorem asc_eq : ∀ {l k : List Int}, l.Pairwise (· < ·) → k.Pairwise (· < ·) → (∀ i, i ∈ l ↔ i ∈ k) → l = k
  | [], [], _, _, _ => rfl
  | [], b :: k, _, _, h => by
    have := (h b).mpr List.mem_cons_self
    cases this
  | a :: l, [], _, _, h => by
    have := (h a).mp List.mem_cons_self
    cases this
  | a :: l, b :: k, h1, h2, h => by
    rw [List.pairwise_cons] at h1 h2
    have e : a = b := by
      rcases List.mem_cons.mp ((h a).mp List.mem_cons_self) with q | q
      · exact q
      · rcases List.mem_cons.mp ((h b).mpr List.mem_cons_self) with p | p
        · exact p.symm
        · have x1 := h1.1 b p
          have x2 := h2.1 a q
          omega
    subst e
    refine congrArg (a :: ·) (asc_eq h1.2 h2.2 fun i => ?_)
    constructor
    · intro hi
      rcases List.mem_cons.mp ((h i).mp (List.mem_cons_of_mem _ hi)) with q | q
      · have := h1.1 i hi
        omega
      · exact q
    · intro hi
      rcases List.mem_cons.mp ((h i).mpr (List.mem_cons_of_mem _ hi)) with q | q
      · have := h2.1 i hi
        omega
      · exact q
theorem eqd_ints : ∀ {l k : List Int}, eqd (.list (l.map PyData.int)) (.list (k.map PyData.int)) = decide (l = k)
  | [], [] => rfl
  | [], _ :: _ => rfl
  | _ :: _, [] => rfl
  | a :: l, b :: k => by
    have ih : eqd (.list (l.map PyData.int)) (.list (k.map PyData.int)) = decide (l = k) := eqd_ints
    unfold eqd at ih ⊢
    rw [PyData.eqv] at ih ⊢
    rw [List.map_cons, List.map_cons, PyData.eqvAll, ih]
    have e : PyData.eqv (.int a) (.int b) = decide (a = b) := by
      rw [PyData.eqv]
      rfl
    rw [e]
    by_cases h1 : a = b <;> by_cases h2 : l = k <;> simp [h1, h2]
/-! ### all rights of a building -/
def two (k w : PyData) : List PyData := [.tuple [k, w, .int 0], .tuple [k, w, .int 1]]
def ofKind (ns : List PyData) (k : PyData) : List PyData := ns.flatMap (two k)
def everyD (ns ks : List PyData) : List PyData := ks.flatMap (ofKind ns)
theorem eqv_right {k w k' w' s' : PyData} {i : Int} : PyData.eqv (.tuple [k, w, .int i]) (.tuple [k', w', s']) = (PyData.eqv k k' && (PyData.eqv w w' && PyData.eqv (.int i) s')) := by
  rw [PyData.eqv, PyData.eqvAll, PyData.eqvAll, PyData.eqvAll, PyData.eqvAll, Bool.and_true]
def sideIn (s : PyData) : Bool := PyData.eqv (.int 0) s || PyData.eqv (.int 1) s
theorem has_two {k w k' w' s' : PyData} : hasD (two k w) (.tuple [k', w', s']) = (PyData.eqv k k' && PyData.eqv w w' && sideIn s') := by
  unfold two sideIn
  rw [hasD_cons, hasD_cons, eqv_right, eqv_right]
  show (_ || (_ || false)) = _
  cases PyData.eqv k k' <;> cases PyData.eqv w w' <;> cases PyData.eqv (.int 0) s' <;> cases PyData.eqv (.int 1) s' <;> rfl
theorem has_kind {k k' w' s' : PyData} : ∀ {ns : List PyData}, hasD (ofKind ns k) (.tuple [k', w', s']) = (PyData.eqv k k' && hasD ns w' && sideIn s')
  | [] => by
    show false = (PyData.eqv k k' && false && sideIn s')
    simp
  | w :: ns => by
    have e : ofKind (w :: ns) k = two k w ++ ofKind ns k := rfl
    rw [e, hasD_app, has_two, has_kind (ns := ns), hasD_cons]
    cases PyData.eqv k k' <;> cases PyData.eqv w w' <;> cases hasD ns w' <;> cases sideIn s' <;> rfl
theorem has_every {ns : List PyData} {k' w' s' : PyData} : ∀ {ks : List PyData}, hasD (everyD ns ks) (.tuple [k', w', s']) = (hasD ks k' && hasD ns w' && sideIn s')
  | [] => rfl
  | k :: ks => by
    have e : everyD ns (k :: ks) = ofKind ns k ++ everyD ns ks := rfl
    rw [e, hasD_app, has_kind, has_every (ks := ks), hasD_cons]
    cases PyData.eqv k k' <;> cases hasD ks k' <;> cases hasD ns w' <;> cases sideIn s' <;> rfl
theorem side_whole {s : PyData} (hb : Lk.isBool s = false) : sideIn s = isWhole s 0 1 := by
  cases s with
  | int i =>
    show (((0 : Int) == i) || ((1 : Int) == i)) = (decide (0 ≤ i) && decide (i ≤ 1))
    by_cases h0 : (0 : Int) = i
    · subst h0; rfl
    · by_cases h1 : (1 : Int) = i
      · subst h1; rfl
      · have e0 : ((0 : Int) == i) = false := by simpa using h0
        have e1 : ((1 : Int) == i) = false := by simpa using h1
        rw [e0, e1]
        by_cases h2 : 0 ≤ i
        · rw [decide_eq_false (show ¬ i ≤ 1 by omega)]; simp
        · rw [decide_eq_false h2]; rfl
  | bool b => cases hb
  | _ => simp [sideIn, PyData.eqv, isWhole]
theorem every_ok {ns ks : List PyData} {k w s : PyData} (hk : ∀ z ∈ ks, isName z = true) (hn : ∀ z ∈ ns, isName z = true) (hb : Lk.isBool s = false) : hasD (everyD ns ks) (.tuple [k, w, s]) = rightOk ns ks (.tuple [k, w, s]) := by
  rw [has_every, side_whole hb]
  show _ = ((isName k && hasD ks k) && (isName w && hasD ns w) && isWhole s 0 1)
  cases c1 : hasD ks k with
  | false => simp
  | true =>
    rw [hasD_name hk c1]
    cases c2 : hasD ns w with
    | false => simp
    | true =>
      rw [hasD_name hn c2]
      rfl
theorem kind_len {ns : List PyData} {k : PyData} : (ofKind ns k).length = 2 * ns.length := by
  induction ns with
  | nil => rfl
  | cons w ns ih =>
    have e : ofKind (w :: ns) k = two k w ++ ofKind ns k := rfl
    rw [e, List.length_append, ih, List.length_cons]
    show 2 + _ = _
    omega
theorem every_len {ns ks : List PyData} : (everyD ns ks).length = 2 * ns.length * ks.length := by
  induction ks with
  | nil => rfl
  | cons k ks ih =>
    have e : everyD ns (k :: ks) = ofKind ns k ++ everyD ns ks := rfl
    rw [e, List.length_append, ih, kind_len, List.length_cons, Nat.mul_succ]
    omega
theorem eqv_int {i j : Int} : PyData.eqv (.int i) (.int j) = decide (i = j) := by
  have := eqd_int (i := i) (j := j)
  unfold eqd at this
  exact this
theorem pos_kind {k k' w' : PyData} {i : Int} (hk : PyData.eqv k k' = true) (h0 : 0 ≤ i) (h1 : i ≤ 1) : ∀ {ns : List PyData}, hasD ns w' = true → ((posD (ofKind ns k) (.tuple [k', w', .int i]) : Nat) : Int) = ((posD ns w' : Nat) : Int) * 2 + i
  | [], h => by cases h
  | w :: ns, h => by
    have e : ofKind (w :: ns) k = .tuple [k, w, .int 0] :: .tuple [k, w, .int 1] :: ofKind ns k := rfl
    rw [e, posD, posD, posD, eqv_right, eqv_right, hk, eqv_int, eqv_int]
    cases c : PyData.eqv w w' with
    | true =>
      simp only [Bool.true_and, if_true]
      by_cases z : (0 : Int) = i
      · rw [if_pos (decide_eq_true z)]; omega
      · rw [if_neg (by simpa using z), if_pos (decide_eq_true (show (1 : Int) = i by omega))]
        omega
    | false =>
      rw [hasD_cons, c, Bool.false_or] at h
      have ih := pos_kind hk h0 h1 h
      simp only [Bool.true_and, Bool.false_and, Bool.false_eq_true, if_false]
      omega
theorem pos_every {ns : List PyData} {k' w' : PyData} {i : Int} (hw : hasD ns w' = true) (h0 : 0 ≤ i) (h1 : i ≤ 1) : ∀ {ks : List PyData}, hasD ks k' = true → ((posD (everyD ns ks) (.tuple [k', w', .int i]) : Nat) : Int) = (((posD ks k' : Nat) : Int) * (ns.length : Int) + ((posD ns w' : Nat) : Int)) * 2 + i
  | [], h => by cases h
  | k :: ks, h => by
    have e : everyD ns (k :: ks) = ofKind ns k ++ everyD ns ks := rfl
    have s1 : sideIn (.int i) = true := by
      rw [side_whole rfl]
      show (decide (0 ≤ i) && decide (i ≤ 1)) = true
      rw [decide_eq_true h0, decide_eq_true h1]; rfl
    rw [e, pos_app, has_kind, hw, s1, posD]
    cases c : PyData.eqv k k' with
    | true =>
      simp only [Bool.true_and, if_true]
      rw [pos_kind c h0 h1 hw]
      omega
    | false =>
      rw [hasD_cons, c, Bool.false_or] at h
      have ih := pos_every hw h0 h1 h
      simp only [Bool.false_and, Bool.false_eq_true, if_false]
      rw [kind_len]
      have e2 : (((posD ks k' + 1 : Nat) : Int) * (ns.length : Int)) = ((posD ks k' : Nat) : Int) * (ns.length : Int) + (ns.length : Int) := by
        rw [Int.natCast_add, Int.add_mul]
        simp
      rw [e2]
      omega
theorem spot_pos {ns ks : List PyData} {k w : PyData} {i : Int} (hk : hasD ks k = true) (hw : hasD ns w = true) (h0 : 0 ≤ i) (h1 : i ≤ 1) : ((posD (everyD ns ks) (.tuple [k, w, .int i]) : Nat) : Int) = spotOf ns ks (.tuple [k, w, .int i]) := pos_every hw h0 h1 hk
theorem every_sh {ns ks : List PyData} (hk : ∀ z ∈ ks, isName z = true) (hn : ∀ z ∈ ns, isName z = true) : ∀ d ∈ everyD ns ks, Sh d := by
  intro d hd
  obtain ⟨k, hk1, hd⟩ := List.mem_flatMap.mp hd
  obtain ⟨w, hw1, hd⟩ := List.mem_flatMap.mp hd
  have one : ∀ i : Int, Sh (.tuple [k, w, .int i]) := fun i => by
    obtain ⟨x, rfl⟩ := isName_str (hk k hk1)
    obtain ⟨y, rfl⟩ := isName_str (hn w hw1)
    have sx := name_sh (hk _ hk1)
    have sy := name_sh (hn _ hw1)
    refine ⟨?_, by simp [PyData.depth, PyData.depthAll]⟩
    rw [PyData.canLay0, PyData.canLayAll0, PyData.canLayAll0, PyData.canLayAll0, sx.1, sy.1]
    rfl
  unfold two at hd
  simp only [List.mem_cons, List.not_mem_nil, or_false] at hd
  rcases hd with rfl | rfl
  · exact one 0
  · exact one 1
end K77

/-! part Q6 -/
namespace K77
open PySem PySem.Spec PyProof.Rows L2 Evl Lk LamX Mk
theorem leTup3 {a b c x y z : Int} : leTup [a, b, c] [x, y, z] = if a = x then (if b = y then (if c = z then true else decide (c ≤ z)) else decide (b ≤ y)) else decide (a ≤ x) := by
  show Ob.lexAt _ _ _ 0 3 = _
  rw [Ob.lexAt_succ, Ob.lexAt_succ, Ob.lexAt_succ, Ob.lexAt_zero]
  simp
/-- the last right's places, and its spot -/
def LastOk (N x y z last : Int) : Prop := (x = -1 ∧ y = -1 ∧ z = -1 ∧ last = -1) ∨ (0 ≤ x ∧ 0 ≤ y ∧ y < N ∧ 0 ≤ z ∧ z ≤ 1 ∧ last = (x * N + y) * 2 + z)
theorem le_spot {N a b c x y z last : Int} (h : LastOk N x y z last) (a0 : 0 ≤ a) (b0 : 0 ≤ b) (bN : b < N) (c0 : 0 ≤ c) (c1 : c ≤ 1) : leTup [a, b, c] [x, y, z] = !decide (last < (a * N + b) * 2 + c) := by
  rw [leTup3]
  rcases h with ⟨rfl, rfl, rfl, rfl⟩ | ⟨x0, y0, yN, z0, z1, rfl⟩
  · have : 0 ≤ a * N := Int.mul_nonneg a0 (by omega)
    rw [if_neg (by omega), decide_eq_false (by omega : ¬ a ≤ -1), decide_eq_true (by omega)]
    rfl
  · by_cases h1 : a = x
    · subst h1
      rw [if_pos rfl]
      by_cases h2 : b = y
      · subst h2
        rw [if_pos rfl]
        by_cases h3 : c = z
        · subst h3
          rw [if_pos rfl, decide_eq_false (by omega)]
          rfl
        · rw [if_neg h3, ← decide_not]
          exact decide_eq_decide.mpr (by omega)
      · rw [if_neg h2, ← decide_not]
        exact decide_eq_decide.mpr (by omega)
    · rw [if_neg h1, ← decide_not]
      refine decide_eq_decide.mpr ?_
      rcases Int.lt_or_le a x with q | q
      · have h4 : (a + 1) * N ≤ x * N := Int.mul_le_mul_of_nonneg_right (by omega) (by omega)
        rw [Int.add_mul] at h4
        omega
      · have h4 : (x + 1) * N ≤ a * N := Int.mul_le_mul_of_nonneg_right (by omega) (by omega)
        rw [Int.add_mul] at h4
        omega
theorem three_is {ds : List PyData} (h : decide ((ds.length : Int) = 3) = true) : ∃ a b c, ds = [a, b, c] := by
  have h := of_decide_eq_true h
  match ds, h with
  | [a, b, c], _ => exact ⟨a, b, c, rfl⟩
  | [], h => exact absurd h (by simp)
  | [_], h => exact absurd h (by simp)
  | [_, _], h => exact absurd h (by simp)
  | _ :: _ :: _ :: _ :: r, h =>
    simp only [List.length_cons] at h
    omega
theorem rightOk_len {ns ks ds : List PyData} (h : decide ((ds.length : Int) = 3) = false) : rightOk ns ks (.tuple ds) = false := by
  match ds with
  | [a, b, c] => cases h
  | [] => rfl
  | [_] => rfl
  | [_, _] => rfl
  | _ :: _ :: _ :: _ :: r => rfl
section
variable {K : PySem.W.Frag} {n : Nat} {Q : O → List O → Nat → Prop} {X : Addr → List O → Nat → Prop}
theorem k_right_fault {ns ks : List PyData} {d : PyData} {m : Nat} (hn : ∀ d ∈ ns, Sh d) (hk : ∀ d ∈ ks, Sh d) (t : Tame m d) (hm : m ≤ 1000) (h : ∀ r, OkR r (rightOk ns ks d) → Q (.dat r) [.lst ns, .lst ks, .dat d] n) : d_right_fault K [.lst ns, .lst ks, .dat d] n Q X := by
  unfold d_right_fault b_right_fault
  cases d with
  | tuple ds =>
    wtm_at "in"
    wtm_at "go"
    cases c0 : decide ((ds.length : Int) = 3) with
    | false =>
      wtm_at "go"
      exact h _ (.inr ⟨rightOk_len c0, _, rfl, by simp⟩)
    | true =>
      obtain ⟨k, w, s, rfl⟩ := three_is c0
      have eo : rightOk ns ks (.tuple [k, w, s]) = ((isName k && hasD ks k) && (isName w && hasD ns w) && isWhole s 0 1) := rfl
      have tk := t.item (d := k) (by simp)
      have tw := t.item (d := w) (by simp)
      wtm_at "go"
      refine k_is_name tk hm ?_
      cases c1 : isName k with
      | false =>
        wtm_at "go"
        refine h _ (.inr ⟨?_, _, rfl, by simp⟩)
        rw [eo, c1]
        rfl
      | true =>
        wtm_at "go"
        refine x_fNotIn (inL hk) ?_
        cases c2 : hasD ks k with
        | false =>
          wtm_at "go"
          refine h _ (.inr ⟨?_, _, rfl, by simp⟩)
          rw [eo, c1, c2]
          rfl
        | true =>
          wtm_at "go"
          refine k_is_name tw hm ?_
          cases c3 : isName w with
          | false =>
            wtm_at "go"
            refine h _ (.inr ⟨?_, _, rfl, by simp⟩)
            rw [eo, c1, c2, c3]
            rfl
          | true =>
            wtm_at "go"
            refine x_fNotIn (inL hn) ?_
            cases c4 : hasD ns w with
            | false =>
              wtm_at "go"
              refine h _ (.inr ⟨?_, _, rfl, by simp⟩)
              rw [eo, c1, c2, c3, c4]
              rfl
            | true =>
              wtm_at "go"
              refine k_is_whole ?_
              cases c5 : isWhole s 0 1 with
              | false =>
                wtm_at "go"
                refine h _ (.inr ⟨?_, _, rfl, by simp⟩)
                rw [eo, c1, c2, c3, c4, c5]
                rfl
              | true =>
                wtm_at "go"
                refine h _ (.inl ⟨?_, rfl⟩)
                rw [eo, c1, c2, c3, c4, c5]
                rfl
  | _ =>
    wtm_at "in"
    wtm_at "all"
    exact h _ (.inr ⟨rfl, _, rfl, by simp⟩)
theorem k_rights_fault {ns ks : List PyData} {d : PyData} {m : Nat} (hn : ∀ d ∈ ns, isName d = true) (hk : ∀ d ∈ ks, isName d = true) (t : Tame m d) (hm : m ≤ 1000) (h : ∀ r, OkF r (rightsOk ns ks d) → Q (.dat r) [.lst ns, .lst ks, .dat d] n) : d_rights_fault K [.lst ns, .lst ks, .dat d] n Q X := by
  have sn : ∀ d ∈ ns, Sh d := fun d hd => name_sh (hn d hd)
  have sk : ∀ d ∈ ks, Sh d := fun d hd => name_sh (hk d hd)
  unfold d_rights_fault b_rights_fault
  cases d with
  | tuple rs =>
    have hp : rightsOk ns ks (.tuple rs) = rightsGo ns ks (-1) rs := rfl
    wtm_at "in"
    wtm_at "go"
    refine x_forI (fun r s => ∃ j es x y z last u4 u5 u6 u7, r = enumD j es ∧ s = ⟨[some (.lst ns), some (.lst ks), some (.dat (.tuple rs)), some (.dat (.tuple [.int x, .int y, .int z])), u4, u5, u6, u7], n, [0, 1]⟩ ∧ LastOk (ns.length : Int) x y z last ∧ rightsGo ns ks (-1) rs = rightsGo ns ks last es ∧ ∀ d ∈ es, d ∈ rs) ?_ ?_ ⟨0, rs, -1, -1, -1, -1, none, none, none, none, rfl, rfl, .inl ⟨rfl, rfl, rfl, rfl⟩, rfl, fun _ z => z⟩
    · rintro p r s N ⟨j, es, x, y, z, last, u4, u5, u6, u7, er, rfl, hl, inv, hm'⟩ hN
      cases es with
      | nil => cases er
      | cons e es =>
        rw [enumD] at er
        obtain ⟨rfl, rfl⟩ := List.cons.inj er
        have te : Tame m e := t.item (hm' e List.mem_cons_self)
        wtm_at "go"
        refine k_right_fault sn sk te hm fun r hr => ?_
        wtm_at "bk"
        wtm_at "go"
        rcases hr with ⟨hb, rfl⟩ | ⟨hb, fs, rfl, hf⟩
        · have hb' := hb
          obtain ⟨k, w, i, rfl, k1, k2, w1, w2, i0, i1⟩ := rightOk_is hb'
          obtain ⟨zk, p1, p2, p3⟩ := pos_spec k2
          obtain ⟨zw, q1, q2, q3⟩ := pos_spec w2
          have wl := pos_lt w2
          wtm_at "go"
          refine x_indexK rfl (shL sk) (name_sh k1).sh p1 p2 p3 ?_
          wtm_at "go"
          refine x_indexK rfl (shL sn) (name_sh w1).sh q1 q2 q3 ?_
          wtm_at "go"
          rw [le_spot hl (by omega) (by omega) (by omega) i0 i1]
          have es' : spotOf ns ks (.tuple [k, w, .int i]) = (((posD ks k : Nat) : Int) * (ns.length : Int) + ((posD ns w : Nat) : Int)) * 2 + i := rfl
          cases c : decide (last < (((posD ks k : Nat) : Int) * (ns.length : Int) + ((posD ns w : Nat) : Int)) * 2 + i) with
          | false =>
            wtm_at "go"
            refine h _ (.inr ⟨?_, _, rfl⟩)
            rw [hp, inv, rightsGo, hb, es', c]
            rfl
          | true =>
            wtm_at "go"
            refine hN _ ⟨_, es, _, _, _, _, _, _, _, _, rfl, rfl, .inr ⟨by omega, by omega, by omega, i0, i1, rfl⟩, ?_, fun d hd => hm' d (List.mem_cons_of_mem _ hd)⟩
            rw [inv, rightsGo, hb, es', c]
            rfl
        · wtm_at "go"
          refine x_disl (by simp; omega) ?_
          wtm_at "go"
          refine h _ (.inr ⟨?_, _, rfl⟩)
          rw [hp, inv, rightsGo, hb]
          rfl
    · rintro s ⟨j, es, x, y, z, last, u4, u5, u6, u7, er, rfl, hl, inv, hm'⟩
      cases es with
      | cons e es => cases er
      | nil =>
        wtm_at "go"
        refine h _ (.inl ⟨?_, rfl⟩)
        rw [hp, inv]
        rfl
  | _ =>
    wtm_at "in"
    wtm_at "all"
    exact h _ (.inr ⟨rfl, _, rfl⟩)
end
end K77

/-! part Q7 -/
namespace K77
open PySem PySem.Spec PyProof.Rows L2 Evl Lk LamX Mk
/-! ### buildings -/
def its : PyData → List PyData
  | .tuple ds => ds
  | _ => []
def isWord : PyData → Bool
  | .str x => decide (x = "building")
  | _ => false
def housed : PyData → Bool
  | .tuple [w, a, b, c, e] => isWord w && (namesOk 2 6 a && (doorsOk (its a) b && (namesOk 1 3 c && rightsOk ((its b).map fst) (its c) e)))
  | _ => false
theorem five_is {ds : List PyData} (h : decide ((ds.length : Int) = 5) = true) : ∃ w a b c e, ds = [w, a, b, c, e] := by
  have h := of_decide_eq_true h
  match ds, h with
  | [w, a, b, c, e], _ => exact ⟨w, a, b, c, e, rfl⟩
  | [], h => exact absurd h (by simp)
  | [_], h => exact absurd h (by simp)
  | [_, _], h => exact absurd h (by simp)
  | [_, _, _], h => exact absurd h (by simp)
  | [_, _, _, _], h => exact absurd h (by simp)
  | _ :: _ :: _ :: _ :: _ :: _ :: r, h =>
    simp only [List.length_cons] at h
    omega
theorem housed_len {ds : List PyData} (h : decide ((ds.length : Int) = 5) = false) : housed (.tuple ds) = false := by
  match ds with
  | [w, a, b, c, e] => cases h
  | [] => rfl
  | [_] => rfl
  | [_, _] => rfl
  | [_, _, _] => rfl
  | [_, _, _, _] => rfl
  | _ :: _ :: _ :: _ :: _ :: _ :: r => rfl
theorem word_ok : PyData.strOk "building" = true := by decide +kernel
section
variable {K : PySem.W.Frag} {n : Nat} {Q : O → List O → Nat → Prop} {X : Addr → List O → Nat → Prop}
theorem k_fault_of {d : PyData} {m : Nat} (t : Tame m d) (hm : m ≤ 1000) (h : ∀ r, OkF r (housed d) → Q (.dat r) [.dat d] n) : d_fault_of K [.dat d] n Q X := by
  unfold d_fault_of b_fault_of
  cases d with
  | tuple ds =>
    wtm_at "in"
    wtm_at "go"
    cases c0 : decide ((ds.length : Int) = 5) with
    | false =>
      wtm_at "go"
      exact h _ (.inr ⟨housed_len c0, _, rfl⟩)
    | true =>
      obtain ⟨w, a, b, c, e, rfl⟩ := five_is c0
      have eo : housed (.tuple [w, a, b, c, e]) = (isWord w && (namesOk 2 6 a && (doorsOk (its a) b && (namesOk 1 3 c && rightsOk ((its b).map fst) (its c) e)))) := rfl
      have tw := t.item (d := w) (by simp)
      have ta := t.item (d := a) (by simp)
      have tb := t.item (d := b) (by simp)
      have tc := t.item (d := c) (by simp)
      have te := t.item (d := e) (by simp)
      wtm_at "go"
      cases w with
      | str x =>
        have hs := tw.tx.ok
        have hw := word_ok
        wtm_at "go"
        have ew : isWord (.str x) = decide (x = "building") := rfl
        cases c1 : decide (x = "building") with
        | false =>
          wtm_at "go"
          refine h _ (.inr ⟨?_, _, rfl⟩)
          rw [eo, ew, c1]
          rfl
        | true =>
          wtm_at "go"
          refine k_names_fault ta hm fun r hr => ?_
          rcases hr.f with ⟨hb, rfl⟩ | ⟨hb, fs, rfl⟩
          · obtain ⟨as, rfl, _, _, ga⟩ := namesOk_is hb
            have sa : ∀ d ∈ as, Sh d := fun d hd => name_sh (namesGo_all ga d hd)
            wtm_at "go"
            refine k_doors_fault sa tb hm fun r hr => ?_
            have ei : its (.tuple as) = as := rfl
            rcases hr with ⟨hb2, rfl⟩ | ⟨hb2, fs, rfl⟩
            · obtain ⟨bs, rfl, bl1, bl2, gb⟩ := doorsOk_is hb2
              have nb : ∀ d ∈ bs.map fst, isName d = true := namesGo_all (doorsGo_names gb)
              have fb := doorsGo_four gb
              wtm_at "go"
              refine k_names_fault tc hm fun r hr => ?_
              rcases hr.f with ⟨hb3, rfl⟩ | ⟨hb3, fs, rfl⟩
              · obtain ⟨cs, rfl, _, cl, gc⟩ := namesOk_is hb3
                have nc := namesGo_all gc
                wtm_at "go"
                refine x_lcL (fun _ => true) fst (by simp; omega) (fun d hd A B hA _ => ?_) ?_
                · obtain ⟨a, b, c, z, rfl⟩ := four_is (fb d hd)
                  wtm_at "go"
                  exact hA rfl
                rw [filter_true, List.nil_append]
                wtm_at "go"
                refine k_rights_fault nb nc te hm fun r hr => ?_
                have e1 : housed (.tuple [.str x, .tuple as, .tuple bs, .tuple cs, e]) = rightsOk (bs.map fst) cs e := by
                  rw [eo, ew, c1, hb, ei, hb2, hb3]
                  rfl
                wtm_at "go"
                exact h _ (e1 ▸ hr)
              · wtm_at "go"
                refine h _ (.inr ⟨?_, _, rfl⟩)
                rw [eo, hb3]
                simp
            · wtm_at "go"
              refine h _ (.inr ⟨?_, _, rfl⟩)
              rw [eo, ei, hb2]
              simp
          · wtm_at "go"
            refine h _ (.inr ⟨?_, _, rfl⟩)
            rw [eo, hb]
            simp
      | _ =>
        wtm_at "go"
        exact h _ (.inr ⟨rfl, _, rfl⟩)
  | _ =>
    wtm_at "in"
    wtm_at "all"
    exact h _ (.inr ⟨rfl, _, rfl⟩)
theorem k_is_building {d : PyData} {m : Nat} (t : Tame m d) (hm : m ≤ 1000) (h : Q (.dat (.bool (housed d))) [.dat d] n) : d_is_building K [.dat d] n Q X := by
  unfold d_is_building b_is_building
  wtm_at "in"
  wtm_at "go"
  refine k_fault_of t hm fun r hr => ?_
  wtm_at "go"
  refine x_fin h ?_
  rcases hr with ⟨hb, rfl⟩ | ⟨hb, fs, rfl⟩
  · rw [hb]; rfl
  · rw [hb]; rfl
theorem k_need_building {d : PyData} {m : Nat} (t : Tame m d) (hm : m ≤ 1000) (h : housed d = true → Q (.dat .none) [.dat d] n) (hx : housed d = false → X (He.ga K "BadBuilding") [.dat d] n) : d_need_building K [.dat d] n Q X := by
  unfold d_need_building b_need_building
  wtm_at "in"
  wtm_at "go"
  refine k_is_building t hm ?_
  cases c : housed d with
  | true =>
    wtm_at "go"
    exact h c
  | false =>
    wtm_at "go"
    exact hx c
theorem k__law_is_housed {d : PyData} {m : Nat} (t : Tame m d) (hm : m ≤ 1000) (hl : ∀ ds, d = .tuple ds → ∀ x ∈ ds, ∀ es, x = .tuple es → es.length < 60) (h : Q (.dat (.bool (housed d))) [.dat d] n) : d__law_is_housed K [.dat d] n Q X := by
  unfold d__law_is_housed b__law_is_housed
  cases d with
  | tuple ds =>
    wtm_at "in"
    wtm_at "go"
    cases c0 : decide ((ds.length : Int) = 5) with
    | false =>
      wtm_at "go"
      exact x_fin h (by rw [housed_len c0])
    | true =>
      obtain ⟨w, a, b, c, e, rfl⟩ := five_is c0
      have eo : housed (.tuple [w, a, b, c, e]) = (isWord w && (namesOk 2 6 a && (doorsOk (its a) b && (namesOk 1 3 c && rightsOk ((its b).map fst) (its c) e)))) := rfl
      have tw := t.item (d := w) (by simp)
      have ta := t.item (d := a) (by simp)
      have tb := t.item (d := b) (by simp)
      have tc := t.item (d := c) (by simp)
      have te := t.item (d := e) (by simp)
      have la : ∀ es, a = .tuple es → es.length ≤ 1000 := fun es q => by have := hl _ rfl a (by simp) es q; omega
      have lc : ∀ es, c = .tuple es → es.length ≤ 1000 := fun es q => by have := hl _ rfl c (by simp) es q; omega
      have le : ∀ es, e = .tuple es → es.length < 60 := fun es q => hl _ rfl e (by simp) es q
      wtm_at "go"
      cases w with
      | str x =>
        have hs := tw.tx.ok
        have hw := word_ok
        wtm_at "go"
        have ew : isWord (.str x) = decide (x = "building") := rfl
        cases c1 : decide (x = "building") with
        | false =>
          wtm_at "go"
          refine x_fin h ?_
          rw [eo, ew, c1]
          rfl
        | true =>
          wtm_at "go"
          refine k__law_are_named ta hm la ?_
          cases hb : namesOk 2 6 a with
          | false =>
            wtm_at "go"
            refine x_fin h ?_
            rw [eo, hb]
            simp
          | true =>
            obtain ⟨as, rfl, _, _, ga⟩ := namesOk_is hb
            have sa : ∀ d ∈ as, Sh d := fun d hd => name_sh (namesGo_all ga d hd)
            have ei : its (.tuple as) = as := rfl
            wtm_at "go"
            refine k__law_is_doored sa tb hm ?_
            cases hb2 : doorsOk as b with
            | false =>
              wtm_at "go"
              refine x_fin h ?_
              rw [eo, ei, hb2]
              simp
            | true =>
              obtain ⟨bs, rfl, bl1, bl2, gb⟩ := doorsOk_is hb2
              have nb : ∀ d ∈ bs.map fst, isName d = true := namesGo_all (doorsGo_names gb)
              have fb := doorsGo_four gb
              wtm_at "go"
              refine k__law_are_named tc hm lc ?_
              cases hb3 : namesOk 1 3 c with
              | false =>
                wtm_at "go"
                refine x_fin h ?_
                rw [eo, hb3]
                simp
              | true =>
                obtain ⟨cs, rfl, _, cl, gc⟩ := namesOk_is hb3
                have nc := namesGo_all gc
                have e1 : housed (.tuple [.str x, .tuple as, .tuple bs, .tuple cs, e]) = rightsOk (bs.map fst) cs e := by
                  rw [eo, ew, c1, hb, ei, hb2, hb3]
                  rfl
                rw [e1] at h
                wtm_at "go"
                refine x_forI (fun r s => ∃ seen u7 u8, cs = seen ++ r ∧ s = ⟨[some (.dat (.tuple [.str x, .tuple as, .tuple bs, .tuple cs, e])), some (.dat (.tuple as)), some (.dat (.tuple bs)), some (.dat (.tuple cs)), some (.dat e), some (.lst (everyD (bs.map fst) seen)), some (.lst []), u7, u8, none], n, []⟩) ?_ ?_ ⟨[], none, none, rfl, rfl⟩
                · rintro k r s N ⟨seen, u7, u8, ek, rfl⟩ hN
                  wtm_at "go"
                  refine x_forI (fun q s => ∃ past u8, bs = past ++ q ∧ s = ⟨[some (.dat (.tuple [.str x, .tuple as, .tuple bs, .tuple cs, e])), some (.dat (.tuple as)), some (.dat (.tuple bs)), some (.dat (.tuple cs)), some (.dat e), some (.lst (everyD (bs.map fst) seen ++ ofKind (past.map fst) k)), some (.lst []), some (.dat k), u8, none], n, []⟩) ?_ ?_ ⟨[], u8, rfl, ?_⟩
                  · rintro p q s M ⟨past, u8, ep, rfl⟩ hM
                    obtain ⟨p1, p2, p3, p4, rfl⟩ := four_is (fb p (by rw [ep]; simp))
                    wtm_at "go"
                    refine x_fAddL ?_ ?_
                    · have h1 : seen.length ≤ cs.length := by rw [ek, List.length_append]; omega
                      have h2 : past.length ≤ bs.length := by rw [ep, List.length_append]; omega
                      rw [List.length_append, every_len, kind_len, List.length_map, List.length_map]
                      have h3 : 2 * bs.length * seen.length ≤ 2 * 6 * 3 := Nat.mul_le_mul (by omega) (by omega)
                      simp only [List.length_cons, List.length_nil]
                      omega
                    wtm_at "go"
                    refine hM _ ⟨past ++ [.tuple [p1, p2, p3, p4]], some (O.dat (PyData.tuple [p1, p2, p3, p4])), by rw [ep]; simp, ?_⟩
                    have e2 : ofKind ((past ++ [PyData.tuple [p1, p2, p3, p4]]).map fst) k = ofKind (past.map fst) k ++ two k p1 := by
                      unfold ofKind
                      rw [List.map_append, List.flatMap_append]
                      rfl
                    rw [e2, ← List.append_assoc]
                    rfl
                  · rintro s ⟨past, u8, ep, rfl⟩
                    rw [List.append_nil] at ep
                    subst ep
                    refine hN _ ⟨seen ++ [k], some (O.dat k), u8, by rw [ek]; simp, ?_⟩
                    have e2 : everyD (bs.map fst) (seen ++ [k]) = everyD (bs.map fst) seen ++ ofKind (bs.map fst) k := by
                      unfold everyD
                      rw [List.flatMap_append]
                      simp
                    rw [e2]
                  · show _ = _
                    rw [show ofKind (([] : List PyData).map fst) k = [] from rfl, List.append_nil]
                · rintro s ⟨seen, u7, u8, ek, rfl⟩
                  rw [List.append_nil] at ek
                  subst ek
                  have se := every_sh nc nb
                  cases e with
                  | tuple rs =>
                    have hlr := le rs rfl
                    have hp : rightsOk (bs.map fst) cs (.tuple rs) = (rs.all (rightOk (bs.map fst) cs) && ascI (-1) (rs.map (spotOf (bs.map fst) cs))) := rightsGo_eq
                    wtm_at "go"
                    refine x_forI (fun r s => ∃ done u9, rs = done ++ r ∧ s = ⟨[some (.dat (.tuple [.str x, .tuple as, .tuple bs, .tuple cs, .tuple rs])), some (.dat (.tuple as)), some (.dat (.tuple bs)), some (.dat (.tuple cs)), some (.dat (.tuple rs)), some (.lst (everyD (bs.map fst) cs)), some (.lst ((done.map (spotOf (bs.map fst) cs)).map PyData.int)), u7, u8, u9], n, []⟩ ∧ ∀ d ∈ done, rightOk (bs.map fst) cs d = true) ?_ ?_ ⟨[], none, rfl, rfl, fun _ z => by cases z⟩
                    · rintro p r s N ⟨done, u9, er, rfl, hd⟩ hN
                      have no : rightOk (bs.map fst) cs p = false → Q (.dat (.bool false)) [.dat (.tuple [.str x, .tuple as, .tuple bs, .tuple cs, .tuple rs])] n := fun q => by
                        have hf : rightsOk (bs.map fst) cs (.tuple rs) = false := by
                          rw [hp, er, List.all_append, List.all_cons, q]
                          simp
                        rw [hf] at h
                        exact h
                      have tp : Tame m p := te.item (by rw [er]; simp)
                      cases p with
                      | tuple ps =>
                        wtm_at "go"
                        cases d0 : decide ((ps.length : Int) = 3) with
                        | false =>
                          wtm_at "go"
                          exact no (rightOk_len d0)
                        | true =>
                          obtain ⟨pk, pw, ps, rfl⟩ := three_is d0
                          have ei' := eo
                          wtm_at "go"
                          cases d1 : Lk.isBool ps with
                          | true =>
                            wtm_at "go"
                            refine no ?_
                            cases ps with
                            | bool b =>
                              show ((isName pk && hasD cs pk) && (isName pw && hasD _ pw) && false) = false
                              simp
                            | _ => cases d1
                          | false =>
                            wtm_at "go"
                            refine x_fNotIn (inL se) ?_
                            rw [every_ok nc nb d1]
                            cases d2 : rightOk (bs.map fst) cs (.tuple [pk, pw, ps]) with
                            | false =>
                              wtm_at "go"
                              exact no d2
                            | true =>
                              obtain ⟨k, w, i, eq, k1, k2, w1, w2, i0, i1⟩ := rightOk_is d2
                              cases eq
                              wtm_at "go"
                              have hh : hasD (everyD (bs.map fst) cs) (.tuple [pk, pw, .int i]) = true := by rw [every_ok nc nb rfl]; exact d2
                              obtain ⟨z, p1, p2, p3⟩ := pos_spec hh
                              have sp : SeqAt.shaped (.tuple [pk, pw, .int i]) = true := shT fun d hd => by
                                simp only [List.mem_cons, List.not_mem_nil, or_false] at hd
                                rcases hd with rfl | rfl | rfl
                                · exact name_sh k1
                                · exact name_sh w1
                                · exact .int
                              refine x_indexK rfl (shL se) sp p1 p2 p3 ?_
                              wtm_at "go"
                              refine x_append (by rw [List.length_map, List.length_map]; rw [er, List.length_append] at hlr; omega) ?_
                              wtm_at "go"
                              refine hN _ ⟨done ++ [PyData.tuple [pk, pw, .int i]], some (O.dat (PyData.tuple [pk, pw, .int i])), by rw [er]; simp, ?_, fun d hdd => ?_⟩
                              · rw [List.map_append, List.map_append, spot_pos k2 w2 i0 i1]
                                rfl
                              · rcases List.mem_append.mp hdd with hdd | hdd
                                · exact hd d hdd
                                · rw [List.mem_singleton.mp hdd]; exact d2
                      | _ =>
                        wtm_at "go"
                        exact no rfl
                    · rintro s ⟨done, u9, er, rfl, hd⟩
                      rw [List.append_nil] at er
                      subst er
                      wtm_at "go"
                      refine x_fSortI (by rw [List.length_map]; omega) fun out ho hm' => ?_
                      wtm_at "go"
                      refine x_fEq (shaped_intL (fun i => i) _) (shaped_intL (fun i => i) _) ?_
                      rw [eqd_ints]
                      wtm_at "go"
                      refine x_fin h ?_
                      rw [hp, show rs.all (rightOk (bs.map fst) cs) = true from List.all_eq_true.mpr hd, Bool.true_and]
                      congr 2
                      have hn : ∀ i ∈ rs.map (spotOf (bs.map fst) cs), -1 < i := fun i hi => by
                        obtain ⟨r, hr, rfl⟩ := List.mem_map.mp hi
                        have := spot_nn (hd r hr)
                        omega
                      cases ca : ascI (-1) (rs.map (spotOf (bs.map fst) cs)) with
                      | true =>
                        have := (asc_pair.mp ca).2
                        exact decide_eq_true (asc_eq this ho fun i => (hm' i).symm)
                      | false =>
                        refine decide_eq_false fun q => ?_
                        have : ascI (-1) (rs.map (spotOf (bs.map fst) cs)) = true := asc_pair.mpr ⟨hn, q ▸ ho⟩
                        rw [ca] at this
                        cases this
                  | _ =>
                    wtm_at "go"
                    exact h
      | _ =>
        wtm_at "go"
        exact h
  | _ =>
    wtm_at "in"
    wtm_at "all"
    exact h
end
end K77

/-! part Q8 -/
namespace K77
open PySem PySem.Spec PyProof.Rows L2 Evl Lk LamX Mk
/-! ### what is asked of a building -/
def doorsOf : PyData → List PyData
  | .tuple [_, _, b, _, _] => its b
  | _ => []
theorem housed_is {d : PyData} (h : housed d = true) : ∃ w as bs c e, d = .tuple [w, .tuple as, .tuple bs, c, e] ∧ (∀ x ∈ as, isName x = true) ∧ 2 ≤ as.length ∧ as.length ≤ 6 ∧ 1 ≤ bs.length ∧ bs.length ≤ 6 ∧ doorsGo as [] bs = true ∧ (∀ x ∈ bs, four x = true) ∧ (∀ x ∈ bs.map fst, isName x = true) := by
  match d, h with
  | .tuple [w, a, b, c, e], h =>
    have h' : (isWord w && (namesOk 2 6 a && (doorsOk (its a) b && (namesOk 1 3 c && rightsOk ((its b).map fst) (its c) e)))) = true := h
    simp only [Bool.and_eq_true] at h'
    obtain ⟨_, h1, h2, _, _⟩ := h'
    obtain ⟨as, rfl, a1, a2, ga⟩ := namesOk_is h1
    obtain ⟨bs, rfl, b1, b2, gb⟩ := doorsOk_is h2
    exact ⟨w, as, bs, c, e, rfl, namesGo_all ga, by omega, by omega, b1, b2, gb, doorsGo_four gb, namesGo_all (doorsGo_names gb)⟩
def doorIn (bs : List PyData) (d : PyData) : Bool := isName d && hasD (bs.map fst) d
def itemN (i : Nat) (d : PyData) : PyData := (its d).getD i .none
section
variable {K : PySem.W.Frag} {n : Nat} {Q : O → List O → Nat → Prop} {X : Addr → List O → Nat → Prop}
theorem k_need_side {d : PyData} (h : isWhole d 0 1 = true → Q (.dat .none) [.dat d] n) (hx : isWhole d 0 1 = false → X (He.ga K "BadSide") [.dat d] n) : d_need_side K [.dat d] n Q X := by
  unfold d_need_side b_need_side
  wtm_at "in"
  wtm_at "go"
  refine k_is_whole ?_
  cases c : isWhole d 0 1 with
  | true =>
    wtm_at "go"
    exact h c
  | false =>
    wtm_at "go"
    exact hx c
theorem k_need_door {w a c e d : PyData} {bs : List PyData} {m : Nat} (hb : ∀ x ∈ bs, four x = true) (hn : ∀ x ∈ bs.map fst, isName x = true) (hl : bs.length ≤ 6) (t : Tame m d) (hm : m ≤ 1000) (h : doorIn bs d = true → Q (.dat .none) [.dat (.tuple [w, a, .tuple bs, c, e]), .dat d] n) (hx : doorIn bs d = false → X (He.ga K "BadDoor") [.dat (.tuple [w, a, .tuple bs, c, e]), .dat d] n) : d_need_door K [.dat (.tuple [w, a, .tuple bs, c, e]), .dat d] n Q X := by
  unfold d_need_door b_need_door
  have sn : ∀ x ∈ bs.map fst, Sh x := fun x hx => name_sh (hn x hx)
  wtm_at "in"
  wtm_at "go"
  refine k_is_name t hm ?_
  cases c1 : isName d with
  | false =>
    wtm_at "go"
    refine hx ?_
    unfold doorIn
    rw [c1]; rfl
  | true =>
    wtm_at "go"
    refine x_lcL (fun _ => true) fst (by simp; omega) (fun d hd A B hA _ => ?_) ?_
    · obtain ⟨a, b, c, z, rfl⟩ := four_is (hb d hd)
      wtm_at "go"
      exact hA rfl
    rw [filter_true, List.nil_append]
    wtm_at "go"
    refine x_fNotIn (inL sn) ?_
    cases c2 : hasD (bs.map fst) d with
    | true =>
      wtm_at "go"
      refine h ?_
      unfold doorIn
      rw [c1, c2]; rfl
    | false =>
      wtm_at "go"
      refine hx ?_
      unfold doorIn
      rw [c2]; simp
theorem eqd_has {ds : List PyData} {d : PyData} (h : hasD ds d = true) : ∃ z ∈ ds, eqd z d = true := by
  unfold hasD at h
  rw [List.any_eq_true] at h
  exact h
theorem k_door_named {w a c e d : PyData} {bs : List PyData} (hb : ∀ x ∈ bs, four x = true) (hn : ∀ x ∈ bs.map fst, isName x = true) (hl : bs.length ≤ 6) (hd : doorIn bs d = true) (h : ∀ p ∈ bs, eqd (fst p) d = true → Q (.dat p) [.dat (.tuple [w, a, .tuple bs, c, e]), .dat d] n) : d_door_named K [.dat (.tuple [w, a, .tuple bs, c, e]), .dat d] n Q X := by
  unfold d_door_named b_door_named
  unfold doorIn at hd
  rw [Bool.and_eq_true] at hd
  have sd := (name_sh hd.1).sh
  obtain ⟨z, hz, ez⟩ := eqd_has hd.2
  obtain ⟨p0, hp0, rfl⟩ := List.mem_map.mp hz
  wtm_at "in"
  wtm_at "go"
  refine x_lcL (fun p => eqd (fst p) d) (fun p => p) (by simp; omega) (fun p hp A B hA hB => ?_) ?_
  · have nf := hn (fst p) (List.mem_map_of_mem hp)
    obtain ⟨x1, x2, x3, x4, rfl⟩ := four_is (hb p hp)
    have sf : SeqAt.shaped x1 = true := (name_sh nf).sh
    wtm_at "go"
    cases c : eqd x1 d with
    | true =>
      wtm_at "go"
      exact hA c
    | false =>
      wtm_at "go"
      exact hB c
  rw [List.nil_append, List.map_id']
  have hm : p0 ∈ bs.filter fun p => eqd (fst p) d := List.mem_filter.mpr ⟨hp0, ez⟩
  cases hf : bs.filter (fun p => eqd (fst p) d) with
  | nil => rw [hf] at hm; cases hm
  | cons p r =>
    have hp : p ∈ bs.filter fun p => eqd (fst p) d := by rw [hf]; simp
    obtain ⟨h1, h2⟩ := List.mem_filter.mp hp
    wtm_at "go"
    exact h p h1 h2
theorem k_area_at {b d s : PyData} {m : Nat} (t : Tame m b) (td : Tame m d) (hm : m ≤ 1000) (h0 : housed b = false → X (He.ga K "BadBuilding") [.dat b, .dat d, .dat s] n)
    (h1 : housed b = true → doorIn (doorsOf b) d = false → X (He.ga K "BadDoor") [.dat b, .dat d, .dat s] n) (h2 : housed b = true → doorIn (doorsOf b) d = true → isWhole s 0 1 = false → X (He.ga K "BadSide") [.dat b, .dat d, .dat s] n)
    (h3 : ∀ p ∈ doorsOf b, housed b = true → eqd (fst p) d = true → ∀ i : Nat, s = .int i → i ≤ 1 → Q (.dat (itemN (1 + i) p)) [.dat b, .dat d, .dat s] n) : d_area_at K [.dat b, .dat d, .dat s] n Q X := by
  unfold d_area_at b_area_at
  wtm_at "in"
  wtm_at "go"
  refine k_need_building t hm (fun hb => ?_) fun hb => ?_
  · have hb' := hb
    obtain ⟨w, as, bs, c, e, rfl, na, al1, al2, bl1, bl2, gb, fb, nb⟩ := housed_is hb'
    have ed : doorsOf (.tuple [w, .tuple as, .tuple bs, c, e]) = bs := rfl
    rw [ed] at h1 h2 h3
    wtm_at "go"
    refine k_need_door fb nb bl2 td hm (fun hd => ?_) fun hd => ?_
    · wtm_at "go"
      refine k_need_side (fun hs => ?_) fun hs => ?_
      · obtain ⟨i, rfl, i0, i1⟩ := isWhole_int hs
        wtm_at "go"
        refine k_door_named fb nb bl2 hd fun p hp he => ?_
        have hq := h3 p hp hb he i.toNat (by rw [show ((i.toNat : Nat) : Int) = i by omega]) (by omega)
        obtain ⟨x1, x2, x3, x4, rfl⟩ := four_is (fb p hp)
        rcases (show i = 0 ∨ i = 1 by omega) with rfl | rfl
        · wtm_at "go"
          exact hq
        · wtm_at "go"
          exact hq
      · wtm_at "go"
        exact h2 hb hd hs
    · wtm_at "go"
      exact h1 hb hd
  · wtm_at "go"
    exact h0 hb
/-! ### ways without a free door -/
theorem x_forE {g : MG} {b : MS} {k : SK} {s : S} (h : k.nx s) : mForL g b (enumD 0 []) s k := h
theorem x_for0 {g : MG} {b : MS} {k : SK} {s : S} (h : k.nx s) : mForL g b [] s k := h
theorem k_need_free {w a c e : PyData} {bs : List PyData} (hb : ∀ x ∈ bs, four x = true) (hl : bs.length ≤ 6) (h : Q (.dat .none) [.dat (.tuple [w, a, .tuple bs, c, e]), .dat (.list [])] n) : d_need_free K [.dat (.tuple [w, a, .tuple bs, c, e]), .dat (.list [])] n Q X := by
  unfold d_need_free b_need_free
  wtm_at "in"
  wtm_at "go"
  refine x_lcL (fun _ => true) fst (by simp; omega) (fun d hd A B hA _ => ?_) ?_
  · obtain ⟨a, b, c, z, rfl⟩ := four_is (hb d hd)
    wtm_at "go"
    exact hA rfl
  rw [filter_true, List.nil_append]
  wtm_at "go"
  refine x_forE ?_
  wtm_at "go"
  exact h
theorem k_steps {w a c e : PyData} {bs : List PyData} (hb : ∀ x ∈ bs, four x = true) (h : Q (.dat (.list [])) [.dat (.tuple [w, a, .tuple bs, c, e]), .dat (.list [])] n) : d_steps K [.dat (.tuple [w, a, .tuple bs, c, e]), .dat (.list [])] n Q X := by
  unfold d_steps b_steps
  wtm_at "in"
  wtm_at "go"
  refine x_forI (fun r s => ∃ u3 u4 u5 u6, s = ⟨[some (.dat (.tuple [w, a, .tuple bs, c, e])), some (.dat (.list [])), some (.lst []), u3, u4, u5, u6], n, []⟩ ∧ ∀ d ∈ r, four d = true) ?_ ?_ ⟨none, none, none, none, rfl, hb⟩
  · rintro p r s N ⟨u3, u4, u5, u6, rfl, hr⟩ hN
    obtain ⟨x1, x2, x3, x4, rfl⟩ := four_is (hr p List.mem_cons_self)
    wtm_at "go"
    refine x_fIn (b := false) rfl ?_
    wtm_at "go"
    exact hN _ ⟨_, _, _, _, rfl, fun d hd => hr d (List.mem_cons_of_mem _ hd)⟩
  · rintro s ⟨u3, u4, u5, u6, rfl, _⟩
    wtm_at "go"
    exact h
theorem k_come_to {w c e area : PyData} {as bs : List PyData} (hb : ∀ x ∈ bs, four x = true) (ha : isName area = true) (hal : as.length ≤ 6) (h : ∀ l : List PyData, (∀ x ∈ l, x ∈ as) → l.length ≤ 6 → Q (.lst l) [.dat (.tuple [w, .tuple as, .tuple bs, c, e]), .dat (.list []), .dat area, .dat (.list [])] n) : d_come_to K [.dat (.tuple [w, .tuple as, .tuple bs, c, e]), .dat (.list []), .dat area, .dat (.list [])] n Q X := by
  unfold d_come_to b_come_to
  wtm_at "in"
  wtm_at "go"
  refine x_whI (fun t s => ∃ j : Nat, t = 1 - j ∧ j ≤ 1 ∧ s = ⟨[some (.dat (.tuple [w, .tuple as, .tuple bs, c, e])), some (.dat (.list [])), some (.dat area), some (.dat (.list [])), some (.lst [area]), some (.dat (.int j)), none, none, none, none], n, []⟩) ?_ ⟨0, rfl, by omega, rfl⟩
  rintro t s N ⟨j, rfl, hj, rfl⟩ hN
  wtm_at "go"
  rcases (show j = 0 ∨ j = 1 by omega) with rfl | rfl
  · wtm_at "go"
    refine k_steps hb ?_
    wtm_at "go"
    refine x_for0 ?_
    wtm_at "go"
    exact hN 0 _ (by omega) ⟨1, rfl, by omega, rfl⟩
  · wtm_at "go"
    refine x_lcL (fun x => hasD [area] x) (fun x => x) (by simp; omega) (fun x hx A B hA hB => ?_) ?_
    · wtm_at "go"
      refine x_fIn (inL fun d hd => by rw [List.mem_singleton.mp hd]; exact name_sh ha) ?_
      cases c1 : hasD [area] x with
      | true =>
        wtm_at "go"
        exact hA c1
      | false =>
        wtm_at "go"
        exact hB c1
    rw [List.nil_append, List.map_id']
    wtm_at "go"
    exact h _ (fun x hx => (List.mem_filter.mp hx).1) (Nat.le_trans (List.length_filter_le _ _) hal)
theorem k_joined {b : PyData} {m : Nat} (t : Tame m b) (hm : m ≤ 1000) (h : housed b = true → ∀ l, Q (.dat (.list l)) [.dat b, .dat (.list [])] n) (hx : housed b = false → X (He.ga K "BadBuilding") [.dat b, .dat (.list [])] n) : d_joined K [.dat b, .dat (.list [])] n Q X := by
  unfold d_joined b_joined
  wtm_at "in"
  wtm_at "go"
  refine k_need_building t hm (fun hb => ?_) fun hb => ?_
  · have hb' := hb
    obtain ⟨w, as, bs, c, e, rfl, na, al1, al2, bl1, bl2, gb, fb, nb⟩ := housed_is hb'
    wtm_at "go"
    refine k_need_free fb bl2 ?_
    wtm_at "go"
    refine x_forI (fun r s => ∃ ls u3, s = ⟨[some (.dat (.tuple [w, .tuple as, .tuple bs, c, e])), some (.dat (.list [])), some (.lst ls), u3, none], n, []⟩ ∧ (∀ d ∈ ls, ∃ ps, d = .tuple ps ∧ ∀ x ∈ ps, isName x = true) ∧ (∀ x ∈ r, isName x = true) ∧ ls.length + r.length ≤ 6) ?_ ?_ ⟨[], none, rfl, (fun _ z => by cases z), na, by simp; omega⟩
    · rintro p r s N ⟨ls, u3, rfl, hls, hr, hlen⟩ hN
      have hr' : ∀ x ∈ r, isName x = true := fun x hx => hr x (List.mem_cons_of_mem _ hx)
      rw [List.length_cons] at hlen
      wtm_at "go"
      refine x_lcO (fun _ => true) (fun q => .bool (hasD (its q) p)) rfl (fun _ _ => List.not_mem_nil) (by decide) (by simp only [wipeE, List.set_cons_zero, List.set_cons_succ]; exact rfl) rfl (by omega) (fun q hq A B hA _ => ?_) ?_
      · obtain ⟨ps, rfl, hps⟩ := hls q hq
        wtm_at "go"
        refine x_fIn (inT fun d hd => name_sh (hps d hd)) ?_
        wtm_at "go"
        exact hA rfl
      rw [filter_true]
      wtm_at "go"
      refine x_fAny (bools_some _ _) ?_
      cases c1 : (ls.map fun q => hasD (its q) p).any id with
      | true =>
        wtm_at "go"
        exact hN _ ⟨ls, _, rfl, hls, hr', by omega⟩
      | false =>
        wtm_at "go"
        refine k_come_to fb (hr p List.mem_cons_self) al2 fun l hl hll => ?_
        wtm_at "go"
        refine x_append (by omega) ?_
        wtm_at "go"
        refine hN _ ⟨ls ++ [.tuple l], _, rfl, fun d hd => ?_, hr', by simp; omega⟩
        rcases List.mem_append.mp hd with hd | hd
        · exact hls d hd
        · rw [List.mem_singleton.mp hd]
          exact ⟨l, rfl, fun x hx => na x (hl x hx)⟩
    · rintro s ⟨ls, u3, rfl, _, _, _⟩
      wtm_at "go"
      exact h hb ls
  · wtm_at "go"
    exact hx hb
end
end K77

/-! part Q9 -/
namespace K77
open PySem PySem.Spec PyProof.Rows L2 Evl Lk LamX Mk
/-! ### draws: letters, names -/
theorem log2_len {k : Nat} (h : k ≤ 100000) : (k : Int).natAbs.log2 < 9000 := by
  have : (k : Int).natAbs < 2 ^ 20 := by
    have e : (k : Int).natAbs = k := rfl
    rw [e]; omega
  have := log2_of (c := 9000) this (by decide) (by decide)
  exact this
/-- a text of letters, so long -/
structure Lt (k : Nat) (x : Str) : Prop where
  a : ∀ c ∈ x.cps.toList, isLet c = true
  l : x.length = k
theorem Lt.tx {k m : Nat} {x : Str} (h : Lt k x) (l : k ≤ m) : Tx m x := ⟨fun c hc => let_ascii c (h.a c hc), by rw [h.l]; exact l⟩
theorem fold_sing : ∀ (cs : List Nat) (a : Array Nat), (cs.map fun c => (⟨#[c]⟩ : Str)).foldl (fun acc p => acc ++ (#[] : Array Nat) ++ p.cps) a = a ++ cs.toArray
  | [], a => by simp
  | c :: cs, a => by
    rw [List.map_cons, List.foldl_cons, fold_sing cs]
    apply Array.ext'
    simp
theorem join_sing (cs : List Nat) : Txt.join "" (cs.map fun c => (⟨#[c]⟩ : Str)) = ⟨cs.toArray⟩ := by
  have e0 : ("" : Str).cps = #[] := rfl
  show Builtin.Str.glued "" _ = _
  unfold Builtin.Str.glued
  rw [e0]
  cases cs with
  | nil => rfl
  | cons c cs =>
    rw [List.map_cons, List.drop_succ_cons, List.drop_zero, List.headD_cons, fold_sing]
    congr 1
    apply Array.ext'
    simp
theorem name_of {x : Str} {k : Nat} (h : Lt k x) (h1 : 1 ≤ k) (h8 : k ≤ 8) (hn : x ≠ "any") : isName (.str x) = true := by
  show (decide ((1 : Int) ≤ (x.length : Nat)) && decide (((x.length : Nat) : Int) ≤ 8) && !decide (x = "any") && x.cps.toList.all isLet) = true
  rw [h.l, decide_eq_true (by omega), decide_eq_true (by omega), decide_eq_false hn, List.all_eq_true.mpr h.a]
  rfl
theorem any_ok : PyData.strOk "any" = true := by decide +kernel
/-- as many as there are unlike ones within -/
theorem nodup_len {α : Type} : ∀ {l m : List α}, l.Nodup → (∀ x ∈ l, x ∈ m) → l.length ≤ m.length
  | [], m, _, _ => Nat.zero_le _
  | a :: l, m, h, hm => by
    rw [List.nodup_cons] at h
    obtain ⟨s, t, rfl⟩ := List.append_of_mem (hm a List.mem_cons_self)
    have := nodup_len (m := s ++ t) h.2 fun x hx => by
      have hx' := hm x (List.mem_cons_of_mem _ hx)
      rcases List.mem_append.mp hx' with q | q
      · exact List.mem_append.mpr (.inl q)
      · rcases List.mem_cons.mp q with rfl | q
        · exact (h.1 hx).elim
        · exact List.mem_append.mpr (.inr q)
    rw [List.length_append] at this
    rw [List.length_append, List.length_cons, List.length_cons]
    omega
theorem has_mem {ds : List PyData} {x : Str} (hs : ∀ d ∈ ds, isName d = true) (h : hasD ds (.str x) = true) : PyData.str x ∈ ds := by
  unfold hasD at h
  rw [List.any_eq_true] at h
  obtain ⟨z, hz, e⟩ := h
  obtain ⟨y, rfl⟩ := isName_str (hs z hz)
  have := eqv_str e
  rw [this]
  exact hz
def candC (b : Str) (c : Nat) : Str := b ++ (⟨#[c]⟩ : Str)
theorem app_cps {a b : Str} : (a ++ b).cps = a.cps ++ b.cps := rfl
theorem cand_inj {b : Str} {c c' : Nat} (h : candC b c = candC b c') : c = c' := by
  have e : (candC b c).cps.toList = (candC b c').cps.toList := by rw [h]
  unfold candC at e
  rw [app_cps, app_cps, Array.toList_append, Array.toList_append] at e
  have := List.append_cancel_left e
  exact (List.cons.inj this).1
theorem letters_nodup : letters.cps.toList.Nodup := by decide +kernel
theorem letters_len : letters.cps.toList.length = 26 := by decide +kernel
theorem cand_free {used : List PyData} {b : Str} (hs : ∀ d ∈ used, isName d = true) (hl : used.length ≤ 10) : ∃ c ∈ letters.cps.toList, hasD used (.str (candC b c)) = false ∧ candC b c ≠ "any" := by
  refine Classical.byContradiction fun hno => ?_
  have all : ∀ c ∈ letters.cps.toList, PyData.str (candC b c) ∈ PyData.str "any" :: used := fun c hc => by
    by_cases e : candC b c = "any"
    · rw [e]; exact List.mem_cons_self
    · cases q : hasD used (.str (candC b c)) with
      | true => exact List.mem_cons_of_mem _ (has_mem hs q)
      | false => exact (hno ⟨c, hc, q, e⟩).elim
  have nd : (letters.cps.toList.map fun c => PyData.str (candC b c)).Nodup := by
    unfold List.Nodup
    rw [List.pairwise_map]
    exact letters_nodup.imp fun h e => h (cand_inj (PyData.str.inj e))
  have := nodup_len nd fun x hx => by
    obtain ⟨c, hc, rfl⟩ := List.mem_map.mp hx
    exact all c hc
  rw [List.length_map, letters_len, List.length_cons] at this
  omega
theorem namesGo_app : ∀ (r seen : List PyData) (d : PyData), namesGo seen (r ++ [d]) = (namesGo seen r && (isName d && !hasD (seen ++ r) d))
  | [], seen, d => by
    rw [List.nil_append, namesGo, namesGo, namesGo, List.append_nil, Bool.and_true, Bool.true_and]
  | a :: r, seen, d => by
    rw [List.cons_append, namesGo, namesGo_app r, namesGo, List.append_assoc]
    show (isName a && !hasD seen a && (namesGo (seen ++ [a]) r && (isName d && !hasD (seen ++ ([a] ++ r)) d))) = (isName a && !hasD seen a && namesGo (seen ++ [a]) r && (isName d && !hasD (seen ++ a :: r) d))
    rw [List.singleton_append, Bool.and_assoc, Bool.and_assoc]
    cases isName a <;> cases hasD seen a <;> rfl
section
variable {K : PySem.W.Frag} {n : Nat} {Q : O → List O → Nat → Prop} {X : Addr → List O → Nat → Prop}
theorem k_draw {room : Int} (h0 : 0 < room) (hz : room.natAbs.log2 < 9000) (hn : n < far) (h : ∀ x, 0 ≤ x → x < room → Q (.dat (.int x)) [.st, .dat (.int room)] (n + 1)) : dDraw [.st, .dat (.int room)] n Q X := ⟨room, rfl, h0, hz, hn, h⟩
theorem k_pick_l {ds : List PyData} (h0 : 0 < ds.length) (hz : ds.length ≤ 100000) (hn : n < far) (h : ∀ d ∈ ds, Q (.dat d) [.st, .lst ds] (n + 1)) : d__law_pick K [.st, .lst ds] n Q X := by
  unfold d__law_pick b__law_pick
  wtm_at "in"
  wtm_at "go"
  refine k_draw (by omega) (log2_len hz) hn fun x x0 x1 => ?_
  wtm_at "bk"
  obtain ⟨j, rfl⟩ : ∃ j : Nat, x = (j : Int) := ⟨x.toNat, by omega⟩
  have hj : j < ds.length := by omega
  wtm_at "go"
  refine x_fIxL (d := ds[j]) (atI_nat (List.getElem?_eq_getElem hj)) ?_
  wtm_at "go"
  exact h _ (List.getElem_mem hj)
theorem k_pick_s {z : Str} (h0 : 0 < z.length) (hz : z.length ≤ 100000) (hn : n < far) (h : ∀ c ∈ z.cps.toList, Q (.dat (.str ⟨#[c]⟩)) [.st, .dat (.str z)] (n + 1)) : d__law_pick K [.st, .dat (.str z)] n Q X := by
  unfold d__law_pick b__law_pick
  wtm_at "in"
  wtm_at "go"
  refine k_draw (by omega) (log2_len hz) hn fun x x0 x1 => ?_
  wtm_at "bk"
  obtain ⟨j, rfl⟩ : ∃ j : Nat, x = (j : Int) := ⟨x.toNat, by omega⟩
  have hj : j < z.cps.toList.length := by
    rw [Array.length_toList]
    have : z.length = z.cps.size := rfl
    omega
  wtm_at "go"
  refine x_fIxS hz (atI_nat (List.getElem?_eq_getElem hj)) ?_
  wtm_at "go"
  exact h _ (List.getElem_mem hj)
theorem k__law_letters {k : Nat} (hk : k ≤ 10) (hn : n + k < far) (h : ∀ x, Lt k x → Q (.dat (.str x)) [.st, .dat (.int k)] (n + k)) : d__law_letters K [.st, .dat (.int k)] n Q X := by
  unfold d__law_letters b__law_letters
  wtm_at "in"
  wtm_at "go"
  refine x_lcI (fun r acc s => ∃ cs : List Nat, acc = (cs.map fun c => (⟨#[c]⟩ : Str)).map PyData.str ∧ (∀ c ∈ cs, isLet c = true) ∧ cs.length + r.length = k ∧ s = ⟨[some .st, some (.dat (.int k)), none], n + cs.length, [0]⟩) ?_ ?_ ⟨[], rfl, (fun _ z => by cases z), by simp [Mk.intsFrom], rfl⟩
  · rintro d r acc s A B ⟨cs, rfl, hc, hl, rfl⟩ hA hB
    rw [List.length_cons] at hl
    wtm_at "go"
    refine k_pick_s (by decide +kernel) (by decide +kernel) (by omega) fun c hcl => ?_
    wtm_at "bk"
    wtm_at "go"
    refine hA _ _ (by simp; omega) ⟨cs ++ [c], by simp, fun x hx => ?_, by simp; omega, ?_⟩
    · rcases List.mem_append.mp hx with hx | hx
      · exact hc x hx
      · rw [List.mem_singleton.mp hx]; exact decide_eq_true hcl
    · rw [List.length_append]
      rfl
  · rintro acc s ⟨cs, rfl, hc, hl, rfl⟩
    rw [List.length_nil] at hl
    wtm_at "go"
    refine x_fJoinL ?_ ?_
    · have e : ((cs.map fun c => (⟨#[c]⟩ : Str)).map (·.length)).sum = cs.length := by
        rw [List.map_map]
        clear hc hl
        induction cs with
        | nil => rfl
        | cons c cs ih => rw [List.map_cons, List.sum_cons, ih, List.length_cons]; show 1 + _ = _; omega
      rw [e, List.length_map]
      have : ("" : Str).length = 0 := rfl
      rw [this]
      omega
    rw [join_sing]
    wtm_at "go"
    have hk' : cs.length = k := by omega
    rw [hk']
    refine h _ ⟨by simpa using hc, ?_⟩
    show cs.toArray.size = k
    simp [hk']
theorem cut_mem {x : Str} {lo hi : Option Int} {c : Nat} (h : c ∈ (L2.cutS x lo hi).cps.toList) : c ∈ x.cps.toList := by
  unfold L2.cutS at h
  exact List.mem_of_mem_drop (List.mem_of_mem_take h)
theorem cut_len {x : Str} {lo hi : Option Int} : (L2.cutS x lo hi).length ≤ x.length := by
  show ((x.cps.toList.drop _).take _).toArray.size ≤ x.cps.size
  rw [List.size_toArray, List.length_take, List.length_drop, Array.length_toList]
  omega
theorem cut_seven {x : Str} : (L2.cutS x none (some 7)).length ≤ 7 := by
  show ((x.cps.toList.drop _).take (HT.sIx x.length x.length (some ((7 : Nat) : Int)) - HT.sIx x.length 0 none)).toArray.size ≤ 7
  rw [HT.sIx_nat, HT.sIx_none, List.size_toArray, List.length_take]
  omega
theorem cand_lt {k : Nat} {x : Str} {c : Nat} (h : Lt k x) (hc : c ∈ letters.cps.toList) : ∃ j, 1 ≤ j ∧ j ≤ 8 ∧ Lt j (candC (L2.cutS x none (some 7)) c) := by
  refine ⟨(L2.cutS x none (some 7)).length + 1, by omega, by have := cut_seven (x := x); omega, fun d hd => ?_, ?_⟩
  · unfold candC at hd
    rw [app_cps, Array.toList_append] at hd
    rcases List.mem_append.mp hd with hd | hd
    · exact h.a d (cut_mem hd)
    · rw [List.mem_singleton.mp hd]
      exact decide_eq_true hc
  · show (_ ++ #[c] : Array Nat).size = _
    rw [Array.size_append]
    rfl
theorem k__law_new {used : List PyData} (hs : ∀ d ∈ used, isName d = true) (hl : used.length ≤ 10) (hn : n + 10 < far) (h : ∀ x k, isName (.str x) = true → hasD used (.str x) = false → n ≤ k → k ≤ n + 10 → Q (.dat (.str x)) [.st, .lst used] k) : d__law_new K [.st, .lst used] n Q X := by
  unfold d__law_new b__law_new
  have su : ∀ d ∈ used, Sh d := fun d hd => name_sh (hs d hd)
  wtm_at "in"
  wtm_at "go"
  refine k_pick_l (by simp) (by simp) (by omega) fun d hd => ?_
  wtm_at "bk"
  obtain ⟨k, rfl, k1, k8⟩ : ∃ k : Nat, d = .int k ∧ 1 ≤ k ∧ k ≤ 8 := by
    simp only [List.mem_cons, List.not_mem_nil, or_false] at hd
    rcases hd with rfl | rfl | rfl | rfl | rfl
    · exact ⟨1, rfl, by omega, by omega⟩
    · exact ⟨2, rfl, by omega, by omega⟩
    · exact ⟨8, rfl, by omega, by omega⟩
    · exact ⟨3, rfl, by omega, by omega⟩
    · exact ⟨7, rfl, by omega, by omega⟩
  wtm_at "go"
  refine k__law_letters (by omega) (by omega) fun x hx => ?_
  wtm_at "bk"
  have hxl := hx.l
  wtm_at "go"
  refine x_lcA (l := letters.cps.toList) (fun c : Nat => PyData.str ⟨#[c]⟩) (fun c : Nat => PyData.str (candC (L2.cutS x none (some 7)) c)) (by decide +kernel) (fun c hc A hA => ?_) ?_
  · wtm_at "go"
    refine x_fSlS (by omega) ?_
    wtm_at "go"
    refine x_fAddS (by have := cut_len (x := x) (lo := none) (hi := some 7); show _ + 1 ≤ _; omega) ?_
    wtm_at "go"
    exact hA
  wtm_at "go"
  refine x_fAddL (by simp; decide +kernel) ?_
  have hall : ∀ d ∈ [PyData.str x] ++ letters.cps.toList.map (fun c : Nat => PyData.str (candC (L2.cutS x none (some 7)) c)), ∃ j y, 1 ≤ j ∧ j ≤ 8 ∧ d = .str y ∧ Lt j y := fun d hd => by
    rcases List.mem_append.mp hd with hd | hd
    · rw [List.mem_singleton.mp hd]
      exact ⟨k, x, k1, k8, rfl, hx⟩
    · obtain ⟨c, hc, rfl⟩ := List.mem_map.mp hd
      obtain ⟨j, j1, j8, hj⟩ := cand_lt hx hc
      exact ⟨j, _, j1, j8, rfl, hj⟩
  obtain ⟨c0, hc0, f1, f2⟩ := cand_free (b := L2.cutS x none (some 7)) hs hl
  have hmem : PyData.str (candC (L2.cutS x none (some 7)) c0) ∈ [PyData.str x] ++ letters.cps.toList.map (fun c : Nat => PyData.str (candC (L2.cutS x none (some 7)) c)) := List.mem_append.mpr (.inr (List.mem_map_of_mem (f := fun c : Nat => PyData.str (candC (L2.cutS x none (some 7)) c)) hc0))
  have hlen : ([PyData.str x] ++ letters.cps.toList.map (fun c : Nat => PyData.str (candC (L2.cutS x none (some 7)) c))).length ≤ 27 := by
    rw [List.length_append, List.length_map, letters_len]
    exact Nat.le_refl _
  generalize [PyData.str x] ++ letters.cps.toList.map (fun c : Nat => PyData.str (candC (L2.cutS x none (some 7)) c)) = cand at hall hmem hlen
  wtm_at "go"
  refine x_lcL (fun d => !hasD used d && !eqd d (.str "any")) (fun d => d) (by simp; omega) (fun d hd A B hA hB => ?_) ?_
  · obtain ⟨j, y, j1, j8, rfl, hy⟩ := hall d hd
    have hok := (hy.tx (m := 8) j8).ok
    have hao := any_ok
    wtm_at "go"
    refine x_fNotIn (inL su) ?_
    rw [eqd_str] at hA hB
    cases c1 : hasD used (.str y) with
    | true =>
      wtm_at "go"
      exact hB (by rw [c1]; rfl)
    | false =>
      wtm_at "go"
      cases c2 : decide (y = "any") with
      | true =>
        wtm_at "go"
        exact hB (by rw [c2]; simp)
      | false =>
        wtm_at "go"
        exact hA (by rw [c1, c2]; rfl)
  rw [List.nil_append, List.map_id']
  have hm' : PyData.str (candC (L2.cutS x none (some 7)) c0) ∈ cand.filter fun d => !hasD used d && !eqd d (.str "any") := List.mem_filter.mpr ⟨hmem, by rw [f1, eqd_str, decide_eq_false f2]; rfl⟩
  cases hf : cand.filter (fun d => !hasD used d && !eqd d (.str "any")) with
  | nil => rw [hf] at hm'; cases hm'
  | cons p r =>
    have hp : p ∈ cand.filter fun d => !hasD used d && !eqd d (.str "any") := by rw [hf]; simp
    obtain ⟨h1, h2⟩ := List.mem_filter.mp hp
    obtain ⟨j, y, j1, j8, rfl, hy⟩ := hall p h1
    rw [eqd_str, Bool.and_eq_true, Bool.not_eq_true', Bool.not_eq_true', decide_eq_false_iff_not] at h2
    wtm_at "go"
    exact h y _ (name_of hy j1 j8 h2.2) h2.1 (by omega) (by omega)
theorem k__law_names {k : Nat} (hk : k ≤ 6) (hn : n + 60 < far) (h : ∀ l j, l.length = k → namesGo [] l = true → n ≤ j → j ≤ n + 60 → Q (.dat (.list l)) [.st, .dat (.int k)] j) : d__law_names K [.st, .dat (.int k)] n Q X := by
  unfold d__law_names b__law_names
  wtm_at "in"
  wtm_at "go"
  refine x_forI (fun r s => ∃ l j u, s = ⟨[some .st, some (.dat (.int k)), some (.lst l), u], j, [0]⟩ ∧ l.length + r.length = k ∧ namesGo [] l = true ∧ n ≤ j ∧ j ≤ n + 10 * l.length) ?_ ?_ ⟨[], n, none, rfl, by simp [Mk.intsFrom], rfl, by omega, by simp⟩
  · rintro d r s N ⟨l, j, u, rfl, hl, hg, j1, j2⟩ hN
    rw [List.length_cons] at hl
    wtm_at "go"
    refine k__law_new (namesGo_all hg) (by omega) (by omega) fun x m hx hu m1 m2 => ?_
    wtm_at "bk"
    wtm_at "go"
    refine x_append (by omega) ?_
    wtm_at "go"
    refine hN _ ⟨l ++ [.str x], m, _, rfl, by simp; omega, ?_, by omega, by simp; omega⟩
    rw [namesGo_app, hg, hx, List.nil_append, hu]
    rfl
  · rintro s ⟨l, j, u, rfl, hl, hg, j1, j2⟩
    rw [List.length_nil] at hl
    wtm_at "go"
    exact h l j (by omega) hg j1 (by omega)
end
end K77

/-! part Q10 -/
namespace K77
open PySem PySem.Spec PyProof.Rows L2 Evl Lk LamX Mk
/-! ### what may be bent: texts so long, tuples so long, so deep -/
inductive Bd (N m : Nat) : Nat → PyData → Prop
  | leaf {k : Nat} {d : PyData} : Tame m d → Lk.isTup d = false → Bd N m k d
  | nil {k : Nat} : Bd N m k (.tuple [])
  | tup {k : Nat} {ds : List PyData} : ds.length ≤ N → (∀ d ∈ ds, Bd N m k d) → Bd N m (k + 1) (.tuple ds)
theorem Bd.tame {N m k : Nat} {d : PyData} (h : Bd N m k d) : Tame m d := by
  induction h with
  | leaf t _ => exact t
  | nil => exact .tup fun _ z => by cases z
  | tup _ _ ih => exact .tup ih
theorem Bd.mono {N m k N' m' k' : Nat} {d : PyData} (h : Bd N m k d) (hN : N ≤ N') (hm : m ≤ m') (hk : k ≤ k') : Bd N' m' k' d := by
  induction h generalizing k' with
  | leaf t q => exact .leaf (t.mono hm) q
  | nil => exact .nil
  | tup l _ ih =>
    obtain ⟨j, rfl⟩ : ∃ j, k' = j + 1 := ⟨k' - 1, by omega⟩
    exact .tup (by omega) fun d hd => ih d hd (by omega)
theorem Bd.str {N m k : Nat} {x : Str} (h : Tx m x) : Bd N m k (.str x) := .leaf (.str h) rfl
theorem Bd.int {N m k : Nat} {i : Int} : Bd N m k (.int i) := .leaf .int rfl
theorem Bd.name {N m k : Nat} {d : PyData} (h : isName d = true) (hm : 8 ≤ m) : Bd N m k d := by
  obtain ⟨x, rfl⟩ := isName_str h
  exact .str ((name_tx h).mono hm)
/-! ### distinct names -/
theorem names_distinct : ∀ {r seen : List PyData}, namesGo seen r = true → r.Pairwise (fun a b => PyData.eqv a b = false) ∧ ∀ s ∈ seen, ∀ d ∈ r, PyData.eqv s d = false
  | [], _, _ => ⟨.nil, fun _ _ _ z => by cases z⟩
  | a :: r, seen, h => by
    rw [namesGo, Bool.and_eq_true, Bool.and_eq_true, Bool.not_eq_true'] at h
    obtain ⟨⟨_, h1⟩, h2⟩ := h
    obtain ⟨p, q⟩ := names_distinct h2
    refine ⟨List.pairwise_cons.mpr ⟨fun b hb => q a (by simp) b hb, p⟩, fun s hs d hd => ?_⟩
    rcases List.mem_cons.mp hd with rfl | hd
    · unfold hasD at h1
      rw [List.any_eq_false] at h1
      exact Bool.not_eq_true _ ▸ h1 s hs
    · exact q s (List.mem_append.mpr (.inl hs)) d hd
theorem pos_asc : ∀ {ks : List PyData}, (∀ d ∈ ks, isName d = true) → ks.Pairwise (fun a b => PyData.eqv a b = false) → ks.Pairwise fun a b => posD ks a < posD ks b
  | [], _, _ => .nil
  | z :: zs, hn, h => by
    rw [List.pairwise_cons] at h
    have ih := pos_asc (fun d hd => hn d (List.mem_cons_of_mem _ hd)) h.2
    have e0 : posD (z :: zs) z = 0 := by
      obtain ⟨x, rfl⟩ := isName_str (hn z List.mem_cons_self)
      rw [posD, if_pos]
      rw [PyData.eqv]
      simp
    have e1 : ∀ b ∈ zs, posD (z :: zs) b = posD zs b + 1 := fun b hb => by rw [posD, h.1 b hb]; rfl
    refine List.pairwise_cons.mpr ⟨fun b hb => by rw [e0, e1 b hb]; omega, ?_⟩
    refine List.Pairwise.imp_of_mem (fun ha hb q => ?_) ih
    rw [e1 _ ha, e1 _ hb]
    omega
theorem mem_has {ds : List PyData} {d : PyData} (hn : isName d = true) (h : d ∈ ds) : hasD ds d = true := by
  unfold hasD
  rw [List.any_eq_true]
  refine ⟨d, h, ?_⟩
  obtain ⟨x, rfl⟩ := isName_str hn
  rw [PyData.eqv]
  simp
theorem spot_two {ns ks : List PyData} {k w r : PyData} (h : r ∈ two k w) : ∃ i : Int, 0 ≤ i ∧ i ≤ 1 ∧ spotOf ns ks r = (((posD ks k : Nat) : Int) * (ns.length : Int) + ((posD ns w : Nat) : Int)) * 2 + i := by
  unfold two at h
  simp only [List.mem_cons, List.not_mem_nil, or_false] at h
  rcases h with rfl | rfl
  · exact ⟨0, by omega, by omega, rfl⟩
  · exact ⟨1, by omega, by omega, rfl⟩
theorem every_asc {ns ks : List PyData} (hn : ∀ d ∈ ns, isName d = true) (hk : ∀ d ∈ ks, isName d = true) (dn : ns.Pairwise fun a b => PyData.eqv a b = false) (dk : ks.Pairwise fun a b => PyData.eqv a b = false) :
    (everyD ns ks).Pairwise fun r r' => spotOf ns ks r < spotOf ns ks r' := by
  unfold everyD
  rw [List.pairwise_flatMap]
  refine ⟨fun k hk1 => ?_, ?_⟩
  · unfold ofKind
    rw [List.pairwise_flatMap]
    refine ⟨fun w hw => ?_, ?_⟩
    · unfold two
      refine List.pairwise_cons.mpr ⟨fun b hb => ?_, List.pairwise_cons.mpr ⟨fun _ z => (by cases z), .nil⟩⟩
      rw [List.mem_singleton.mp hb]
      show (((posD ks k : Nat) : Int) * (ns.length : Int) + ((posD ns w : Nat) : Int)) * 2 + 0 < (((posD ks k : Nat) : Int) * (ns.length : Int) + ((posD ns w : Nat) : Int)) * 2 + 1
      omega
    · refine (pos_asc hn dn).imp fun q r hr r' hr' => ?_
      obtain ⟨i, i0, i1, e⟩ := spot_two (ns := ns) (ks := ks) hr
      obtain ⟨i', i0', i1', e'⟩ := spot_two (ns := ns) (ks := ks) hr'
      rw [e, e']
      omega
  · refine (pos_asc hk dk).imp fun {k k'} q r hr r' hr' => ?_
    obtain ⟨w, hw, hr⟩ := List.mem_flatMap.mp hr
    obtain ⟨w', hw', hr'⟩ := List.mem_flatMap.mp hr'
    obtain ⟨i, i0, i1, e⟩ := spot_two (ns := ns) (ks := ks) hr
    obtain ⟨i', i0', i1', e'⟩ := spot_two (ns := ns) (ks := ks) hr'
    rw [e, e']
    have wl := pos_lt (mem_has (hn w hw) hw)
    have h4 : ((posD ks k : Nat) + 1 : Int) * (ns.length : Int) ≤ ((posD ks k' : Nat) : Int) * (ns.length : Int) := Int.mul_le_mul_of_nonneg_right (by omega) (by omega)
    rw [Int.add_mul] at h4
    omega
theorem rights_sub {ns ks rs : List PyData} (hn : ∀ d ∈ ns, isName d = true) (hk : ∀ d ∈ ks, isName d = true) (dn : ns.Pairwise fun a b => PyData.eqv a b = false) (dk : ks.Pairwise fun a b => PyData.eqv a b = false) (h : rs.Sublist (everyD ns ks)) : rightsOk ns ks (.tuple rs) = true := by
  show rightsGo ns ks (-1) rs = true
  have ok : ∀ r ∈ rs, rightOk ns ks r = true := fun r hr => by
    obtain ⟨k, hk1, hr⟩ := List.mem_flatMap.mp (h.subset hr)
    obtain ⟨w, hw1, hr⟩ := List.mem_flatMap.mp hr
    have one : ∀ i : Int, 0 ≤ i → i ≤ 1 → rightOk ns ks (.tuple [k, w, .int i]) = true := fun i i0 i1 => by
      show ((isName k && hasD ks k) && (isName w && hasD ns w) && (decide (0 ≤ i) && decide (i ≤ 1))) = true
      rw [hk k hk1, mem_has (hk k hk1) hk1, hn w hw1, mem_has (hn w hw1) hw1, decide_eq_true i0, decide_eq_true i1]
      rfl
    unfold two at hr
    simp only [List.mem_cons, List.not_mem_nil, or_false] at hr
    rcases hr with rfl | rfl
    · exact one 0 (by omega) (by omega)
    · exact one 1 (by omega) (by omega)
  rw [rightsGo_eq, List.all_eq_true.mpr ok, Bool.true_and, asc_pair]
  refine ⟨fun i hi => ?_, ?_⟩
  · obtain ⟨r, hr, rfl⟩ := List.mem_map.mp hi
    have := spot_nn (ok r hr)
    omega
  · rw [List.pairwise_map]
    exact (every_asc hn hk dn dk).sublist h
theorem right_bd {ns ks rs : List PyData} {N m k : Nat} (hn : ∀ d ∈ ns, isName d = true) (hk : ∀ d ∈ ks, isName d = true) (h : rs.Sublist (everyD ns ks)) (h3 : 3 ≤ N) (hm : 8 ≤ m) : ∀ r ∈ rs, Bd N m (k + 1) r := fun r hr => by
  obtain ⟨k, hk1, hr⟩ := List.mem_flatMap.mp (h.subset hr)
  obtain ⟨w, hw1, hr⟩ := List.mem_flatMap.mp hr
  unfold two at hr
  simp only [List.mem_cons, List.not_mem_nil, or_false] at hr
  rcases hr with rfl | rfl
  all_goals
    refine .tup h3 fun d hd => ?_
    simp only [List.mem_cons, List.not_mem_nil, or_false] at hd
    rcases hd with rfl | rfl | rfl
    · exact .name (hk _ hk1) hm
    · exact .name (hn _ hw1) hm
    · exact .int
theorem other_mod {a x l : Int} (a0 : 0 ≤ a) (al : a < l) (x0 : 0 ≤ x) (xl : x < l - 1) : 0 ≤ (a + 1 + x) % l ∧ (a + 1 + x) % l < l ∧ (a + 1 + x) % l ≠ a := by
  rcases Int.lt_or_le (a + 1 + x) l with q | q
  · rw [Int.emod_eq_of_lt (by omega) q]
    omega
  · have e : (a + 1 + x) % l = (a + 1 + x - l) % l := by rw [Int.sub_emod_right]
    rw [e, Int.emod_eq_of_lt (by omega) (by omega)]
    omega
theorem getD_mem {ds : List PyData} {i : Nat} (h : i < ds.length) : ds.getD i .none ∈ ds := by
  rw [List.getD_eq_getElem?_getD, List.getElem?_eq_getElem h]
  exact List.getElem_mem h
theorem getD_ne {as : List PyData} {i j : Nat} (hn : ∀ d ∈ as, isName d = true) (dn : as.Pairwise fun a b => PyData.eqv a b = false) (hi : i < as.length) (hj : j < as.length) (h : i ≠ j) : eqd (as.getD i .none) (as.getD j .none) = false := by
  have key : ∀ {i j : Nat}, i < j → j < as.length → eqd (as.getD i .none) (as.getD j .none) = false := fun {i j} h hj => by
    have := (List.pairwise_iff_getElem.mp dn) i j (by omega) hj h
    rw [List.getD_eq_getElem?_getD, List.getD_eq_getElem?_getD, List.getElem?_eq_getElem hj, List.getElem?_eq_getElem (by omega : i < as.length)]
    exact this
  rcases Nat.lt_or_gt_of_ne h with q | q
  · exact key q hj
  · rw [eqd_names (hn _ (getD_mem hi)) (hn _ (getD_mem hj))]
    exact key q hi
/-- a door that was drawn -/
def DoorD (as : List PyData) (d : PyData) : Prop := four d = true ∧ restOk as d = true ∧ ∀ N m k : Nat, 4 ≤ N → 8 ≤ m → isName (fst d) = true → Bd N m (k + 1) d
theorem doorD_mk {as : List PyData} {a b c : PyData} {e : Str} (hb : isName b = true) (hb' : b ∈ as) (hc : isName c = true) (hc' : c ∈ as) (hcb : eqd c b = false) (he : e = "leaf" ∨ e = "gate") : DoorD as (.tuple [a, b, c, .str e]) := by
  have se : isSort (.str e) = true ∧ Tx 4 e := by
    rcases he with rfl | rfl
    · exact ⟨by decide +kernel, by decide +kernel, by decide +kernel⟩
    · exact ⟨by decide +kernel, by decide +kernel, by decide +kernel⟩
  refine ⟨rfl, ?_, fun N m k hN hm hf => .tup hN fun d hd => ?_⟩
  · show ((isName b && hasD as b) && (isName c && hasD as c && !eqd c b) && isSort (.str e)) = true
    rw [hb, mem_has hb hb', hc, mem_has hc hc', hcb, se.1]
    rfl
  · simp only [List.mem_cons, List.not_mem_nil, or_false] at hd
    rcases hd with rfl | rfl | rfl | rfl
    · exact .name hf hm
    · exact .name hb hm
    · exact .name hc hm
    · exact .str (se.2.mono (by omega))
end K77

/-! part Q11 -/
namespace K77
open PySem PySem.Spec PyProof.Rows L2 Evl Lk LamX Mk
theorem namesOk_mk {lo hi : Int} {ds : List PyData} (h1 : lo ≤ ds.length) (h2 : (ds.length : Int) ≤ hi) (h : namesGo [] ds = true) : namesOk lo hi (.tuple ds) = true := by
  show (decide (lo ≤ (ds.length : Int)) && decide ((ds.length : Int) ≤ hi) && namesGo [] ds) = true
  rw [decide_eq_true h1, decide_eq_true h2, h]
  rfl
theorem house_mk {as ks ds rs : List PyData} (ga : namesGo [] as = true) (a2 : 2 ≤ as.length) (a6 : as.length ≤ 6) (gk : namesGo [] ks = true) (k1 : 1 ≤ ks.length) (k3 : ks.length ≤ 3) (d1 : 1 ≤ ds.length) (d6 : ds.length ≤ 6) (gd : namesGo [] (ds.map fst) = true) (hd : ∀ d ∈ ds, DoorD as d) (hr : rs.Sublist (everyD (ds.map fst) ks)) :
    housed (.tuple [.str "building", .tuple as, .tuple ds, .tuple ks, .tuple rs]) = true ∧ Bd 36 9 3 (.tuple [.str "building", .tuple as, .tuple ds, .tuple ks, .tuple rs]) := by
  have nd := namesGo_all gd
  have nk := namesGo_all gk
  have nn : ∀ d ∈ ds, isName (fst d) = true := fun d h => nd _ (List.mem_map_of_mem h)
  have hdo : doorsOk as (.tuple ds) = true := by
    show (decide ((1 : Int) ≤ (ds.length : Int)) && decide ((ds.length : Int) ≤ 6) && doorsGo as [] ds) = true
    rw [decide_eq_true (by omega), decide_eq_true (by omega), doorsGo_eq, gd, List.all_eq_true.mpr fun d h => (hd d h).1, List.all_eq_true.mpr fun d h => (hd d h).2.1]
    rfl
  have hro := rights_sub nd nk (names_distinct gd).1 (names_distinct gk).1 hr
  refine ⟨?_, ?_⟩
  · show (isWord (.str "building") && (namesOk 2 6 (.tuple as) && (doorsOk as (.tuple ds) && (namesOk 1 3 (.tuple ks) && rightsOk (ds.map fst) ks (.tuple rs))))) = true
    rw [namesOk_mk (by omega) (by omega) ga, hdo, namesOk_mk (by omega) (by omega) gk, hro]
    decide +kernel
  · have rl : rs.length ≤ 36 := by
      have h1 := hr.length_le
      rw [every_len, List.length_map] at h1
      have h3 : 2 * ds.length * ks.length ≤ 2 * 6 * 3 := Nat.mul_le_mul (by omega) (by omega)
      omega
    refine .tup (by simp) fun d hd' => ?_
    simp only [List.mem_cons, List.not_mem_nil, or_false] at hd'
    rcases hd' with rfl | rfl | rfl | rfl | rfl
    · exact .str ⟨by decide +kernel, by decide +kernel⟩
    · exact .tup (by omega) fun d h => .name (namesGo_all ga d h) (by omega)
    · exact .tup (by omega) fun d h => (hd d h).2.2 36 9 0 (by omega) (by omega) (nn d h)
    · exact .tup (by omega) fun d h => .name (nk d h) (by omega)
    · exact .tup rl (right_bd nd nk hr (by omega) (by omega))
section
variable {K : PySem.W.Frag} {n : Nat} {Q : O → List O → Nat → Prop} {X : Addr → List O → Nat → Prop}
theorem k__law_house (hn : n + 400 < far) (h : ∀ b k, housed b = true → Bd 36 9 3 b → n ≤ k → k ≤ n + 400 → Q (.dat b) [.st] k) : d__law_house K [.st] n Q X := by
  unfold d__law_house b__law_house
  wtm_at "in"
  wtm_at "go"
  refine k_draw (by omega) (by decide +kernel) (by omega) fun x x0 x1 => ?_
  wtm_at "bk"
  wtm_at "go"
  obtain ⟨na, ea⟩ : ∃ j : Nat, 2 + x = (j : Int) := ⟨(2 + x).toNat, by omega⟩
  rw [ea]
  refine k__law_names (by omega) (by omega) fun as j1 al ga l1 l2 => ?_
  wtm_at "bk"
  wtm_at "go"
  refine k_draw (by omega) (by decide +kernel) (by omega) fun y y0 y1 => ?_
  wtm_at "bk"
  wtm_at "go"
  obtain ⟨nk, ek⟩ : ∃ j : Nat, 1 + y = (j : Int) := ⟨(1 + y).toNat, by omega⟩
  rw [ek]
  refine k__law_names (by omega) (by omega) fun ks j2 kl gk l3 l4 => ?_
  wtm_at "bk"
  wtm_at "go"
  refine k_draw (by omega) (by decide +kernel) (by omega) fun z z0 z1 => ?_
  wtm_at "bk"
  wtm_at "go"
  obtain ⟨nd, ed⟩ : ∃ j : Nat, 1 + z = (j : Int) := ⟨(1 + z).toNat, by omega⟩
  rw [ed]
  refine k__law_names (by omega) (by omega) fun L j3 ll gl l5 l6 => ?_
  wtm_at "bk"
  wtm_at "go"
  have nas := namesGo_all ga
  have das := (names_distinct ga).1
  refine x_forI (fun r s => ∃ ds j u5 u6 u7, s = ⟨[some .st, some (.dat (.list as)), some (.dat (.list ks)), some (.lst ds), some (.lst []), u5, u6, u7, none, none, none, none], j, [0]⟩ ∧ L = ds.map fst ++ r ∧ (∀ d ∈ ds, DoorD as d) ∧ j3 ≤ j ∧ j ≤ j3 + 3 * ds.length) ?_ ?_ ⟨[], j3, none, none, none, rfl, rfl, (fun _ z => by cases z), by omega, by simp⟩
  · rintro p r s N ⟨ds, j, u5, u6, u7, rfl, eL, hds, q1, q2⟩ hN
    have dl : ds.length + 1 ≤ L.length := by rw [eL, List.length_append, List.length_map, List.length_cons]; omega
    wtm_at "go"
    refine k_draw (by omega) (log2_len (by omega)) (by omega) fun a a0 a1 => ?_
    wtm_at "bk"
    wtm_at "go"
    have elen : ((as.length : Int) - 1) = ((as.length - 1 : Nat) : Int) := by omega
    rw [elen]
    refine k_draw (by omega) (log2_len (by omega)) (by omega) fun b b0 b1 => ?_
    wtm_at "bk"
    have om := other_mod (a := a) (x := b) (l := (as.length : Int)) a0 a1 b0 (by omega)
    wtm_at "go"
    generalize (a + 1 + b) % (as.length : Int) = o at om
    obtain ⟨o0, o1, o2⟩ := om
    obtain ⟨i, rfl⟩ : ∃ i : Nat, a = (i : Int) := ⟨a.toNat, by omega⟩
    obtain ⟨j', rfl⟩ : ∃ i : Nat, o = (i : Int) := ⟨o.toNat, by omega⟩
    have hi : i < as.length := by omega
    have hj : j' < as.length := by omega
    refine x_fIxL (atI_get hi) ?_
    wtm_at "go"
    refine x_fIxL (atI_get hj) ?_
    wtm_at "go"
    refine k_pick_l (by simp) (by simp) (by omega) fun e he => ?_
    wtm_at "bk"
    obtain ⟨e', rfl, he'⟩ : ∃ e' : Str, e = .str e' ∧ (e' = "leaf" ∨ e' = "gate") := by
      simp only [List.mem_cons, List.not_mem_nil, or_false] at he
      rcases he with rfl | rfl
      · exact ⟨_, rfl, .inl rfl⟩
      · exact ⟨_, rfl, .inr rfl⟩
    wtm_at "go"
    refine x_append (by omega) ?_
    wtm_at "go"
    refine hN _ ⟨ds ++ [.tuple [p, as.getD i .none, as.getD j' .none, .str e']], j + 1 + 1 + 1, some (.dat p), some (.dat (.int i)), some (.dat (.int j')), rfl, ?_, fun d hd => ?_, by omega, by simp; omega⟩
    · rw [eL, List.map_append, List.append_assoc]
      rfl
    · rcases List.mem_append.mp hd with hd | hd
      · exact hds d hd
      · rw [List.mem_singleton.mp hd]
        exact doorD_mk (nas _ (getD_mem hi)) (getD_mem hi) (nas _ (getD_mem hj)) (getD_mem hj) (getD_ne nas das hj hi (by omega)) he'
  · rintro s ⟨ds, j, u5, u6, u7, rfl, eL, hds, q1, q2⟩
    rw [List.append_nil] at eL
    subst eL
    rw [List.length_map] at ll
    have nd' := namesGo_all gl
    have nks := namesGo_all gk
    wtm_at "go"
    refine k_pick_l (by simp) (by simp) (by omega) fun o ho => ?_
    wtm_at "bk"
    obtain ⟨od, rfl, od1, od2⟩ : ∃ i : Int, o = .int i ∧ 1 ≤ i ∧ i ≤ 40 := by
      simp only [List.mem_cons, List.not_mem_nil, or_false] at ho
      rcases ho with rfl | rfl | rfl | rfl <;> exact ⟨_, rfl, by omega, by omega⟩
    have odl : od.natAbs.log2 < 9000 := log2_of (k := 20) (by omega) (by decide) (by decide)
    wtm_at "go"
    refine x_forI (fun r s => ∃ rs seen o3 j' u9 u10, s = ⟨[some .st, some (.dat (.list as)), some (.dat (.list ks)), some o3, some (.lst rs), u5, u6, u7, some (.dat (.int od)), u9, u10, none], j', [0]⟩ ∧ (o3 = .lst ds ∨ o3 = .dat (.list ds)) ∧ ks = seen ++ r ∧ rs.Sublist (everyD (ds.map fst) seen) ∧ j + 1 ≤ j' ∧ j' ≤ j + 1 + 12 * seen.length) ?_ ?_ ⟨[], [], .lst ds, j + 1, none, none, rfl, .inl rfl, rfl, .slnil, by omega, by simp⟩
    · rintro kd r s N ⟨rs, seen, o3, j', u9, u10, rfl, ho3, ek', hsub, p1, p2⟩ hN
      have sl : seen.length + 1 ≤ ks.length := by rw [ek', List.length_append, List.length_cons]; omega
      rcases ho3 with rfl | rfl
      all_goals
        wtm_at "go"
        refine x_forI (fun q s => ∃ rs past j2 u10, s = ⟨[some .st, some (.dat (.list as)), some (.dat (.list ks)), some (.dat (.list ds)), some (.lst rs), u5, u6, u7, some (.dat (.int od)), some (.dat kd), u10, none], j2, [0]⟩ ∧ ds = past ++ q ∧ rs.Sublist (everyD (ds.map fst) seen ++ ofKind (past.map fst) kd) ∧ j' ≤ j2 ∧ j2 ≤ j' + 2 * past.length) ?_ ?_ ⟨rs, [], j', u10, rfl, rfl, by simpa [ofKind] using hsub, by omega, by simp⟩
        · rintro p q s M ⟨rs, past, j2, u10, rfl, ep, hsub, p3, p4⟩ hM
          have pl : past.length + 1 ≤ ds.length := by rw [ep, List.length_append, List.length_cons]; omega
          obtain ⟨d1, d2, d3, d4, rfl⟩ := four_is (hds p (by rw [ep]; simp)).1
          have rl : rs.length ≤ 100 := by
            have h1 := hsub.length_le
            rw [List.length_append, every_len, kind_len, List.length_map, List.length_map] at h1
            have h3 : 2 * ds.length * seen.length ≤ 2 * 6 * 3 := Nat.mul_le_mul (by omega) (by omega)
            omega
          wtm_at "go"
          refine x_lcI (fun r acc s => (∃ j5, s = ⟨[some .st, some (.dat (.list as)), some (.dat (.list ks)), some (.dat (.list ds)), some (.lst rs), u5, u6, u7, some (.dat (.int od)), some (.dat kd), some (.dat (.tuple [d1, d2, d3, d4])), none], j5, [0]⟩ ∧ j5 + r.length = j2 + 2) ∧ ∃ pre, two kd d1 = pre ++ r.map (fun i => .tuple [kd, d1, i]) ∧ acc.Sublist pre) ?_ ?_ ⟨⟨j2, rfl, rfl⟩, [], rfl, .slnil⟩
          · rintro i r acc s A B ⟨⟨j5, rfl, e5⟩, pre, ep2, hs2⟩ hA hB
            rw [List.length_cons] at e5
            have p2l : pre.length + (r.length + 1) = 2 := by
              have := congrArg List.length ep2
              rw [List.length_append, List.length_map, List.length_cons] at this
              exact this.symm
            have acl := hs2.length_le
            wtm_at "go"
            refine k_draw (by omega) odl (by omega) fun v v0 v1 => ?_
            wtm_at "bk"
            wtm_at "go"
            have e2 : two kd d1 = (pre ++ [.tuple [kd, d1, i]]) ++ r.map (fun i => .tuple [kd, d1, i]) := by rw [ep2]; simp
            cases cv : decide (0 < v) with
            | true =>
              wtm_at "go"
              exact hA _ _ (by omega) ⟨⟨j5 + 1, rfl, by omega⟩, _, e2, hs2.append (.refl _)⟩
            | false =>
              wtm_at "go"
              exact hB _ ⟨⟨j5 + 1, rfl, by omega⟩, _, e2, hs2.trans (List.sublist_append_left _ _)⟩
          · rintro acc s ⟨⟨j5, rfl, e5⟩, pre, ep2, hs2⟩
            rw [List.map_nil, List.append_nil] at ep2
            rw [List.length_nil] at e5
            subst ep2
            have acl := hs2.length_le
            have tl : (two kd d1).length = 2 := rfl
            wtm_at "go"
            refine x_fAddL (by omega) ?_
            wtm_at "go"
            refine hM _ ⟨rs ++ acc, past ++ [PyData.tuple [d1, d2, d3, d4]], j5, some (O.dat (PyData.tuple [d1, d2, d3, d4])), rfl, by rw [ep]; simp, ?_, by omega, by simp; omega⟩
            have e3 : ofKind ((past ++ [PyData.tuple [d1, d2, d3, d4]]).map fst) kd = ofKind (past.map fst) kd ++ two kd d1 := by
              unfold ofKind
              rw [List.map_append, List.flatMap_append]
              simp [fst]
            rw [e3, ← List.append_assoc]
            exact hsub.append hs2
        · rintro s ⟨rs, past, j2, u10, rfl, ep, hsub, p3, p4⟩
          rw [List.append_nil] at ep
          subst ep
          refine hN _ ⟨rs, seen ++ [kd], .dat (.list ds), j2, some (O.dat kd), u10, rfl, .inr rfl, by rw [ek']; simp, ?_, by omega, by simp; omega⟩
          have e3 : everyD (ds.map fst) (seen ++ [kd]) = everyD (ds.map fst) seen ++ ofKind (ds.map fst) kd := by
            unfold everyD
            rw [List.flatMap_append]
            simp
          rw [e3]
          exact hsub
    · rintro s ⟨rs, seen, o3, j', u9, u10, rfl, ho3, ek', hsub, p1, p2⟩
      rw [List.append_nil] at ek'
      subst ek'
      have hm := house_mk ga (by omega) (by omega) gk (by omega) (by omega) (by omega) (by omega) gl hds hsub
      rcases ho3 with rfl | rfl
      all_goals
        wtm_at "go"
        exact h _ _ hm.1 hm.2 (by omega) (by omega)
end
end K77

/-! part Q12 -/
namespace K77
open PySem PySem.Spec PyProof.Rows L2 Evl Lk LamX Mk
/-! ### bent values -/
theorem cut_drop {ds : List PyData} {k : Nat} (h : k ≤ ds.length) : Mk.cutD ds (some (k : Int)) none = ds.drop k := by
  unfold Mk.cutD
  rw [HT.sIx_nat, HT.sIx_none, Nat.min_eq_left h]
  refine List.take_of_length_le ?_
  rw [List.length_drop]
  exact Nat.le_refl _
theorem tx_add {m k : Nat} {a b : Str} (ha : Tx m a) (hb : Tx k b) : Tx (m + k) (a ++ b) := by
  refine ⟨fun c hc => ?_, ?_⟩
  · rw [app_cps, Array.toList_append] at hc
    rcases List.mem_append.mp hc with hc | hc
    · exact ha.a c hc
    · exact hb.a c hc
  · show (a.cps ++ b.cps).size ≤ _
    rw [Array.size_append]
    exact Nat.add_le_add ha.l hb.l
theorem tx_cut {m : Nat} {a : Str} {lo hi : Option Int} (ha : Tx m a) : Tx m (L2.cutS a lo hi) := ⟨fun c hc => ha.a c (cut_mem hc), Nat.le_trans cut_len ha.l⟩
theorem tx_up {m : Nat} {a : Str} (ha : Tx m a) : Tx m (Txt.upper a) := by
  rw [upper_ascii ha.a]
  refine ⟨fun c hc => ?_, ?_⟩
  · rw [Array.toList_map] at hc
    obtain ⟨d, hd, rfl⟩ := List.mem_map.mp hc
    have := ha.a d hd
    unfold up1
    split <;> omega
  · show (a.cps.map up1).size ≤ m
    rw [Array.size_map]
    exact ha.l
def bentSome (d : PyData) : List PyData := [.none, .str "", .str "any", .int 5, .bool true, .int 1, .int 0, .int (-1), .int 2, .str "A", .str "abcdefghi", .str "out", .str "leaf", .str "gate", .tuple [], .list [d], .dict []]
theorem bent_bd {N m k : Nat} {d : PyData} (t : Tame m d) (h9 : 9 ≤ m) : ∀ x ∈ bentSome d, Bd N m k x := by
  intro x hx
  unfold bentSome at hx
  simp only [List.mem_cons, List.not_mem_nil, or_false] at hx
  have tx : ∀ {x : Str}, Tx 9 x → Bd N m k (.str x) := fun h => .str (h.mono h9)
  rcases hx with rfl | rfl | rfl | rfl | rfl | rfl | rfl | rfl | rfl | rfl | rfl | rfl | rfl | rfl | rfl | rfl | rfl
  all_goals first
    | exact .int
    | exact .nil
    | exact .leaf .none rfl
    | exact .leaf .bool rfl
    | exact .leaf .dict rfl
    | exact tx ⟨by decide +kernel, by decide +kernel⟩
    | (refine .leaf (.list fun d hd => ?_) rfl
       rw [List.mem_singleton.mp hd]; exact t)
section
variable {K : PySem.W.Frag} {n : Nat} {Q : O → List O → Nat → Prop} {X : Addr → List O → Nat → Prop} {G : Den}
theorem bent_leaf {N m k j : Nat} {a : Int} {d : PyData} (hb : Bd N m k d) (h9 : 9 ≤ m) (hm : m ≤ 100) (hn : j + 1 < far) (h : ∀ d', Bd (N + 1) (m + 1) k d' → Q (.dat d') [.st, .dat d] (j + 1)) :
    B__law_bent_5 K G ⟨[some .st, some (.dat d), some (.dat (.int a)), none, none], j, [0]⟩ (kOf [.st, .dat d] Q X) := by
  have t := hb.tame
  have ok : ∀ x ∈ bentSome d, Bd (N + 1) (m + 1) k x := fun x hx => (bent_bd (N := N) t h9 x hx).mono (by omega) (by omega) (Nat.le_refl _)
  have hb' : Bd (N + 1) (m + 1) k d := hb.mono (by omega) (by omega) (Nat.le_refl _)
  cases d with
  | str x =>
    have tx := t.tx
    have tl := tx.l
    wtm_at "go"
    refine x_fAddS (by show _ + 1 ≤ _; omega) ?_
    wtm_at "go"
    refine x_fSlS (by omega) ?_
    wtm_at "go"
    refine x_fUpper (by omega) ?_
    wtm_at "go"
    refine x_fAddS (by show _ + 1 ≤ _; omega) ?_
    wtm_at "go"
    refine x_fAddL (by simp) ?_
    wtm_at "go"
    refine k_pick_l (by simp) (by simp) (by omega) fun y hy => ?_
    wtm_at "bk"
    wtm_at "go"
    refine h y ?_
    rcases List.mem_append.mp hy with hy | hy
    · exact ok y hy
    · have one : Tx 1 "x" := ⟨by decide +kernel, by decide +kernel⟩
      have sp : Tx 1 " " := ⟨by decide +kernel, by decide +kernel⟩
      simp only [List.mem_cons, List.not_mem_nil, or_false] at hy
      rcases hy with rfl | rfl | rfl | rfl
      · exact .str (tx_add tx one)
      · exact .str ((tx_cut tx).mono (by omega))
      · exact .str ((tx_up tx).mono (by omega))
      · exact .str (tx_add tx sp)
  | _ =>
    wtm_at "go"
    refine x_fAddL (by simp) ?_
    wtm_at "go"
    refine k_pick_l (by simp) (by simp) (by omega) fun y hy => ?_
    wtm_at "bk"
    wtm_at "go"
    refine h y ?_
    rcases List.mem_append.mp hy with hy | hy
    · exact ok y hy
    · rw [List.mem_singleton.mp hy]
      exact hb'
def Bent (K : PySem.W.Frag) (k : Nat) : Prop := ∀ {N m n : Nat} {d : PyData} {Q : O → List O → Nat → Prop} {X : Addr → List O → Nat → Prop}, Bd N m k d → 9 ≤ m → m ≤ 100 → N ≤ 1000 → n + 3 * (k + 1) < far → (∀ d' j, Bd (N + 1) (m + 1) k d' → n ≤ j → j ≤ n + 3 * (k + 1) → Q (.dat d') [.st, .dat d] j) → d__law_bent K (k + 1) [.st, .dat d] n Q X
theorem bent_step {k : Nat} (ih : ∀ j, k = j + 1 → Bent K j) : Bent K k := by
  intro N m n d Q X hb h9 hm hN hn h
  unfold d__law_bent b__law_bent
  wtm_at "in"
  wtm_at "go"
  refine k_draw (by omega) (by decide +kernel) (by omega) fun a a0 a1 => ?_
  wtm_at "bk"
  have leaf : B__law_bent_5 K (d__law_bent K k) ⟨[some .st, some (.dat d), some (.dat (.int a)), none, none], n + 1, [0]⟩ (kOf [.st, .dat d] Q X) := bent_leaf hb h9 hm (by omega) fun d' hd' => h d' _ hd' (by omega) (by omega)
  cases hb with
  | leaf t ht =>
    cases d with
    | tuple ds => cases ht
    | _ =>
      wtm_at "gs"
      with_reducible refine x_seq ?_
      with_reducible refine x_if ?_
      with_reducible refine x_or ?_
      wtm_at "gs"
      exact leaf
  | nil =>
    wtm_at "gs"
    with_reducible refine x_seq ?_
    with_reducible refine x_if ?_
    cases c0 : decide (a = 0) with
    | true =>
      wtm_at "gs"
      exact leaf
    | false =>
      wtm_at "gs"
      exact leaf
  | tup hl hi =>
    rename_i j ds
    wtm_at "gs"
    with_reducible refine x_seq ?_
    with_reducible refine x_if ?_
    cases c0 : decide (a = 0) with
    | true =>
      wtm_at "gs"
      exact leaf
    | false =>
    wtm_at "gs"
    cases cl : decide ((ds.length : Int) = 0) with
    | true =>
      wtm_at "gs"
      exact leaf
    | false =>
    clear leaf
    have hlen := of_decide_eq_false cl
    wtm_at "go"
    refine k_draw (by omega) (log2_len (by omega)) (by omega) fun b b0 b1 => ?_
    wtm_at "bk"
    obtain ⟨i, rfl⟩ : ∃ i : Nat, b = (i : Int) := ⟨b.toNat, by omega⟩
    have hil : i < ds.length := by omega
    have hat : atI ds (i : Int) = some (ds.getD i .none) := atI_get hil
    have hx0 := hi _ (getD_mem hil)
    generalize ds.getD i .none = x0 at hat hx0
    have e1 : ((i : Int) + 1) = ((i + 1 : Nat) : Int) := rfl
    have tk : Mk.cutD ds none (some (i : Int)) = ds.take i := cut_take (by omega)
    have dr : Mk.cutD ds (some ((i : Int) + 1)) none = ds.drop (i + 1) := by rw [e1]; exact cut_drop (by omega)
    have dr0 : Mk.cutD ds (some (i : Int)) none = ds.drop i := cut_drop (by omega)
    have up : ∀ {x : PyData}, Bd N m j x → Bd (N + 1) (m + 1) j x := fun q => q.mono (by omega) (by omega) (Nat.le_refl _)
    have take : ∀ q, ∀ x ∈ ds.take q, Bd (N + 1) (m + 1) j x := fun q x hx => up (hi x (List.mem_of_mem_take hx))
    have drop : ∀ q, ∀ x ∈ ds.drop q, Bd (N + 1) (m + 1) j x := fun q x hx => up (hi x (List.mem_of_mem_drop hx))
    have one : ∀ x, Bd (N + 1) (m + 1) j x → ∀ y ∈ [x], Bd (N + 1) (m + 1) j y := fun x q y hy => by rw [List.mem_singleton.mp hy]; exact q
    have app : ∀ {l1 l2 : List PyData}, (∀ x ∈ l1, Bd (N + 1) (m + 1) j x) → (∀ x ∈ l2, Bd (N + 1) (m + 1) j x) → ∀ x ∈ l1 ++ l2, Bd (N + 1) (m + 1) j x := fun q1 q2 x hx => by
      rcases List.mem_append.mp hx with hx | hx
      · exact q1 x hx
      · exact q2 x hx
    have lt : (ds.take i).length = i := by rw [List.length_take]; omega
    have ld : (ds.drop (i + 1)).length = ds.length - (i + 1) := List.length_drop
    have ld0 : (ds.drop i).length = ds.length - i := List.length_drop
    wtm_at "go"
    cases c1 : decide (a = 1) with
    | true =>
      wtm_at "go"
      rw [tk, dr]
      refine x_fAddT (by omega) ?_
      wtm_at "go"
      refine h _ _ (.tup (by rw [List.length_append]; omega) (app (take _) (drop _))) (by omega) (by omega)
    | false =>
    wtm_at "go"
    cases c2 : decide (a = 2) with
    | true =>
      wtm_at "go"
      rw [tk]
      refine x_fAddT (by simp only [List.length_cons, List.length_nil]; omega) ?_
      wtm_at "go"
      rw [dr0]
      refine x_fAddT (by simp only [List.length_append, List.length_cons, List.length_nil]; omega) ?_
      wtm_at "go"
      refine h _ _ (.tup (by simp only [List.length_append, List.length_cons, List.length_nil]; omega) (app (app (take _) (one _ (up hx0))) (drop _))) (by omega) (by omega)
    | false =>
    wtm_at "go"
    have rec_ : ∀ {Q' : O → List O → Nat → Prop} {X' : Addr → List O → Nat → Prop}, (∀ d' k', Bd (N + 1) (m + 1) j d' → n + 2 ≤ k' → k' ≤ n + 2 + 3 * (j + 1) → Q' (.dat d') [.st, .dat x0] k') → d__law_bent K (j + 1) [.st, .dat x0] (n + 1 + 1) Q' X' := fun q => ih j rfl hx0 h9 hm hN (by omega) fun d' k' hd' k1 k2 => q d' k' hd' (by omega) (by omega)
    cases c3 : decide (a = 3) with
    | true =>
      wtm_at "go"
      cases c4 : decide (0 < (i : Int)) with
      | true =>
        have b2 := of_decide_eq_true c4
        have e2 : ((i : Int) - 1) = ((i - 1 : Nat) : Int) := by omega
        have hat2 : atI ds ((i : Int) - 1) = some (ds.getD (i - 1) .none) := by rw [e2]; exact atI_get (by omega)
        have hx1 := hi _ (getD_mem (ds := ds) (i := i - 1) (by omega))
        generalize ds.getD (i - 1) .none = x1 at hat2 hx1
        have tk1 : Mk.cutD ds none (some ((i : Int) - 1)) = ds.take (i - 1) := by rw [e2]; exact cut_take (by omega)
        have lt1 : (ds.take (i - 1)).length = i - 1 := by rw [List.length_take]; omega
        wtm_at "go"
        rw [tk1]
        refine x_fAddT (by simp only [List.length_cons, List.length_nil]; omega) ?_
        wtm_at "go"
        rw [dr]
        refine x_fAddT (by simp only [List.length_append, List.length_cons, List.length_nil]; omega) ?_
        wtm_at "go"
        refine h _ _ (.tup (by simp only [List.length_append, List.length_cons, List.length_nil]; omega) (app (app (take _) fun y hy => ?_) (drop _))) (by omega) (by omega)
        simp only [List.mem_cons, List.not_mem_nil, or_false] at hy
        rcases hy with rfl | rfl
        · exact up hx0
        · exact up hx1
      | false =>
        have c5 : decide (a = 4) = false := decide_eq_false (by have := of_decide_eq_true c3; omega)
        wtm_at "go"
        refine rec_ fun d' k' hd' k1 k2 => ?_
        wtm_at "bk"
        wtm_at "go"
        rw [tk]
        refine x_fAddT (by simp only [List.length_cons, List.length_nil]; omega) ?_
        wtm_at "go"
        rw [dr]
        refine x_fAddT (by simp only [List.length_append, List.length_cons, List.length_nil]; omega) ?_
        wtm_at "go"
        exact h _ _ (.tup (by simp only [List.length_append, List.length_cons, List.length_nil]; omega) (app (app (take _) (one _ hd')) (drop _))) (by omega) (by omega)
    | false =>
    wtm_at "go"
    cases c5 : decide (a = 4) with
    | true =>
      wtm_at "go"
      rw [tk]
      refine k_draw (by omega) (log2_len (by omega)) (by omega) fun e e0 e1' => ?_
      wtm_at "bk"
      obtain ⟨i', rfl⟩ : ∃ i : Nat, e = (i : Int) := ⟨e.toNat, by omega⟩
      have hil' : i' < ds.length := by omega
      wtm_at "go"
      refine x_fIxT (atI_get hil') ?_
      wtm_at "go"
      refine x_fAddT (by simp only [List.length_cons, List.length_nil]; omega) ?_
      wtm_at "go"
      rw [dr]
      refine x_fAddT (by simp only [List.length_append, List.length_cons, List.length_nil]; omega) ?_
      wtm_at "go"
      exact h _ _ (.tup (by simp only [List.length_append, List.length_cons, List.length_nil]; omega) (app (app (take _) (one _ (up (hi _ (getD_mem hil'))))) (drop _))) (by omega) (by omega)
    | false =>
      wtm_at "go"
      refine rec_ fun d' k' hd' k1 k2 => ?_
      wtm_at "bk"
      wtm_at "go"
      rw [tk]
      refine x_fAddT (by simp only [List.length_cons, List.length_nil]; omega) ?_
      wtm_at "go"
      rw [dr]
      refine x_fAddT (by simp only [List.length_append, List.length_cons, List.length_nil]; omega) ?_
      wtm_at "go"
      exact h _ _ (.tup (by simp only [List.length_append, List.length_cons, List.length_nil]; omega) (app (app (take _) (one _ hd')) (drop _))) (by omega) (by omega)
theorem k__law_bent : ∀ k : Nat, Bent K k
  | 0 => bent_step fun j e => absurd e (by omega)
  | k + 1 => bent_step fun j e => by
    obtain rfl : k = j := by omega
    exact k__law_bent k
end
end K77

/-! part Q13 -/
namespace K77
open PySem PySem.Spec PyProof.Rows L2 Evl Lk LamX Mk
/-! ### what is refused, the sides of doors -/
theorem e40 : (10 : Int) ^ (40 : Int).toNat = 10000000000000000000000000000000000000000 := by decide
theorem names_eq {a b : PyData} (ha : isName a = true) (h : eqd a b = true) : b = a := by
  obtain ⟨x, rfl⟩ := isName_str ha
  exact eqv_str h
theorem eqd_refl {a : PyData} (ha : isName a = true) : eqd a a = true := by
  obtain ⟨x, rfl⟩ := isName_str ha
  rw [eqd_str]
  exact decide_eq_true rfl
theorem pair_ne : ∀ {l : List PyData} {p q : PyData}, (l.map fst).Pairwise (fun a b => PyData.eqv a b = false) → (∀ d ∈ l, isName (fst d) = true) → p ∈ l → q ∈ l → fst p = fst q → p = q
  | d :: l, p, q, h, hn, hp, hq, e => by
    rw [List.map_cons, List.pairwise_cons] at h
    have bad : ∀ z ∈ l, fst d = fst z → False := fun z hz ez => by
      have h1 := h.1 (fst z) (List.mem_map_of_mem hz)
      rw [← ez] at h1
      have h2 := eqd_refl (hn d List.mem_cons_self)
      unfold eqd at h2
      rw [h1] at h2
      cases h2
    rcases List.mem_cons.mp hp with e1 | hp1
    · rcases List.mem_cons.mp hq with e2 | hq1
      · rw [e1, e2]
      · subst e1
        exact (bad q hq1 e).elim
    · rcases List.mem_cons.mp hq with e2 | hq1
      · subst e2
        exact (bad p hp1 e.symm).elim
      · exact pair_ne h.2 (fun d hd => hn d (List.mem_cons_of_mem _ hd)) hp1 hq1 e
section
variable {K : PySem.W.Frag} {n : Nat} {Q : O → List O → Nat → Prop} {X : Addr → List O → Nat → Prop}
theorem k__law_tells {d : PyData} {due : Bool} (b : Bool) (hd : d = .bool b) (h : Q (.dat (.bool (decide (b = due)))) [.dat d, .dat (.bool due)] n) : d__law_tells K [.dat d, .dat (.bool due)] n Q X := by
  subst hd
  unfold d__law_tells b__law_tells
  cases due <;> wtm_at "in" <;> wtm_at "all"
  all_goals exact h
theorem k__law_refused_right {b bad : PyData} {m : Nat} (x : Xf K) (t : Tame m bad) (h1 : 1 ≤ m) (hm : m ≤ 1000) (hl : ∀ ds, bad = .tuple ds → ∀ x ∈ ds, ∀ es, x = .tuple es → es.length < 60) (h : Q (.dat (.bool true)) [.dat b, .dat bad] n) : d__law_refused_right K [.dat b, .dat bad] n Q X := by
  unfold d__law_refused_right b__law_refused_right
  have td : Tame m (.str "d") := .str ((⟨by decide +kernel, by decide +kernel⟩ : Tx 1 "d").mono h1)
  wtm_at "in"
  wtm_at "go"
  cases hb : housed bad with
  | false =>
    refine k_area_at t td hm (fun _ => ?_) (fun q => by rw [hb] at q; cases q) (fun q => by rw [hb] at q; cases q) (fun p _ q => by rw [hb] at q; cases q)
    refine ⟨x.k_BadBuilding, ?_⟩
    wtm_at "go"
    refine k_joined t hm (fun q => by rw [hb] at q; cases q) fun _ => ?_
    refine ⟨x.k_BadBuilding, ?_⟩
    wtm_at "go"
    refine k__law_is_housed t hm hl ?_
    rw [hb]
    wtm_at "go"
    refine x_isEX x.e_BadBuilding x.i_BadBuilding_BadBuilding ?_
    wtm_at "go"
    refine x_isEX x.e_BadBuilding x.i_BadBuilding_BadBuilding ?_
    wtm_at "go"
    exact h
  | true =>
    refine k_area_at t td hm (fun q => by rw [hb] at q; cases q) (fun _ _ => ?_) (fun _ _ q => by cases q) (fun p _ _ _ i _ _ => ?_)
    · refine ⟨x.k_BadDoor, ?_⟩
      wtm_at "go"
      refine k_joined t hm (fun _ l => ?_) (fun q => by rw [hb] at q; cases q)
      wtm_at "go"
      refine k__law_is_housed t hm hl ?_
      rw [hb]
      wtm_at "go"
      refine x_isEX x.e_BadDoor x.i_BadDoor_BadBuilding ?_
      wtm_at "go"
      exact h
    · wtm_at "go"
      refine k_joined t hm (fun _ l => ?_) (fun q => by rw [hb] at q; cases q)
      wtm_at "go"
      refine k__law_is_housed t hm hl ?_
      rw [hb]
      wtm_at "go"
      refine x_isEN x.n_BadBuilding ?_
      wtm_at "go"
      exact h
theorem k__law_sides_right {b : PyData} (x : Xf K) (hb : housed b = true) (t : Tame 9 b) (hn : n + 10 < far) (h : Q (.dat (.bool true)) [.st, .dat b] (n + 2)) : d__law_sides_right K [.st, .dat b] n Q X := by
  have hb' := hb
  obtain ⟨w, as, bs, c, e, rfl, na, al1, al2, bl1, bl2, gb, fb, nb⟩ := housed_is hb'
  have nf : ∀ d ∈ bs, isName (fst d) = true := fun d hd => nb _ (List.mem_map_of_mem hd)
  have dn := (names_distinct (doorsGo_names gb)).1
  have ed : doorsOf (.tuple [w, .tuple as, .tuple bs, c, e]) = bs := rfl
  have tb : Tame 9 (.tuple bs) := t.item (by simp)
  have rest : ∀ d ∈ bs, restOk as d = true := by
    have g := gb
    rw [doorsGo_eq, Bool.and_eq_true, Bool.and_eq_true] at g
    exact List.all_eq_true.mp g.2
  have din : ∀ p ∈ bs, doorIn bs (fst p) = true := fun p hp => by
    unfold doorIn
    rw [nf p hp, mem_has (nf p hp) (List.mem_map_of_mem hp)]
    rfl
  unfold d__law_sides_right b__law_sides_right
  wtm_at "in"
  wtm_at "go"
  refine x_forI (fun r s => ∃ u2 u3 u4 u5, s = ⟨[some .st, some (.dat (.tuple [w, .tuple as, .tuple bs, c, e])), u2, u3, u4, u5, none, none, none], n, [0]⟩ ∧ ∀ d ∈ r, d ∈ bs) ?_ ?_ ⟨none, none, none, none, rfl, fun _ z => z⟩
  · rintro p r s N ⟨u2, u3, u4, u5, rfl, hr⟩ hN
    have hp := hr p List.mem_cons_self
    have tp := tb.item hp
    have hnp := nf p hp
    have hrp := rest p hp
    have hdp := din p hp
    have hone : ∀ p' ∈ bs, eqd (fst p') (fst p) = true → p' = p := fun p' hp' he => pair_ne dn nf hp' hp (names_eq (nf p' hp') he).symm
    obtain ⟨x1, x2, x3, x4, rfl⟩ := four_is (fb p hp)
    have tx1 := tp.item (d := x1) (by simp)
    have er : restOk as (.tuple [x1, x2, x3, x4]) = ((isName x2 && hasD as x2) && (isName x3 && hasD as x3 && !eqd x3 x2) && isSort x4) := rfl
    rw [er] at hrp
    simp only [Bool.and_eq_true] at hrp
    have n2 : isName x2 = true := hrp.1.1.1
    have n3 : isName x3 = true := hrp.1.2.1.1
    have s2 := (name_sh n2).sh
    have s3 := (name_sh n3).sh
    have r2 := eqd_refl n2
    have r3 := eqd_refl n3
    have hdp' : doorIn bs x1 = true := hdp
    wtm_at "go"
    refine k_area_at (m := 9) t tx1 (by omega) (fun q => by rw [hb] at q; cases q) (fun _ q => by rw [ed, hdp'] at q; cases q) (fun _ _ q => by cases q) (fun p' hp' _ he i ei i1 => ?_)
    have ep := hone p' hp' he
    subst ep
    obtain rfl : i = 0 := by cases ei; rfl
    show _
    have v0 : itemN (1 + 0) (.tuple [x1, x2, x3, x4]) = x2 := rfl
    rw [v0]
    wtm_at "go"
    refine k_area_at (m := 9) t tx1 (by omega) (fun q => by rw [hb] at q; cases q) (fun _ q => by rw [ed, hdp'] at q; cases q) (fun _ _ q => by cases q) (fun p' hp' _ he i ei i1 => ?_)
    have ep := hone p' hp' he
    subst ep
    obtain rfl : i = 1 := by cases ei; rfl
    have v1 : itemN (1 + 1) (.tuple [x1, x2, x3, x4]) = x3 := rfl
    rw [v1]
    wtm_at "go"
    exact hN _ ⟨_, _, _, _, rfl, fun d hd => hr d (List.mem_cons_of_mem _ hd)⟩
  · rintro s ⟨u2, u3, u4, u5, rfl, _⟩
    cases bs with
    | nil => cases bl1
    | cons p r =>
      have hp : p ∈ p :: r := List.mem_cons_self
      have hnp := nf p hp
      have hdp := din p hp
      have tp := tb.item hp
      obtain ⟨x1, x2, x3, x4, rfl⟩ := four_is (fb p hp)
      have hnp' : isName x1 = true := hnp
      obtain ⟨z, rfl⟩ := isName_str hnp'
      have tz := name_tx hnp'
      have zl := tz.l
      have hdp' : doorIn (.tuple [.str z, x2, x3, x4] :: r) (.str z) = true := hdp
      have xs : (repS "x" 8).cps.size = 8 := repS_size "x" 8
      wtm_at "go"
      refine x_fMulS (by decide) (by decide) (by decide +kernel) (by decide +kernel) ?_
      wtm_at "go"
      refine x_fAddS (by show z.length + (repS "x" 8).cps.size ≤ _; rw [xs]; omega) ?_
      wtm_at "go"
      refine k_pick_l (by simp) (by simp) (by omega) fun odd ho => ?_
      wtm_at "bk"
      have hodd : isName odd = false ∧ Tame 100 odd := by
        simp only [List.mem_cons, List.not_mem_nil, or_false] at ho
        rcases ho with rfl | rfl | rfl | rfl | rfl | rfl | rfl
        · exact ⟨rfl, .none⟩
        · exact ⟨by decide +kernel, .str ⟨by decide +kernel, by decide +kernel⟩⟩
        · have hl : (z ++ repS "x" (8 : Int).toNat).length = z.length + 8 := by
            show (z.cps ++ (repS "x" 8).cps).size = _
            rw [Array.size_append, xs]
            rfl
          have z1 : 1 ≤ z.length := by
            have e : isName (.str z) = (decide ((1 : Int) ≤ (z.length : Nat)) && decide (((z.length : Nat) : Int) ≤ 8) && !decide (z = "any") && z.cps.toList.all isLet) := rfl
            rw [e] at hnp'
            simp only [Bool.and_eq_true, decide_eq_true_eq] at hnp'
            omega
          refine ⟨?_, .str ⟨fun c hc => ?_, by omega⟩⟩
          · show (decide ((1 : Int) ≤ ((z ++ repS "x" (8 : Int).toNat).length : Nat)) && decide ((((z ++ repS "x" (8 : Int).toNat).length : Nat) : Int) ≤ 8) && _ && _) = false
            rw [hl, decide_eq_false (by omega : ¬ (((z.length + 8 : Nat) : Int) ≤ 8))]
            simp
          · rw [app_cps, Array.toList_append] at hc
            rcases List.mem_append.mp hc with hc | hc
            · exact tz.a c hc
            · have : ∀ c ∈ (repS "x" (8 : Int).toNat).cps.toList, c < 128 := by decide +kernel
              exact this c hc
        · exact ⟨rfl, .int⟩
        · exact ⟨rfl, .list fun d hd => by rw [List.mem_singleton.mp hd]; exact .str (tz.mono (by omega))⟩
        · exact ⟨rfl, tp.mono (by omega)⟩
        · exact ⟨by decide +kernel, .str ⟨by decide +kernel, by decide +kernel⟩⟩
      wtm_at "go"
      refine x_fPow ⟨by decide, by decide, by decide⟩ ?_
      rw [e40]
      wtm_at "go"
      refine k_pick_l (by simp) (by simp) (by omega) fun side hs => ?_
      wtm_at "bk"
      have hside : isWhole side 0 1 = false := by
        simp only [List.mem_cons, List.not_mem_nil, or_false] at hs
        rcases hs with rfl | rfl | rfl | rfl | rfl | rfl | rfl | rfl <;> rfl
      wtm_at "go"
      refine k_area_at (m := 100) (t.mono (by omega)) hodd.2 (by omega) (fun q => by rw [hb] at q; cases q) (fun _ _ => ?_) (fun _ q => by rw [ed] at q; unfold doorIn at q; rw [hodd.1] at q; cases q) (fun p' hp' _ he i ei i1 => by rw [names_eq (nf p' hp') he, nf p' hp'] at hodd; cases hodd.1)
      refine ⟨x.k_BadDoor, ?_⟩
      wtm_at "go"
      refine k_area_at (m := 9) t (.str (tz.mono (by omega))) (by omega) (fun q => by rw [hb] at q; cases q) (fun _ q => by rw [ed, hdp'] at q; cases q) (fun _ _ _ => ?_) (fun p' hp' _ he i ei i1 => by
        subst ei
        have : isWhole (.int (i : Int)) 0 1 = true := by
          show (decide ((0 : Int) ≤ i) && decide ((i : Int) ≤ 1)) = true
          rw [decide_eq_true (by omega), decide_eq_true (by omega)]
          rfl
        rw [hside] at this
        cases this)
      refine ⟨x.k_BadSide, ?_⟩
      wtm_at "go"
      refine x_isEX x.e_BadDoor x.i_BadDoor_BadDoor ?_
      wtm_at "go"
      refine x_isEX x.e_BadSide x.i_BadSide_BadSide ?_
      wtm_at "go"
      exact h
end
end K77

/-! part Pl -/
namespace K77
open PySem PySem.Spec PyProof.Rows L2 Evl Lk LamX Mk
/-! ### the law itself -/
theorem bd_len {N m k : Nat} {d : PyData} (h : Bd N m k d) : ∀ ds, d = .tuple ds → ds.length ≤ N ∧ ∀ x ∈ ds, ∃ j, Bd N m j x := by
  rintro ds rfl
  cases h with
  | leaf _ q => cases q
  | nil => exact ⟨Nat.zero_le _, fun _ z => by cases z⟩
  | tup l hi => exact ⟨l, fun x hx => ⟨_, hi x hx⟩⟩
theorem bd_inner {N m k : Nat} {d : PyData} (h : Bd N m k d) (hN : N < 60) : ∀ ds, d = .tuple ds → ∀ x ∈ ds, ∀ es, x = .tuple es → es.length < 60 := by
  intro ds e x hx es ex
  obtain ⟨j, hj⟩ := (bd_len h ds e).2 x hx
  have := (bd_len hj es ex).1
  omega
theorem any_no : isName (.str "any") = false := by decide +kernel
theorem a_yes : isName (.str "a") = true := by decide +kernel
theorem law_ok {K : PySem.W.Frag} (x : Xf K) (ns : List Int) (hl : ns.length ≤ 63) : d_law K [.dat (.list (ns.map PyData.int))] 0 (fun o _ _ => o = .dat (.bool true)) (fun _ _ _ => False) := by
  have fl : far = 1000000000000 := rfl
  have anyT : Tame 10 (.str "any") := .str ⟨by decide +kernel, by decide +kernel⟩
  have aT : Tame 10 (.str "a") := .str ⟨by decide +kernel, by decide +kernel⟩
  unfold d_law b_law
  wtm_at "in"
  wtm_at "go"
  refine x_begun (by omega) ?_
  wtm_at "go"
  refine x_forI (fun r s => ∃ u2 u3 u4 u5 u6 k, s = ⟨[some (.dat (.list (ns.map PyData.int))), some .st, u2, u3, u4, u5, u6], k, []⟩ ∧ k + 1000 * r.length ≤ 3000) ?_ ?_ ⟨none, none, none, none, none, 0, rfl, ?_⟩
  · rintro d r s N ⟨u2, u3, u4, u5, u6, k, rfl, k1⟩ hN
    rw [List.length_cons] at k1
    wtm_at "go"
    refine k__law_house (by omega) fun b kb hb bb kb1 kb2 => ?_
    wtm_at "bk"
    have tb := bb.tame
    wtm_at "go"
    refine k_is_building tb (by omega) ?_
    rw [hb]
    wtm_at "go"
    refine k__law_sides_right x hb tb (by omega) ?_
    wtm_at "bk"
    wtm_at "go"
    refine x_forI (fun q s => ∃ u4 u5 k', s = ⟨[some (.dat (.list (ns.map PyData.int))), some .st, some (.dat d), some (.dat b), u4, u5, u6], k', []⟩ ∧ (∀ d ∈ q, ∃ i, d = .int i) ∧ k' + 40 * q.length ≤ k + 700) ?_ ?_ ⟨u4, u5, kb + 2, rfl, ?_, ?_⟩
    · rintro e q s M ⟨u4, u5, k', rfl, hq, k2⟩ hM
      rw [List.length_cons] at k2
      obtain ⟨i, rfl⟩ := hq e List.mem_cons_self
      have hq' : ∀ d ∈ q, ∃ i, d = .int i := fun d hd => hq d (List.mem_cons_of_mem _ hd)
      wtm_at "go"
      refine k__law_bent 4 (bb.mono (Nat.le_refl _) (Nat.le_refl _) (by omega)) (by omega) (by omega) (by omega) (by omega) fun bad kd hbad kd1 kd2 => ?_
      wtm_at "bk"
      wtm_at "gs"
      with_reducible refine x_mid (fun s => ∃ bad' kd', s = ⟨[some (.dat (.list (ns.map PyData.int))), some .st, some (.dat d), some (.dat b), some (.dat (.int i)), some (.dat bad'), u6], kd', []⟩ ∧ Bd 38 11 4 bad' ∧ kd' ≤ k' + 30) (fun N' hN' => ?_) ?_
      · wtm_at "go"
        cases ci : decide (3 < i) with
        | false =>
          wtm_at "go"
          exact hN' _ ⟨bad, kd, rfl, hbad.mono (by omega) (by omega) (Nat.le_refl _), by omega⟩
        | true =>
          wtm_at "go"
          refine k__law_bent 4 hbad (by omega) (by omega) (by omega) (by omega) fun bad' ke hbad' ke1 ke2 => ?_
          wtm_at "bk"
          wtm_at "go"
          exact hN' _ ⟨bad', ke, rfl, hbad', by omega⟩
      · rintro s ⟨bad', kd', rfl, hb', kd3⟩
        have tb' := hb'.tame
        have inn := bd_inner hb' (by omega)
        wtm_at "go"
        refine k_is_building tb' (by omega) ?_
        wtm_at "go"
        refine k__law_is_housed tb' (by omega) inn ?_
        wtm_at "go"
        refine k__law_tells (housed bad') rfl ?_
        have dt : decide (housed bad' = housed bad') = true := decide_eq_true rfl
        wtm_at "go"
        refine k__law_refused_right x tb' (by omega) (by omega) inn ?_
        wtm_at "go"
        exact hM _ ⟨_, _, kd', rfl, hq', by omega⟩
    · rintro s ⟨u4, u5, k', rfl, _, k2⟩
      rw [List.length_nil] at k2
      wtm_at "go"
      refine k_pick_l (by simp) (by simp) (by omega) fun y hy => ?_
      wtm_at "bk"
      obtain ⟨j, rfl, j9⟩ : ∃ j : Nat, y = .int j ∧ j ≤ 9 := by
        simp only [List.mem_cons, List.not_mem_nil, or_false] at hy
        rcases hy with rfl | rfl | rfl | rfl | rfl
        · exact ⟨1, rfl, by omega⟩
        · exact ⟨8, rfl, by omega⟩
        · exact ⟨9, rfl, by omega⟩
        · exact ⟨0, rfl, by omega⟩
        · exact ⟨3, rfl, by omega⟩
      wtm_at "go"
      refine k__law_letters (by omega) (by omega) fun z hz => ?_
      wtm_at "bk"
      have bz : Bd 0 9 4 (.str z) := .str (hz.tx j9)
      wtm_at "go"
      refine k__law_bent 4 bz (by omega) (by omega) (by omega) (by omega) fun nm kd hnm kd1 kd2 => ?_
      wtm_at "bk"
      have tn := hnm.tame
      wtm_at "go"
      refine k_is_name tn (by omega) ?_
      wtm_at "go"
      refine k__law_is_named tn (by omega) ?_
      wtm_at "go"
      refine k__law_tells (isName nm) rfl ?_
      have dt : decide (isName nm = isName nm) = true := decide_eq_true rfl
      wtm_at "go"
      refine k_is_name anyT (by omega) ?_
      rw [any_no]
      wtm_at "go"
      refine k_is_name aT (by omega) ?_
      rw [a_yes]
      wtm_at "go"
      exact hN _ ⟨_, _, _, _, _, kd, rfl, by omega⟩
    · intro d hd
      obtain ⟨i, _, rfl⟩ := List.mem_map.mp hd
      exact ⟨_, rfl⟩
    · simp [Mk.intsFrom]
      omega
  · rintro s ⟨u2, u3, u4, u5, u6, k, rfl, k1⟩
    wtm_at "go"
    exact rfl
  · have : (1 + if (2 : Int) < ((ns.map PyData.int).length : Int) then 2 else ((ns.map PyData.int).length : Int)).toNat ≤ 3 := by
      split <;> omega
    simp only [Mk.intsFrom, List.length_map, List.length_range] at this ⊢
    omega
end K77

end

section
/-! the walk's small tactics: Ev, EvT, EvD, EvDA by the reading's head -/
local macro_rules | `(tactic| wtm_at "dp") => `(tactic| first
  | assumption
  | exact Lk.Dq.int _
  | exact Lk.Dq.bl _
  | exact Lk.Dq.str _
  | exact Lk.Dq.non
  | fail "dp stops")
local macro_rules | `(tactic| wtm_at "rvc") => `(tactic| first
  | trivial
  | (show (0 : Int) < _; first | decide | omega)
  | exact ⟨by decide, by decide⟩
  | exact ⟨by decide, by decide, by decide⟩
  | exact Or.inl ⟨by decide, by decide⟩
  | exact Or.inr ⟨by decide, by decide⟩
  | exact Or.inl ⟨by omega, by omega⟩
  | exact Or.inr ⟨by omega, by omega⟩
  | assumption
  | fail "rvc stops")
local macro_rules | `(tactic| wtm_at "rv") => `(tactic| first
  | with_reducible exact Evl.rv_I0
  | ((with_reducible refine' Evl.rv_I ?c); (case c => wtm_at "rvc"))
  | ((with_reducible refine' Evl.rv_eq ?c); (case c => rfl))
  | ((with_reducible refine' Evl.rv_ne ?c); (case c => rfl))
  | fail "rv stops")
local macro_rules | `(tactic| wtm_at "rel") => `(tactic| first
  | exact ⟨_, rfl, rfl⟩
  | exact ⟨_, _, rfl, rfl⟩
  | exact ⟨_, _, _, rfl, rfl⟩
  | exact ⟨_, _, _, _, rfl, rfl⟩
  | exact ⟨_, rfl, by omega, rfl⟩
  | exact ⟨_, _, rfl, by omega, by omega, rfl⟩
  | exact ⟨_, _, _, rfl, by omega, by omega, rfl⟩
  | assumption
  | fail "rel stops")
local macro_rules | `(tactic| wtm_at "eda") => `(tactic| first
  | with_reducible exact Lk.eda_nil
  | ((with_reducible refine' Lk.eda_cons ?a ?b); (case a => wtm_at "ed"); (case b => wtm_at "eda"))
  | ((with_reducible refine' Lk.eda_star ?a ?b ?k); (case a => wtm_at "ed"); (case b => wtm_at "eda"); (case k => rfl))
  | fail "eda stops")
local macro_rules | `(tactic| wtm_at "ed") => `(tactic| first
  | ((with_reducible refine' Lk.ed_var ?a ?b); (case a => exact rfl); (case b => wtm_at "dp"))
  | with_reducible exact Lk.ed_cI
  | with_reducible exact Lk.ed_cS
  | with_reducible exact Lk.ed_cN
  | with_reducible exact Lk.ed_cB
  | ((with_reducible refine' Lk.ed_tup ?a ?b); (case a => wtm_at "eda"); (case b => first | decide | exact Nat.le_of_ble_eq_true rfl))
  | ((with_reducible refine' Lk.ed_lst ?a ?b); (case a => wtm_at "eda"); (case b => first | decide | exact Nat.le_of_ble_eq_true rfl))
  | ((with_reducible refine' Lk.ed_call ?a ?b); (case a => wtm_at "eda"); (case b => wtm_at "rel"))
  | ((with_reducible refine' Lk.ed_callK ?a ?b); (case a => wtm_at "eda"); (case b => wtm_at "rel"))
  | ((with_reducible refine' Lk.ed_ixT ?a ?b ?c ?k); (case a => wtm_at "ed"); (case b => wtm_at "ev"); (case c => rfl); (case k => rfl))
  | ((with_reducible refine' Lk.ed_ixL ?a ?b ?c ?k); (case a => wtm_at "ed"); (case b => wtm_at "ev"); (case c => rfl); (case k => rfl))
  | (refine' Lk.ed_ev (v := L2.V.int _) ?a ?b; (case a => wtm_at "ev"); (case b => exact Lk.Dq.int _))
  | (refine' Lk.ed_ev (v := L2.V.bl _) ?a ?b; (case a => wtm_at "ev"); (case b => exact Lk.Dq.bl _))
  | (refine' Lk.ed_ev (v := L2.V.str _) ?a ?b; (case a => wtm_at "ev"); (case b => exact Lk.Dq.str _))
  | fail "ed stops")
local macro_rules | `(tactic| wtm_at "ev") => `(tactic| first
  | with_reducible exact Evl.ev_c
  | ((with_reducible refine' Evl.ev_var ?a); (case a => exact rfl))
  | ((with_reducible refine' Lk.ev_eqD ?a ?b ?c ?d); (case a => wtm_at "ed"); (case b => wtm_at "ed"); (case c => wtm_at "sh"); (case d => wtm_at "sh"))
  | ((with_reducible refine' Lk.ev_neD ?a ?b ?c ?d); (case a => wtm_at "ed"); (case b => wtm_at "ed"); (case c => wtm_at "sh"); (case d => wtm_at "sh"))
  | ((with_reducible refine' Evl.ev_op ?a ?b ?c); (case a => wtm_at "ev"); (case b => wtm_at "ev"); (case c => wtm_at "rv"))
  | ((with_reducible refine' Evl.ev_un ?a ?c); (case a => wtm_at "ev"); (case c => with_reducible exact Evl.ru_neg))
  | ((with_reducible refine' Evl.ev_andV ?a ?b); (case a => wtm_at "ev"); (case b => (intro hb; first | exact (Bool.false_ne_true hb).elim | exact (Bool.false_ne_true hb.symm).elim | wtm_at "ev")); (all_goals try exact false))
  | ((with_reducible refine' Evl.ev_orV ?a ?b); (case a => wtm_at "ev"); (case b => (intro hb; first | exact (Bool.false_ne_true hb).elim | exact (Bool.false_ne_true hb.symm).elim | wtm_at "ev")); (all_goals try exact false))
  | ((with_reducible refine' Lk.ev_chain ?a ?b ?c ?d ?e); (case a => wtm_at "ev"); (case b => wtm_at "ev"); (case c => wtm_at "rv"); (case d => (intro hb; wtm_at "ev")); (case e => (intro hb; wtm_at "rv")))
  | ((with_reducible refine' Evl.ev_notV ?a); (case a => wtm_at "ev"))
  | ((with_reducible refine' Lk.ev_edI (Lk.ed_call ?a ?b)); (case a => wtm_at "eda"); (case b => wtm_at "rel"))
  | ((with_reducible refine' Lk.ev_edB (Lk.ed_call ?a ?b)); (case a => wtm_at "eda"); (case b => wtm_at "rel"))
  | ((with_reducible refine' Lk.ev_edS (Lk.ed_call ?a ?b)); (case a => wtm_at "eda"); (case b => wtm_at "rel"))
  | ((with_reducible refine' Lk.ev_edI (Lk.ed_callK ?a ?b)); (case a => wtm_at "eda"); (case b => wtm_at "rel"))
  | ((with_reducible refine' Lk.ev_edI (Lk.ed_ixT ?a ?b ?c ?k)); (case a => wtm_at "ed"); (case b => wtm_at "ev"); (case c => rfl); (case k => rfl))
  | ((with_reducible refine' Lk.ev_edI (Lk.ed_ixL ?a ?b ?c ?k)); (case a => wtm_at "ed"); (case b => wtm_at "ev"); (case c => rfl); (case k => rfl))
  | ((with_reducible refine' Lk.ev_intI ?a); (case a => wtm_at "ev"))
  | ((with_reducible refine' Lk.ev_abs ?a); (case a => wtm_at "ev"))
  | ((with_reducible refine' Lk.ev_min ?a ?b); (case a => wtm_at "ev"); (case b => wtm_at "ev"))
  | ((with_reducible refine' Lk.ev_lenT ?a); (case a => wtm_at "ed"))
  | ((with_reducible refine' Lk.ev_lenL ?a); (case a => wtm_at "ed"))
  | ((with_reducible refine' Lk.ev_isiD ?a ?b); (case a => wtm_at "ed"); (case b => first
      | with_reducible exact Lk.kit_int _
      | with_reducible exact Lk.kit_bool _
      | with_reducible exact Lk.kit_tup _
      | with_reducible exact Lk.kit_lst _
      | with_reducible exact Lk.kit_str _
      | with_reducible exact Lk.kit_dct _))
  | fail "ev stops")
local macro_rules | `(tactic| wtm_at "ea") => `(tactic| first
  | with_reducible exact Evl.ea_nil
  | ((with_reducible refine' Evl.ea_cons ?a ?b); (case a => wtm_at "ev"); (case b => wtm_at "ea"))
  | fail "ea stops")
local macro_rules | `(tactic| wtm_at "sh") => `(tactic| first
  | rfl
  | assumption
  | decide
  | fail "sh stops")
local macro_rules | `(tactic| wtm_at "et") => `(tactic| first
  | ((with_reducible refine' Evl.et_test ?a); (case a => wtm_at "ev"))
  | ((with_reducible refine' Evl.et_B ?a); (case a => wtm_at "ev"))
  | ((with_reducible refine' Evl.et_and ?a ?b); (case a => wtm_at "et"); (case b => (intro hb; first | exact (Bool.false_ne_true hb).elim | exact (Bool.false_ne_true hb.symm).elim | wtm_at "et")); (all_goals try exact false))
  | ((with_reducible refine' Evl.et_or ?a ?b); (case a => wtm_at "et"); (case b => (intro hb; first | exact (Bool.false_ne_true hb).elim | exact (Bool.false_ne_true hb.symm).elim | wtm_at "et")); (all_goals try exact false))
  | ((with_reducible refine' Evl.et_not ?a); (case a => wtm_at "et"))
  | fail "et stops")

/-! part Pc -/
namespace K77
open PySem PySem.Spec PyProof.Rows L2 Evl Lk LamX Mk
theorem facts {w : World} {K : PySem.W.Frag} {h : Heap} {mg : Str → Option Value} {f : Addr} (X : K.In h) (G : h.Ns mainGlobals mg) (hfa : mg ("law" : Str) = some (.ref f)) (c : He.SaysX faL fnL [] tfL exL w h K) : LawAtS Lw w K (L2.CX Lw.prog w) 11 63 "script" mg f h := by
  have cd : He.SaysD faL fnL K := c.t.d
  have mo := c.more
  unfold exL at mo
  simp only [Bool.and_eq_true] at mo
  obtain ⟨x0, x1, x2, x3, x4, x5, x6, x7, x8, x9, x10, x11, x12, x13, x14, x15, x16, x17, x18, x19, x20, x21, x22, x23⟩ := mo
  obtain ⟨fd__law_begun, F__law_begun⟩ := cd.def_ 0 (d := dd "_law_begun" s__law_begun) rfl
  have g__law_begun := He.glo_ok X G (cd.fact 0 (f := .glo "_law_begun") rfl)
  obtain ⟨fd__law_mixed, F__law_mixed⟩ := cd.def_ 1 (d := dd "_law_mixed" s__law_mixed) rfl
  have g__law_mixed := He.glo_ok X G (cd.fact 1 (f := .glo "_law_mixed") rfl)
  obtain ⟨fd__law_draw, F__law_draw⟩ := cd.def_ 2 (d := dd "_law_draw" s__law_draw) rfl
  have g__law_draw := He.glo_ok X G (cd.fact 2 (f := .glo "_law_draw") rfl)
  obtain ⟨fd__law_pick, F__law_pick⟩ := cd.def_ 3 (d := dd "_law_pick" s__law_pick) rfl
  have g__law_pick := He.glo_ok X G (cd.fact 3 (f := .glo "_law_pick") rfl)
  obtain ⟨fd__law_letters, F__law_letters⟩ := cd.def_ 4 (d := dd "_law_letters" s__law_letters) rfl
  have g__law_letters := He.glo_ok X G (cd.fact 4 (f := .glo "_law_letters") rfl)
  obtain ⟨fd__law_new, F__law_new⟩ := cd.def_ 5 (d := dd "_law_new" s__law_new) rfl
  have g__law_new := He.glo_ok X G (cd.fact 5 (f := .glo "_law_new") rfl)
  obtain ⟨fd__law_names, F__law_names⟩ := cd.def_ 6 (d := dd "_law_names" s__law_names) rfl
  have g__law_names := He.glo_ok X G (cd.fact 6 (f := .glo "_law_names") rfl)
  obtain ⟨fd__law_house, F__law_house⟩ := cd.def_ 7 (d := dd "_law_house" s__law_house) rfl
  have g__law_house := He.glo_ok X G (cd.fact 7 (f := .glo "_law_house") rfl)
  obtain ⟨fd__law_bent, F__law_bent⟩ := cd.def_ 8 (d := dd "_law_bent" s__law_bent) rfl
  have g__law_bent := He.glo_ok X G (cd.fact 8 (f := .glo "_law_bent") rfl)
  obtain ⟨fd_is_name, F_is_name⟩ := cd.def_ 9 (d := dd "is_name" s_is_name) rfl
  have g_is_name := He.glo_ok X G (cd.fact 9 (f := .glo "is_name") rfl)
  obtain ⟨fd_names_fault, F_names_fault⟩ := cd.def_ 10 (d := dd "names_fault" s_names_fault) rfl
  have g_names_fault := He.glo_ok X G (cd.fact 10 (f := .glo "names_fault") rfl)
  obtain ⟨fd_door_fault, F_door_fault⟩ := cd.def_ 11 (d := dd "door_fault" s_door_fault) rfl
  have g_door_fault := He.glo_ok X G (cd.fact 11 (f := .glo "door_fault") rfl)
  obtain ⟨fd_doors_fault, F_doors_fault⟩ := cd.def_ 12 (d := dd "doors_fault" s_doors_fault) rfl
  have g_doors_fault := He.glo_ok X G (cd.fact 12 (f := .glo "doors_fault") rfl)
  obtain ⟨fd_is_whole, F_is_whole⟩ := cd.def_ 13 (d := dd "is_whole" s_is_whole) rfl
  have g_is_whole := He.glo_ok X G (cd.fact 13 (f := .glo "is_whole") rfl)
  obtain ⟨fd_right_fault, F_right_fault⟩ := cd.def_ 14 (d := dd "right_fault" s_right_fault) rfl
  have g_right_fault := He.glo_ok X G (cd.fact 14 (f := .glo "right_fault") rfl)
  obtain ⟨fd_rights_fault, F_rights_fault⟩ := cd.def_ 15 (d := dd "rights_fault" s_rights_fault) rfl
  have g_rights_fault := He.glo_ok X G (cd.fact 15 (f := .glo "rights_fault") rfl)
  obtain ⟨fd_fault_of, F_fault_of⟩ := cd.def_ 16 (d := dd "fault_of" s_fault_of) rfl
  have g_fault_of := He.glo_ok X G (cd.fact 16 (f := .glo "fault_of") rfl)
  obtain ⟨fd_is_building, F_is_building⟩ := cd.def_ 17 (d := dd "is_building" s_is_building) rfl
  have g_is_building := He.glo_ok X G (cd.fact 17 (f := .glo "is_building") rfl)
  obtain ⟨fd__law_caught, F__law_caught⟩ := cd.def_ 18 (d := dd "_law_caught" s__law_caught) rfl
  have g__law_caught := He.glo_ok X G (cd.fact 18 (f := .glo "_law_caught") rfl)
  obtain ⟨fd_need_building, F_need_building⟩ := cd.def_ 19 (d := dd "need_building" s_need_building) rfl
  have g_need_building := He.glo_ok X G (cd.fact 19 (f := .glo "need_building") rfl)
  obtain ⟨fd_need_door, F_need_door⟩ := cd.def_ 20 (d := dd "need_door" s_need_door) rfl
  have g_need_door := He.glo_ok X G (cd.fact 20 (f := .glo "need_door") rfl)
  obtain ⟨fd_need_side, F_need_side⟩ := cd.def_ 21 (d := dd "need_side" s_need_side) rfl
  have g_need_side := He.glo_ok X G (cd.fact 21 (f := .glo "need_side") rfl)
  obtain ⟨fd_door_named, F_door_named⟩ := cd.def_ 22 (d := dd "door_named" s_door_named) rfl
  have g_door_named := He.glo_ok X G (cd.fact 22 (f := .glo "door_named") rfl)
  obtain ⟨fd_area_at, F_area_at⟩ := cd.def_ 23 (d := dd "area_at" s_area_at) rfl
  have g_area_at := He.glo_ok X G (cd.fact 23 (f := .glo "area_at") rfl)
  obtain ⟨fd__law_sides_right, F__law_sides_right⟩ := cd.def_ 24 (d := dd "_law_sides_right" s__law_sides_right) rfl
  have g__law_sides_right := He.glo_ok X G (cd.fact 24 (f := .glo "_law_sides_right") rfl)
  obtain ⟨fd__law_tells, F__law_tells⟩ := cd.def_ 25 (d := dd "_law_tells" s__law_tells) rfl
  have g__law_tells := He.glo_ok X G (cd.fact 25 (f := .glo "_law_tells") rfl)
  obtain ⟨fd__law_is_named, F__law_is_named⟩ := cd.def_ 26 (d := dd "_law_is_named" s__law_is_named) rfl
  have g__law_is_named := He.glo_ok X G (cd.fact 26 (f := .glo "_law_is_named") rfl)
  obtain ⟨fd__law_are_named, F__law_are_named⟩ := cd.def_ 27 (d := dd "_law_are_named" s__law_are_named) rfl
  have g__law_are_named := He.glo_ok X G (cd.fact 27 (f := .glo "_law_are_named") rfl)
  obtain ⟨fd__law_is_doored, F__law_is_doored⟩ := cd.def_ 28 (d := dd "_law_is_doored" s__law_is_doored) rfl
  have g__law_is_doored := He.glo_ok X G (cd.fact 28 (f := .glo "_law_is_doored") rfl)
  obtain ⟨fd__law_is_housed, F__law_is_housed⟩ := cd.def_ 29 (d := dd "_law_is_housed" s__law_is_housed) rfl
  have g__law_is_housed := He.glo_ok X G (cd.fact 29 (f := .glo "_law_is_housed") rfl)
  obtain ⟨fd_need_free, F_need_free⟩ := cd.def_ 30 (d := dd "need_free" s_need_free) rfl
  have g_need_free := He.glo_ok X G (cd.fact 30 (f := .glo "need_free") rfl)
  obtain ⟨fd_steps, F_steps⟩ := cd.def_ 31 (d := dd "steps" s_steps) rfl
  have g_steps := He.glo_ok X G (cd.fact 31 (f := .glo "steps") rfl)
  obtain ⟨fd_come_to, F_come_to⟩ := cd.def_ 32 (d := dd "come_to" s_come_to) rfl
  have g_come_to := He.glo_ok X G (cd.fact 32 (f := .glo "come_to") rfl)
  obtain ⟨fd_joined, F_joined⟩ := cd.def_ 33 (d := dd "joined" s_joined) rfl
  have g_joined := He.glo_ok X G (cd.fact 33 (f := .glo "joined") rfl)
  obtain ⟨fd__law_refused_right, F__law_refused_right⟩ := cd.def_ 34 (d := dd "_law_refused_right" s__law_refused_right) rfl
  have g__law_refused_right := He.glo_ok X G (cd.fact 34 (f := .glo "_law_refused_right") rfl)
  obtain ⟨fd_law, F_law⟩ := cd.def_ 35 (d := dd "law" s_law) rfl
  have g_law := He.glo_ok X G (cd.fact 35 (f := .glo "law") rfl)
  have g_KeptError := He.glo_ok X G (cd.fact 36 (f := .glo "KeptError") rfl)
  have g_BadBuilding := He.glo_ok X G (cd.fact 37 (f := .glo "BadBuilding") rfl)
  have g_BadDoor := He.glo_ok X G (cd.fact 38 (f := .glo "BadDoor") rfl)
  have g_BadDoors := He.glo_ok X G (cd.fact 39 (f := .glo "BadDoors") rfl)
  have g_BadSide := He.glo_ok X G (cd.fact 40 (f := .glo "BadSide") rfl)
  have T : Txt K mg := {
    n_abs := He.free_ok X G (cd.fact 42 (f := .free "abs") rfl)
    n_all := He.free_ok X G (cd.fact 43 (f := .free "all") rfl)
    n_any := He.free_ok X G (cd.fact 44 (f := .free "any") rfl)
    n_bool := He.free_ok X G (cd.fact 45 (f := .free "bool") rfl)
    n_enumerate := He.free_ok X G (cd.fact 46 (f := .free "enumerate") rfl)
    n_int := He.free_ok X G (cd.fact 47 (f := .free "int") rfl)
    n_isinstance := He.free_ok X G (cd.fact 48 (f := .free "isinstance") rfl)
    n_len := He.free_ok X G (cd.fact 49 (f := .free "len") rfl)
    n_list := He.free_ok X G (cd.fact 50 (f := .free "list") rfl)
    n_min := He.free_ok X G (cd.fact 51 (f := .free "min") rfl)
    n_range := He.free_ok X G (cd.fact 52 (f := .free "range") rfl)
    n_set := He.free_ok X G (cd.fact 53 (f := .free "set") rfl)
    n_sorted := He.free_ok X G (cd.fact 54 (f := .free "sorted") rfl)
    n_str := He.free_ok X G (cd.fact 55 (f := .free "str") rfl)
    n_tuple := He.free_ok X G (cd.fact 56 (f := .free "tuple") rfl)
    v_LETTERS := ⟨by
      obtain ⟨t, e⟩ := He.str_ok X G (cd.fact 41 (f := .str "LETTERS" "abcdefghijklmnopqrstuvwxyz") rfl)
      exact ⟨_, e, t, rfl⟩, fun _ => .str _⟩
    x_BadBuilding := by
      obtain ⟨y1, y2, y3, y4⟩ := He.exc_ok (cd.fact 57 (f := .exc "BadBuilding") rfl)
      exact ⟨y1, g_BadBuilding, y2, y3, y4⟩
    x_BadDoor := by
      obtain ⟨y1, y2, y3, y4⟩ := He.exc_ok (cd.fact 58 (f := .exc "BadDoor") rfl)
      exact ⟨y1, g_BadDoor, y2, y3, y4⟩
    x_BadDoors := by
      obtain ⟨y1, y2, y3, y4⟩ := He.exc_ok (cd.fact 59 (f := .exc "BadDoors") rfl)
      exact ⟨y1, g_BadDoors, y2, y3, y4⟩
    x_BadSide := by
      obtain ⟨y1, y2, y3, y4⟩ := He.exc_ok (cd.fact 60 (f := .exc "BadSide") rfl)
      exact ⟨y1, g_BadSide, y2, y3, y4⟩ }
  have Xk : Xf K := ⟨excB_ok x0, of_decide_eq_true x1, of_decide_eq_true x2, of_decide_eq_true x3, of_decide_eq_true x4, excB_ok x5, of_decide_eq_true x6, of_decide_eq_true x7, of_decide_eq_true x8, of_decide_eq_true x9, excB_ok x10, of_decide_eq_true x11, of_decide_eq_true x12, of_decide_eq_true x13, of_decide_eq_true x14, excB_ok x15, of_decide_eq_true x16, of_decide_eq_true x17, of_decide_eq_true x18, of_decide_eq_true x19, of_decide_eq_true x20, of_decide_eq_true x21, of_decide_eq_true x22⟩
  have Gc : Cg K mg := ⟨⟨_, fd__law_caught, F__law_caught, g__law_caught⟩, g_KeptError⟩
  have e0 := hfa.symm.trans g_law
  cases e0
  refine ⟨fd_law, tfL.map (He.cT K), spM K (tT K) (d_law K), ?_, ?_, ?_, fun s u => FunD.bindsA (ps := ["script"]) F_law (fun _ _ _ _ _ _ us hl => match us, hl with | [_], _ => rfl) s [u] rfl, ?_, ?_⟩
  · intro p hp
    obtain ⟨q, hq, rfl⟩ := List.mem_map.mp hp
    exact c.empty q hq
  · intro p hp
    obtain ⟨q, hq, rfl⟩ := List.mem_map.mp hp
    exact c.out q hq
  · intro p hp
    obtain ⟨q, hq, rfl⟩ := List.mem_map.mp hp
    exact PySem.W.codeHd_of_K X (c.hd q hq)
  · intro H a ns hl hb hT hS
    refine sp_law (fun p hp => ?_) hS (law_ok Xk ns hl)
    unfold tT at hp
    simp only [List.mem_cons, List.not_mem_nil, or_false] at hp
    rcases hp with hp | hp
    · subst hp
      exact TabS.nil (hT _ (List.mem_map.mpr ⟨("_law_sides_right", none), by simp [tfL], rfl⟩))
    · subst hp
      exact TabS.nil (hT _ (List.mem_map.mpr ⟨("_law_refused_right", none), by simp [tfL], rfl⟩))
  intro base KB GB TB
  have L__law_sides_right : LamD K mg base (tT K) "_law_sides_right" "_law_sides_right.<locals>.<lambda>" := ⟨TB _ (List.mem_map.mpr ⟨("_law_sides_right", none), by simp [tfL], rfl⟩), by simp [tT], lam_one (of_decide_eq_true x23) (by simp [tT])⟩
  have L__law_refused_right : LamD K mg base (tT K) "_law_refused_right" "_law_refused_right.<locals>.<lambda>" := ⟨TB _ (List.mem_map.mpr ⟨("_law_refused_right", none), by simp [tfL], rfl⟩), by simp [tT], lam_one (of_decide_eq_true x23) (by simp [tT])⟩
  have o__law_begun := ok__law_begun (P := Lw.prog) (w := w) (base := base) T F__law_begun
  have c__law_begun : Cd Lw.prog w K mg base (tT K) 1 "_law_begun" dBegun := cd_mk ((fnok_cx o__law_begun).imp fun _ _ _ _ q => sp_begun q) g__law_begun F__law_begun.kp (F__law_begun.bindsN fun _ _ _ _ _ _ us hl => match us, hl with | [_], _ => rfl)
  have o__law_mixed := ok__law_mixed (P := Lw.prog) (w := w) (base := base) T F__law_mixed
  have m__law_mixed : C__law_mixed Lw.prog w K mg base := ⟨_, _, _, o__law_mixed, g__law_mixed, F__law_mixed.kp, (F__law_mixed.bindsN fun _ _ _ _ _ _ us hl => match us, hl with | [_], _ => rfl)⟩
  have o__law_draw := ok__law_draw (P := Lw.prog) (w := w) (base := base) T m__law_mixed F__law_draw
  have c__law_draw : Cd Lw.prog w K mg base (tT K) 2 "_law_draw" dDraw := cd_mk ((fnok_cx o__law_draw).imp fun _ _ _ _ q => sp_draw q) g__law_draw F__law_draw.kp (F__law_draw.bindsN fun _ _ _ _ _ _ us hl => match us, hl with | [_, _], _ => rfl)
  have o__law_pick := ok__law_pick (P := Lw.prog) (w := w) (base := base) (TT := tT K) T c__law_draw F__law_pick
  have c__law_pick : Cd Lw.prog w K mg base (tT K) 3 "_law_pick" (d__law_pick K) := cd_mk o__law_pick g__law_pick F__law_pick.kp (F__law_pick.bindsN fun _ _ _ _ _ _ us hl => match us, hl with | [_, _], _ => rfl)
  have o__law_letters := ok__law_letters (P := Lw.prog) (w := w) (base := base) (TT := tT K) T c__law_pick F__law_letters
  have c__law_letters : Cd Lw.prog w K mg base (tT K) 4 "_law_letters" (d__law_letters K) := cd_mk o__law_letters g__law_letters F__law_letters.kp (F__law_letters.bindsN fun _ _ _ _ _ _ us hl => match us, hl with | [_, _], _ => rfl)
  have o__law_new := ok__law_new (P := Lw.prog) (w := w) (base := base) (TT := tT K) T c__law_letters c__law_pick F__law_new
  have c__law_new : Cd Lw.prog w K mg base (tT K) 5 "_law_new" (d__law_new K) := cd_mk o__law_new g__law_new F__law_new.kp (F__law_new.bindsN fun _ _ _ _ _ _ us hl => match us, hl with | [_, _], _ => rfl)
  have o__law_names := ok__law_names (P := Lw.prog) (w := w) (base := base) (TT := tT K) T c__law_new F__law_names
  have c__law_names : Cd Lw.prog w K mg base (tT K) 6 "_law_names" (d__law_names K) := cd_mk o__law_names g__law_names F__law_names.kp (F__law_names.bindsN fun _ _ _ _ _ _ us hl => match us, hl with | [_, _], _ => rfl)
  have o__law_house := ok__law_house (P := Lw.prog) (w := w) (base := base) (TT := tT K) T c__law_names c__law_draw c__law_pick F__law_house
  have c__law_house : Cd Lw.prog w K mg base (tT K) 7 "_law_house" (d__law_house K) := cd_mk o__law_house g__law_house F__law_house.kp (F__law_house.bindsN fun _ _ _ _ _ _ us hl => match us, hl with | [_], _ => rfl)
  have c__law_bent_0 : Cd Lw.prog w K mg base (tT K) 3 "_law_bent" (d__law_bent K 0) := cd_mk (ok_never (ps := ["state", "value"])) g__law_bent F__law_bent.kp (F__law_bent.bindsN fun _ _ _ _ _ _ us hl => match us, hl with | [_, _], _ => rfl)
  have c__law_bent_1 : Cd Lw.prog w K mg base (tT K) 4 "_law_bent" (d__law_bent K 1) := cd_mk (ok__law_bent (P := Lw.prog) (w := w) (base := base) (TT := tT K) 0 T c__law_draw c__law_pick c__law_bent_0 F__law_bent) g__law_bent F__law_bent.kp (F__law_bent.bindsN fun _ _ _ _ _ _ us hl => match us, hl with | [_, _], _ => rfl)
  have c__law_bent_2 : Cd Lw.prog w K mg base (tT K) 5 "_law_bent" (d__law_bent K 2) := cd_mk (ok__law_bent (P := Lw.prog) (w := w) (base := base) (TT := tT K) 1 T c__law_draw c__law_pick c__law_bent_1 F__law_bent) g__law_bent F__law_bent.kp (F__law_bent.bindsN fun _ _ _ _ _ _ us hl => match us, hl with | [_, _], _ => rfl)
  have c__law_bent_3 : Cd Lw.prog w K mg base (tT K) 6 "_law_bent" (d__law_bent K 3) := cd_mk (ok__law_bent (P := Lw.prog) (w := w) (base := base) (TT := tT K) 2 T c__law_draw c__law_pick c__law_bent_2 F__law_bent) g__law_bent F__law_bent.kp (F__law_bent.bindsN fun _ _ _ _ _ _ us hl => match us, hl with | [_, _], _ => rfl)
  have c__law_bent_4 : Cd Lw.prog w K mg base (tT K) 7 "_law_bent" (d__law_bent K 4) := cd_mk (ok__law_bent (P := Lw.prog) (w := w) (base := base) (TT := tT K) 3 T c__law_draw c__law_pick c__law_bent_3 F__law_bent) g__law_bent F__law_bent.kp (F__law_bent.bindsN fun _ _ _ _ _ _ us hl => match us, hl with | [_, _], _ => rfl)
  have c__law_bent_5 : Cd Lw.prog w K mg base (tT K) 8 "_law_bent" (d__law_bent K 5) := cd_mk (ok__law_bent (P := Lw.prog) (w := w) (base := base) (TT := tT K) 4 T c__law_draw c__law_pick c__law_bent_4 F__law_bent) g__law_bent F__law_bent.kp (F__law_bent.bindsN fun _ _ _ _ _ _ us hl => match us, hl with | [_, _], _ => rfl)
  have c__law_bent := c__law_bent_5
  have o_is_name := ok_is_name (P := Lw.prog) (w := w) (base := base) (TT := tT K) T F_is_name
  have c_is_name : Cd Lw.prog w K mg base (tT K) 1 "is_name" (d_is_name K) := cd_mk o_is_name g_is_name F_is_name.kp (F_is_name.bindsN fun _ _ _ _ _ _ us hl => match us, hl with | [_], _ => rfl)
  have o_names_fault := ok_names_fault (P := Lw.prog) (w := w) (base := base) (TT := tT K) T c_is_name F_names_fault
  have c_names_fault : Cd Lw.prog w K mg base (tT K) 2 "names_fault" (d_names_fault K) := cd_mk o_names_fault g_names_fault F_names_fault.kp (F_names_fault.bindsN fun _ _ _ _ _ _ us hl => match us, hl with | [_, _, _, _], _ => rfl)
  have o_door_fault := ok_door_fault (P := Lw.prog) (w := w) (base := base) (TT := tT K) T c_is_name F_door_fault
  have c_door_fault : Cd Lw.prog w K mg base (tT K) 2 "door_fault" (d_door_fault K) := cd_mk o_door_fault g_door_fault F_door_fault.kp (F_door_fault.bindsN fun _ _ _ _ _ _ us hl => match us, hl with | [_, _, _], _ => rfl)
  have o_doors_fault := ok_doors_fault (P := Lw.prog) (w := w) (base := base) (TT := tT K) T c_door_fault F_doors_fault
  have c_doors_fault : Cd Lw.prog w K mg base (tT K) 3 "doors_fault" (d_doors_fault K) := cd_mk o_doors_fault g_doors_fault F_doors_fault.kp (F_doors_fault.bindsN fun _ _ _ _ _ _ us hl => match us, hl with | [_, _], _ => rfl)
  have o_is_whole := ok_is_whole (P := Lw.prog) (w := w) (base := base) (TT := tT K) T F_is_whole
  have c_is_whole : Cd Lw.prog w K mg base (tT K) 1 "is_whole" (d_is_whole K) := cd_mk o_is_whole g_is_whole F_is_whole.kp (F_is_whole.bindsN fun _ _ _ _ _ _ us hl => match us, hl with | [_, _, _], _ => rfl)
  have o_right_fault := ok_right_fault (P := Lw.prog) (w := w) (base := base) (TT := tT K) T c_is_name c_is_whole F_right_fault
  have c_right_fault : Cd Lw.prog w K mg base (tT K) 2 "right_fault" (d_right_fault K) := cd_mk o_right_fault g_right_fault F_right_fault.kp (F_right_fault.bindsN fun _ _ _ _ _ _ us hl => match us, hl with | [_, _, _], _ => rfl)
  have o_rights_fault := ok_rights_fault (P := Lw.prog) (w := w) (base := base) (TT := tT K) T c_right_fault F_rights_fault
  have c_rights_fault : Cd Lw.prog w K mg base (tT K) 3 "rights_fault" (d_rights_fault K) := cd_mk o_rights_fault g_rights_fault F_rights_fault.kp (F_rights_fault.bindsN fun _ _ _ _ _ _ us hl => match us, hl with | [_, _, _], _ => rfl)
  have o_fault_of := ok_fault_of (P := Lw.prog) (w := w) (base := base) (TT := tT K) T c_names_fault c_doors_fault c_rights_fault F_fault_of
  have c_fault_of : Cd Lw.prog w K mg base (tT K) 4 "fault_of" (d_fault_of K) := cd_mk o_fault_of g_fault_of F_fault_of.kp (F_fault_of.bindsN fun _ _ _ _ _ _ us hl => match us, hl with | [_], _ => rfl)
  have o_is_building := ok_is_building (P := Lw.prog) (w := w) (base := base) (TT := tT K) T c_fault_of F_is_building
  have c_is_building : Cd Lw.prog w K mg base (tT K) 5 "is_building" (d_is_building K) := cd_mk o_is_building g_is_building F_is_building.kp (F_is_building.bindsN fun _ _ _ _ _ _ us hl => match us, hl with | [_], _ => rfl)
  have w_is_building := cdk_mk (x := "is_building") o_is_building g_is_building F_is_building.kp (kbinds1 F_is_building (p := "value") (fun _ _ _ _ _ _ _ => rfl) fun _ _ _ _ _ _ _ => rfl)
  have o_need_building := ok_need_building (P := Lw.prog) (w := w) (base := base) (TT := tT K) T c_is_building F_need_building
  have c_need_building : Cd Lw.prog w K mg base (tT K) 6 "need_building" (d_need_building K) := cd_mk o_need_building g_need_building F_need_building.kp (F_need_building.bindsN fun _ _ _ _ _ _ us hl => match us, hl with | [_], _ => rfl)
  have o_need_door := ok_need_door (P := Lw.prog) (w := w) (base := base) (TT := tT K) T c_is_name F_need_door
  have c_need_door : Cd Lw.prog w K mg base (tT K) 2 "need_door" (d_need_door K) := cd_mk o_need_door g_need_door F_need_door.kp (F_need_door.bindsN fun _ _ _ _ _ _ us hl => match us, hl with | [_, _], _ => rfl)
  have o_need_side := ok_need_side (P := Lw.prog) (w := w) (base := base) (TT := tT K) T c_is_whole F_need_side
  have c_need_side : Cd Lw.prog w K mg base (tT K) 2 "need_side" (d_need_side K) := cd_mk o_need_side g_need_side F_need_side.kp (F_need_side.bindsN fun _ _ _ _ _ _ us hl => match us, hl with | [_], _ => rfl)
  have o_door_named := ok_door_named (P := Lw.prog) (w := w) (base := base) (TT := tT K) T F_door_named
  have c_door_named : Cd Lw.prog w K mg base (tT K) 1 "door_named" (d_door_named K) := cd_mk o_door_named g_door_named F_door_named.kp (F_door_named.bindsN fun _ _ _ _ _ _ us hl => match us, hl with | [_, _], _ => rfl)
  have o_area_at := ok_area_at (P := Lw.prog) (w := w) (base := base) (TT := tT K) T c_need_building c_need_door c_need_side c_door_named F_area_at
  have c_area_at : Cd Lw.prog w K mg base (tT K) 7 "area_at" (d_area_at K) := cd_mk o_area_at g_area_at F_area_at.kp (F_area_at.bindsN fun _ _ _ _ _ _ us hl => match us, hl with | [_, _, _], _ => rfl)
  have u_area_at_021 := cdp_mk (x := "area_at") (p := [0, 2, 1]) ⟨by decide, by decide⟩ o_area_at g_area_at F_area_at.kp (kbindsP (ks := ["building", "side", "door"]) F_area_at ⟨by decide, by decide⟩ rfl (by decide) (fun _ _ _ _ _ _ ws hl => match ws, hl with | [a0, a1, a2], _ => rfl))
  have o__law_sides_right := ok__law_sides_right (P := Lw.prog) (w := w) (base := base) (TT := tT K) T Gc L__law_sides_right c_area_at u_area_at_021 c__law_pick F__law_sides_right rfl
  have c__law_sides_right : Cd Lw.prog w K mg base (tT K) 10 "_law_sides_right" (d__law_sides_right K) := cd_mk o__law_sides_right g__law_sides_right F__law_sides_right.kp (F__law_sides_right.bindsN fun _ _ _ _ _ _ us hl => match us, hl with | [_, _], _ => rfl)
  have o__law_tells := ok__law_tells (P := Lw.prog) (w := w) (base := base) (TT := tT K) T F__law_tells
  have c__law_tells : Cd Lw.prog w K mg base (tT K) 1 "_law_tells" (d__law_tells K) := cd_mk o__law_tells g__law_tells F__law_tells.kp (F__law_tells.bindsN fun _ _ _ _ _ _ us hl => match us, hl with | [_, _], _ => rfl)
  have o__law_is_named := ok__law_is_named (P := Lw.prog) (w := w) (base := base) (TT := tT K) T F__law_is_named
  have c__law_is_named : Cd Lw.prog w K mg base (tT K) 1 "_law_is_named" (d__law_is_named K) := cd_mk o__law_is_named g__law_is_named F__law_is_named.kp (F__law_is_named.bindsN fun _ _ _ _ _ _ us hl => match us, hl with | [_], _ => rfl)
  have o__law_are_named := ok__law_are_named (P := Lw.prog) (w := w) (base := base) (TT := tT K) T c__law_is_named F__law_are_named
  have c__law_are_named : Cd Lw.prog w K mg base (tT K) 2 "_law_are_named" (d__law_are_named K) := cd_mk o__law_are_named g__law_are_named F__law_are_named.kp (F__law_are_named.bindsN fun _ _ _ _ _ _ us hl => match us, hl with | [_, _, _], _ => rfl)
  have o__law_is_doored := ok__law_is_doored (P := Lw.prog) (w := w) (base := base) (TT := tT K) T c__law_are_named c__law_is_named F__law_is_doored
  have c__law_is_doored : Cd Lw.prog w K mg base (tT K) 3 "_law_is_doored" (d__law_is_doored K) := cd_mk o__law_is_doored g__law_is_doored F__law_is_doored.kp (F__law_is_doored.bindsN fun _ _ _ _ _ _ us hl => match us, hl with | [_, _], _ => rfl)
  have o__law_is_housed := ok__law_is_housed (P := Lw.prog) (w := w) (base := base) (TT := tT K) T c__law_are_named c__law_is_doored F__law_is_housed
  have c__law_is_housed : Cd Lw.prog w K mg base (tT K) 4 "_law_is_housed" (d__law_is_housed K) := cd_mk o__law_is_housed g__law_is_housed F__law_is_housed.kp (F__law_is_housed.bindsN fun _ _ _ _ _ _ us hl => match us, hl with | [_], _ => rfl)
  have o_need_free := ok_need_free (P := Lw.prog) (w := w) (base := base) (TT := tT K) T c_is_name F_need_free
  have c_need_free : Cd Lw.prog w K mg base (tT K) 2 "need_free" (d_need_free K) := cd_mk o_need_free g_need_free F_need_free.kp (F_need_free.bindsN fun _ _ _ _ _ _ us hl => match us, hl with | [_, _], _ => rfl)
  have o_steps := ok_steps (P := Lw.prog) (w := w) (base := base) (TT := tT K) T F_steps
  have c_steps : Cd Lw.prog w K mg base (tT K) 1 "steps" (d_steps K) := cd_mk o_steps g_steps F_steps.kp (F_steps.bindsN fun _ _ _ _ _ _ us hl => match us, hl with | [_, _], _ => rfl)
  have o_come_to := ok_come_to (P := Lw.prog) (w := w) (base := base) (TT := tT K) T c_steps F_come_to
  have c_come_to : Cd Lw.prog w K mg base (tT K) 2 "come_to" (d_come_to K) := cd_mk o_come_to g_come_to F_come_to.kp (F_come_to.bindsN fun _ _ _ _ _ _ us hl => match us, hl with | [_, _, _, _], _ => rfl)
  have o_joined := ok_joined (P := Lw.prog) (w := w) (base := base) (TT := tT K) T c_need_building c_need_free c_come_to F_joined
  have c_joined : Cd Lw.prog w K mg base (tT K) 7 "joined" (d_joined K) := cd_mk o_joined g_joined F_joined.kp (F_joined.bindsN fun _ _ _ _ _ _ us hl => match us, hl with | [_, _], _ => rfl)
  have o__law_refused_right := ok__law_refused_right (P := Lw.prog) (w := w) (base := base) (TT := tT K) T Gc L__law_refused_right c_area_at c_joined c__law_is_housed F__law_refused_right rfl
  have c__law_refused_right : Cd Lw.prog w K mg base (tT K) 10 "_law_refused_right" (d__law_refused_right K) := cd_mk o__law_refused_right g__law_refused_right F__law_refused_right.kp (F__law_refused_right.bindsN fun _ _ _ _ _ _ us hl => match us, hl with | [_, _], _ => rfl)
  exact ok_law (P := Lw.prog) (w := w) (base := base) (TT := tT K) T c__law_begun c__law_house c__law_sides_right c_is_building w_is_building c__law_bent c__law_refused_right c__law_tells c__law_is_housed c__law_letters c__law_pick c_is_name c__law_is_named F_law
end K77

/-! part Po -/
namespace K77
open PySem PySem.Spec PyProof.Rows L2
end K77
open PySem PySem.W PySem.Calls PyProof.Rows
theorem PySem.Challenge.cw_housekept_k77_buildings_judged_holds : PySem.Challenge.rw_housekept_k77_buildings_judged.Holds := by
  w_on; o_law
  refine HandSHeadRun.head_any (r := K77.Rw) (q := view K77.Rw.prog [45]) (H := K77.hkL) (ob := K77.obL) (M := 4000) (loose := K77.looseL) (d := HandSHeadRun.topDef K77.Rw.prog 45) (kwd := []) K77.obL_eq
    (by kernel_rfl) (fun s => by kernel_rfl) K77.run (by kernel_rfl) (by kernel_rfl) (by kernel_rfl) (by rfl) (by first | assumption | decide +kernel) (by decide +kernel) ⟨rfl, rfl, rfl, rfl, rfl, by decide +kernel⟩ ?hw ?hc
  case hw => w_witness2
  case hc =>
    refine LamX.walk_ofTsE (l := K77.Lw) (n := 63) (k := 11) (x := "script") (CX := fun w => L2.CX K77.Lw.prog w) rfl (by decide) (by kernel_rfl) ⟨rfl, by decide, by decide⟩ ?F (fun _ _ _ _ _ z => by
      obtain ⟨_, _, _, _, _, _, _, _, _, _, _, _, z⟩ := z
      exact z)
    intro w mg fa h Y G hmg0
    obtain ⟨K, KX, c⟩ := Y
    have hmg : mg ("law" : PySem.Str) = some (.ref fa) := by
      have e : (HandSHeadRun.topDef K77.Rw.prog 45).name = ("law" : PySem.Str) := by kernel_rfl
      rw [← e]
      exact hmg0
    exact ⟨K, KX, K77.facts KX G hmg c⟩

end
