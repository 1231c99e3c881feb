import PyProof.Rows.All
import Wide.All
import OpenK.AllK
import Wide.FinOn
import HandS.ForMost
import HandS.Exc
import HandS.TryOnly
import HandS.ExcOwn
import HandS.ExcIs
import HandS.ExcValue
import HandS.WordsExc
import HandS.Lambda
import HandS.IsInst
import HandS.Evl
import HandS.Deep
import HandS.Wide
import HandS.Star
import HandS.RaiseMore
import HandS.Defaults
import HandS.Conv
import HandS.HeadHook4
import HandS.HeadWalk
import HandS.NestedK
import HandS.TupSets
import HandS.Steps
import HandS.TupLe
import HandS.Style
import HandS.SetFor
import HandS.Strs
import HandS.TupAny
import HandS.TupMul
import HandS.SortInts
import HandS.Head0
import HandS.Head1
import HandS.Head2
import HandS.HeadEnd
import HandS.HeadHook1
import HandS.HeadHook2
import KE.KStateDown
import PySem.Challenge.RW_housekept_k81_calendars_day_by_day
set_option Elab.async false
set_option linter.all false
set_option maxRecDepth 100000
set_option maxHeartbeats 8000000
namespace Mk
open PySem PySem.Spec PyProof.Rows L2
def toV : Value → V
  | .none => .non
  | .bool b => .bl b
  | .int i _ => .int i
  | .str s _ => .str s
  | .ref a => .ref a
  | _ => .non
def datB (K : PySem.W.Frag) : Nat → V → PyData → Bool
  | 0, _, _ => false
  | n + 1, v, d => match v, d with
    | .non, .none => true
    | .bl b, .bool c => b == c
    | .int i, .int j => decide (i = j)
    | .str s, .str t => decide (s = t)
    | .ref a, .tuple ds => (match K.lookup a with
      | some ⟨.type c, _, .seq its _, _⟩ => decide (c = "tuple") && (decide (its.size ≤ sizeLine) && (He.relAll (its.toList.map toV) its.toList && (decide (its.toList.length = ds.length) && ((its.toList.map toV).zip ds).all fun p => datB K n p.1 p.2)))
      | _ => false)
    | _, _ => false
/-- of a class of exceptions -/
def excB (K : PySem.W.Frag) (x : Str) : Bool :=
  He.eqO (PySem.W.findIn K (.ref (He.ga K x)) "__getattribute__") (some (some (.builtin "BaseException.__getattribute__"))) && (He.eqO (PySem.W.findIn K (.ref (He.ga K x)) "__getattr__") (some none) &&
  (decide (PySem.W.subIn K (.ref (He.ga K x)) (.type "BaseException") = some true) && (PySem.W.hasDictIn K (He.ga K x) && (He.eqO (PySem.W.findIn K (.ref (He.ga K x)) "__class__") (some (some (.builtin "object.__class__"))) &&
  (He.eqO (PySem.W.specialIn K (.builtin "object.__class__") "__get__") (some (some (.builtin "getset_descriptor.__get__"))) && (decide (PySem.W.takesIn K (.builtin "object.__class__") = some true) &&
  decide (PySem.W.mroIn K (He.ga K x) (.type "object") = some true)))))))
def kitX (K : PySem.W.Frag) (x y : Str) (b : Bool) : Bool := decide (PySem.W.kitOne K (.ref (He.ga K x)) (.ref (He.ga K y)) = some b)
def kitN (K : PySem.W.Frag) (y : Str) : Bool := decide (PySem.W.kitOne K (.type "NoneType") (.ref (He.ga K y)) = some false)
def exmX (K : PySem.W.Frag) (x y : Str) (b : Bool) : Bool := decide (PySem.W.exmOne K (.ref (He.ga K x)) (.ref (He.ga K y)) = some b)
end Mk
namespace K81
open PySem PySem.Spec PyProof.Rows L2 Mk
def top (i : Nat) : Stmt := PySem.Challenge.pw_housekept_k81_calendars_day_by_day.main.body.getD i (.Pass ⟨0, 0, 0, 0⟩)
abbrev s__law_begun : Stmt := top 44
abbrev s__law_mixed : Stmt := top 45
abbrev s__law_draw : Stmt := top 46
abbrev s__law_pick : Stmt := top 47
abbrev s__law_plan : Stmt := top 54
abbrev s__law_leap : Stmt := top 48
abbrev s__law_month : Stmt := top 49
abbrev s__law_day_rule : Stmt := top 55
abbrev s__law_year : Stmt := top 52
abbrev s__law_date : Stmt := top 53
abbrev s__law_calendar : Stmt := top 56
abbrev s__law_number : Stmt := top 50
abbrev s__law_when_day : Stmt := top 57
abbrev s__law_caught : Stmt := top 62
abbrev s__law_dated : Stmt := top 51
abbrev s_is_whole : Stmt := top 9
abbrev s_need_year : Stmt := top 19
abbrev s_year_begin : Stmt := top 20
abbrev s_is_leap : Stmt := top 15
abbrev s_month_days : Stmt := top 16
abbrev s_day_in_year : Stmt := top 22
abbrev s_nth_day : Stmt := top 36
abbrev s_day_of : Stmt := top 37
abbrev s_month_and_day : Stmt := top 24
abbrev s_date_at : Stmt := top 25
abbrev s_is_when_of : Stmt := top 30
abbrev s_is_when : Stmt := top 31
abbrev s_told_day : Stmt := top 38
abbrev s__law_bent : Stmt := top 69
abbrev s__law_is_int : Stmt := top 63
abbrev s__law_is_rule_day : Stmt := top 66
abbrev s__law_told_right : Stmt := top 70
abbrev s_is_date : Stmt := top 17
abbrev s_is_name : Stmt := top 10
abbrev s_is_plan_of : Stmt := top 29
abbrev s_is_dates : Stmt := top 32
abbrev s_is_calendar : Stmt := top 33
abbrev s__law_days : Stmt := top 71
abbrev s__law_special : Stmt := top 58
abbrev s__law_plan_of : Stmt := top 59
abbrev s_need_calendar : Stmt := top 34
abbrev s_need_date : Stmt := top 18
abbrev s_days_of : Stmt := top 21
abbrev s_year_table : Stmt := top 39
abbrev s_number_at : Stmt := top 23
abbrev s_plan_on : Stmt := top 40
abbrev s_need_hour : Stmt := top 35
abbrev s_mode_in : Stmt := top 41
abbrev s_mode_at : Stmt := top 42
abbrev s__law_mode : Stmt := top 60
abbrev s__law_calendar_right : Stmt := top 72
abbrev s__law_tells : Stmt := top 61
abbrev s__law_is_mode : Stmt := top 64
abbrev s__law_is_plan : Stmt := top 65
abbrev s__law_is_day : Stmt := top 67
abbrev s__law_is_yearly : Stmt := top 68
abbrev s_law : Stmt := top 73
abbrev k_DEEPEST : PyData := .int 4
abbrev k_LAST_YEAR : PyData := .int 1000000000000000000000000000000
abbrev k_LENGTHS : PyData := .tuple [(.int 31), (.int 28), (.int 31), (.int 30), (.int 31), (.int 30), (.int 31), (.int 31), (.int 30), (.int 31), (.int 30), (.int 31)]
abbrev k_LETTERS : PyData := .str "abcdefghijklmnopqrstuvwxyz"
abbrev k_MOST_RULES : PyData := .int 8
abbrev k_ROUND_DAYS : PyData := .int 146097
def dd (x : Str) (st : Stmt) : He.DefD := ⟨(x, none), x, x, defArgs st, defBody st, defScope st, [], []⟩
def fnL : List He.DefD := [dd "_law_begun" s__law_begun, dd "_law_mixed" s__law_mixed, dd "_law_draw" s__law_draw, dd "_law_pick" s__law_pick, dd "_law_plan" s__law_plan, dd "_law_leap" s__law_leap, dd "_law_month" s__law_month, dd "_law_day_rule" s__law_day_rule, dd "_law_year" s__law_year, dd "_law_date" s__law_date, dd "_law_calendar" s__law_calendar, dd "_law_number" s__law_number, dd "_law_when_day" s__law_when_day, dd "_law_caught" s__law_caught, dd "_law_dated" s__law_dated, dd "is_whole" s_is_whole, dd "need_year" s_need_year, dd "year_begin" s_year_begin, dd "is_leap" s_is_leap, dd "month_days" s_month_days, dd "day_in_year" s_day_in_year, dd "nth_day" s_nth_day, dd "day_of" s_day_of, dd "month_and_day" s_month_and_day, dd "date_at" s_date_at, dd "is_when_of" s_is_when_of, dd "is_when" s_is_when, dd "told_day" s_told_day, dd "_law_bent" s__law_bent, dd "_law_is_int" s__law_is_int, dd "_law_is_rule_day" s__law_is_rule_day, dd "_law_told_right" s__law_told_right, dd "is_date" s_is_date, dd "is_name" s_is_name, dd "is_plan_of" s_is_plan_of, dd "is_dates" s_is_dates, dd "is_calendar" s_is_calendar, dd "_law_days" s__law_days, dd "_law_special" s__law_special, dd "_law_plan_of" s__law_plan_of, dd "need_calendar" s_need_calendar, dd "need_date" s_need_date, dd "days_of" s_days_of, dd "year_table" s_year_table, dd "number_at" s_number_at, dd "plan_on" s_plan_on, dd "need_hour" s_need_hour, dd "mode_in" s_mode_in, dd "mode_at" s_mode_at, dd "_law_mode" s__law_mode, dd "_law_calendar_right" s__law_calendar_right, dd "_law_tells" s__law_tells, dd "_law_is_mode" s__law_is_mode, dd "_law_is_plan" s__law_is_plan, dd "_law_is_day" s__law_is_day, dd "_law_is_yearly" s__law_is_yearly, dd "law" s_law]
def faL : List He.Fa := [.glo "_law_begun", .glo "_law_mixed", .glo "_law_draw", .glo "_law_pick", .glo "_law_plan", .glo "_law_leap", .glo "_law_month", .glo "_law_day_rule", .glo "_law_year", .glo "_law_date", .glo "_law_calendar", .glo "_law_number", .glo "_law_when_day", .glo "_law_caught", .glo "_law_dated", .glo "is_whole", .glo "need_year", .glo "year_begin", .glo "is_leap", .glo "month_days", .glo "day_in_year", .glo "nth_day", .glo "day_of", .glo "month_and_day", .glo "date_at", .glo "is_when_of", .glo "is_when", .glo "told_day", .glo "_law_bent", .glo "_law_is_int", .glo "_law_is_rule_day", .glo "_law_told_right", .glo "is_date", .glo "is_name", .glo "is_plan_of", .glo "is_dates", .glo "is_calendar", .glo "_law_days", .glo "_law_special", .glo "_law_plan_of", .glo "need_calendar", .glo "need_date", .glo "days_of", .glo "year_table", .glo "number_at", .glo "plan_on", .glo "need_hour", .glo "mode_in", .glo "mode_at", .glo "_law_mode", .glo "_law_calendar_right", .glo "_law_tells", .glo "_law_is_mode", .glo "_law_is_plan", .glo "_law_is_day", .glo "_law_is_yearly", .glo "law", .glo "KeptError", .glo "BadCalendar", .glo "BadDate", .glo "BadHour", .glo "BadWhen", .glo "BadYear", .int "DEEPEST" 4, .int "LAST_YEAR" 1000000000000000000000000000000, .glo "LENGTHS", .str "LETTERS" "abcdefghijklmnopqrstuvwxyz", .int "MOST_RULES" 8, .int "ROUND_DAYS" 146097, .free "abs", .free "all", .free "bool", .free "int", .free "isinstance", .free "len", .free "min", .free "range", .free "set", .free "sorted", .free "str", .free "sum", .free "tuple", .exc "BadCalendar", .exc "BadDate", .exc "BadHour", .exc "BadWhen", .exc "BadYear"]
def tfL : List He.Defn := [("_law_told_right", none), ("_law_calendar_right", none), ("law", none)]
def tT (K : PySem.W.Frag) : List (Addr × Str) := [(He.tabOf K (He.codeOf K ("_law_told_right", none)), "_law_told_right.<locals>.<lambda>"), (He.tabOf K (He.codeOf K ("_law_calendar_right", none)), "_law_calendar_right.<locals>.<lambda>"), (He.tabOf K (He.codeOf K ("law", none)), "law.<locals>.<lambda>")]
def exL (K : PySem.W.Frag) : Bool := excB K "BadCalendar" && (exmX K "BadCalendar" "KeptError" true && (kitX K "BadCalendar" "BadCalendar" true && (kitX K "BadCalendar" "BadHour" false && (kitX K "BadCalendar" "BadWhen" false && (kitX K "BadCalendar" "BadYear" false && (excB K "BadDate" && (exmX K "BadDate" "KeptError" true && (kitX K "BadDate" "BadCalendar" false && (kitX K "BadDate" "BadHour" false && (kitX K "BadDate" "BadWhen" false && (kitX K "BadDate" "BadYear" false && (excB K "BadHour" && (exmX K "BadHour" "KeptError" true && (kitX K "BadHour" "BadCalendar" false && (kitX K "BadHour" "BadHour" true && (kitX K "BadHour" "BadWhen" false && (kitX K "BadHour" "BadYear" false && (excB K "BadWhen" && (exmX K "BadWhen" "KeptError" true && (kitX K "BadWhen" "BadCalendar" false && (kitX K "BadWhen" "BadHour" false && (kitX K "BadWhen" "BadWhen" true && (kitX K "BadWhen" "BadYear" false && (excB K "BadYear" && (exmX K "BadYear" "KeptError" true && (kitX K "BadYear" "BadCalendar" false && (kitX K "BadYear" "BadHour" false && (kitX K "BadYear" "BadWhen" false && (kitX K "BadYear" "BadYear" true && (kitN K "BadCalendar" && (kitN K "BadHour" && (kitN K "BadWhen" && (kitN K "BadYear" && (datB K 9 (.ref (He.ga K "LENGTHS")) k_LENGTHS && (decide (((tT K).map (·.1)).Nodup))))))))))))))))))))))))))))))))))))
abbrev Lw : PySem.W.OpenLaw := PySem.Challenge.rw_housekept_k81_calendars_day_by_day
abbrev Rw : PySem.W.OpenRow := PySem.W.OpenLaw.row Lw
abbrev hkL : PySem.W.Hook := He.hookX 5 faL fnL [] tfL exL
def obL (s : PySem.W.SharedT) : He.AlX := He.obsX 5 faL fnL [] tfL exL (HandSHeadRun.getT s)
theorem obL_eq (s : PySem.W.SharedT) : obL s = hkL.obs s.abs := He.obsX_eq (HandSHeadRun.getT_eq s)
def looseL : List Str := (["KeptError", "BadCalendar", "BadDate", "BadHour", "BadWhen", "BadYear", "LETTERS", "is_whole", "is_name", "LAST_YEAR", "ROUND_DAYS", "LENGTHS"] : List Str) ++ (["is_leap", "month_days", "is_date", "need_date", "need_year", "year_begin", "days_of", "day_in_year", "number_at", "month_and_day", "date_at", "MOST_RULES"] : List Str) ++ (["DEEPEST", "is_plan_of", "is_when_of", "is_when", "is_dates", "is_calendar", "need_calendar", "need_hour", "nth_day", "day_of", "told_day", "year_table"] : List Str) ++ (["plan_on", "mode_in", "mode_at", "_law_begun", "_law_mixed", "_law_draw", "_law_pick", "_law_leap", "_law_month", "_law_number", "_law_dated", "_law_year"] : List Str) ++ (["_law_date", "_law_plan", "_law_day_rule", "_law_calendar", "_law_when_day", "_law_special", "_law_plan_of", "_law_mode", "_law_tells", "_law_caught", "_law_is_int", "_law_is_mode"] : List Str) ++ (["_law_is_plan", "_law_is_rule_day", "_law_is_day", "_law_is_yearly", "_law_bent", "_law_told_right", "_law_days", "_law_calendar_right"] : List Str)
theorem run (w : World) : HandSHeadRun.RunEq Rw (PySem.W.view Rw.prog [73]) hkL obL 4000 looseL w := by
  intro os
  kernel_rfl
end K81

/-! part LkExc -/
/-! Lk, part 1: what the laws' texts want beyond the hand layer: calls by keywords alone, an exception caught and kept, isinstance of it, a def that calls a lambda and hands back what it raised. -/
namespace Lk
open PySem PySem.Spec PyProof.Rows L2
section
variable {X : Cx} {CX : CXT} {k : Nat} {f : Addr} {fd : FuncData} {ps ks : List Str} {sp : Sp} {E : XK} {x : Str} {p pos : Pos} {kws : List Keyword} {tk : TA}
  {g : List Value → List Value → List Value} {gV : List V → List V → List V}
/-- f(k = v, ..), nothing by position -/
theorem pe_kwOnly (F : FnOk X.prog X.w X.K X.mg X.base CX k f fd ps sp) (hr : Room k X.A) (hg : Gl X x) (hm : X.mg x = some (.ref f)) (hk : PySem.W.keepIn X.K (.ref f) = true)
    (hb : KBinds X.K fd ps ks g gV) (hx : Passes CX X E) (hkw : PK X kws tk)
    (hall : (backToKw pos (keywordEach kws X.env)).all (·.1.isSome) = true := by rfl)
    (hks : (backToKw pos (keywordEach kws X.env)).filterMap (·.1) = ks := by rfl)
    (hdb : (x == ("__debug__" : Str)) = false := by decide)
    (hpl : ((backTo pos (starEach [] X.env)).any (·.1) || (backToKw pos (keywordEach kws X.env)).any (·.1.isNone)) = false := by rfl) :
    PE X (.Call (.Name x p) [] kws pos) (tCallK sp gV E tNil tk) := by
  constructor
  intro pins s σ H Q I h
  apply wpAny_Call_Name_kw
  apply ld_glob I hg hm _ hdb
  apply PySem.W.callWith_KW0 (h₀ := X.base) I.ok.mod.kin hk hall _ hpl
  apply thn (hkw.run pos pins s σ H _ I h)
  rintro ws s2 ⟨zs, H2, I2, rz, q2⟩
  constructor
  · exact I2.kIn
  · rw [hks]
    exact run_fnk (us := []) (vs := []) F hr hb hx I2 .nil rz q2
end
/-- an exception that was caught, its class, its own dict -/
def ExV (cls : Value) (d : Option Addr) (a : Addr) : HO :=
  .ext fun h => ∃ (oe : Obj) (vs : Array Value), h.get? a = some oe ∧ Zc cls d oe ∧ oe.data = .fields vs
theorem exv_ok {P : Program} {w : World} {H : Hp} {h : Heap} {a : Addr} {cls : Value} {d : Option Addr} {oe : Obj} {vs : Array Value}
    (e : h.get? a = some oe) (z : Zc cls d oe) (dt : oe.data = .fields vs) : ObjOk P w H h a (ExV cls d a) := by
  refine ⟨⟨oe, vs, e, z, dt⟩, ⟨oe, e⟩, ?_⟩
  rintro h1 h2 ⟨o, v, q, r1, r2⟩ kp
  exact ⟨o, v, kp o q, r1, r2⟩
section
variable {X : Cx} {pins : List (Addr × Obj)} {σ : L2.St} {H : Hp} {s : Shared}
/-- an object of ours that nobody tracks, new since the entry, is tracked from now on -/
theorem inv_track {a : Addr} {oe : Obj} {vs : Array Value} {cls : Value} {d : Option Addr} (I : Inv X ((a, oe) :: pins) σ H s)
    (n0 : X.s_0.heap.get? a = none) (np : ∀ p ∈ X.pn ++ pins, p.1 ≠ a) (dt : oe.data = .fields vs) (z : Zc cls d oe) :
    Inv X pins σ (upd H a (ExV cls d a)) s := by
  obtain ⟨ha, na, nL, nF, _⟩ := I.pin (a, oe) (List.mem_append_right _ List.mem_cons_self)
  have ne0 : ∀ b o, X.s_0.heap.get? b = some o → b ≠ a := by
    intro b o e q
    rw [q, n0] at e
    cases e
  have neS : ∀ b u, H b = some u → b ≠ a := by
    intro b u e q
    rw [q, na] at e
    cases e
  have neC : ∀ y c, X.env.cells.lookup y = some c → c ≠ a := by
    intro y c e q
    obtain ⟨v, o, ho, hd⟩ := I.cell y c e
    rw [q, ha] at ho
    cases ho
    rw [dt] at hd
    cases hd
  have ok : HOk X.prog X.w (upd H a (ExV cls d a)) s.heap := I.hok.laidN (fun _ _ q => q) na (exv_ok ha z dt)
  constructor
  · exact I.ok
  · exact I.os
  · exact I.bare
  · constructor
    · exact I.base.keep
    · exact I.base.slot
    · intro b o e n hx
      rw [upd_ne (ne0 b o e)]
      exact I.base.free b o e n hx
    · exact I.base.there
    · intro b xs e
      have q := I.base.tups b xs e
      rw [upd_ne (neS b _ q)]
      exact q
    · intro b o u e
      have q := I.base.frzs b o u e
      rw [upd_ne (neS b _ q)]
      exact q
    · intro b ps e
      obtain ⟨m, q⟩ := I.base.tbls b ps e
      exact ⟨m, by rw [upd_ne (neS b _ q)]; exact q⟩
  · exact I.loc
  · exact I.cell
  · rw [upd_ne (Ne.symm nL)]
    exact I.free
  · intro y c e
    rw [upd_ne (neC y c e)]
    exact I.freeC y c e
  · intro p hp
    obtain ⟨e, n, ne, nf, dd⟩ := I.pin p (by
      rcases List.mem_append.mp hp with q | q
      · exact List.mem_append_left _ q
      · exact List.mem_append_right _ (List.mem_cons_of_mem _ q))
    exact ⟨e, by rw [upd_ne (np p hp)]; exact n, ne, nf, dd⟩
  · exact ok
  · exact I.len
theorem unsuite_pin {a : Addr} {oe : Obj} {pn' : List (Addr × Obj)} (I : Inv (X.suite a ((a, oe) :: (X.pn ++ pins))) pn' σ H s) (ok : X.Ok) : Inv X ((a, oe) :: pins) σ H s := by
  refine ⟨ok, I.os, I.bare, I.base, I.loc, I.cell, I.free, I.freeC, ?_, I.hok, I.len⟩
  intro p hp
  apply I.pin p
  apply List.mem_append_left
  show p ∈ (a, oe) :: (X.pn ++ pins)
  rcases List.mem_append.mp hp with q | q
  · exact List.mem_cons_of_mem _ (List.mem_append_left _ q)
  · rcases List.mem_cons.mp q with q | q
    · rw [q]
      exact List.mem_cons_self
    · exact List.mem_cons_of_mem _ (List.mem_append_right _ q)
end
/-- what «except x as n: y = n» wishes of an exception of the body: slot i is n's, slot j is y's -/
def wKeep (K : PySem.W.Frag) (c : Value) (i j : Nat) (Wout : WX) (D : Ends) : WX := fun cls d σ H =>
  ∃ b, PySem.W.exmOne K cls c = some b ∧
    (b = true → ∀ a, H a = none → D.nx (((σ.set i (some (.ref a))).set j (some (.ref a))).set i none) (upd H a (ExV cls d a))) ∧ (b = false → Wout cls d σ H)
section
variable {X : Cx} {x n y : Str} {c : Value} {i j : Nat} {body : List Stmt} {np pos pos' yp vp sp : Pos} {tb : WX → TS} {Wout : WX}
/-- try: body / except x as n: y = n -/
theorem ps_try_keep (hs : X.stack = X.env :: X.outer) (hf : X.env.frame = some X.env.locals) (hex : X.ex = []) (hN : X.N.Nodup) (hi : X.N[i]? = some n) (hln : X.env.kindOf n = some .local)
    (hj : X.N[j]? = some y) (hy : X.env.scope.names.lookup y = some .local) (hc : Names X x c) (tk : Takes X Wout)
    (hb : ∀ (W : WX) (pn : List (Addr × Obj)) (xe : Value → Shared → Prop), Takes (X.tr pn xe) W → PassesOwn (model X.prog X.w) X.A X.env xe → PSs (X.tr pn xe) body (tb W))
    (hdb : (n == ("__debug__" : Str)) = false := by decide) (hcd : (n == ("__classdict__" : Str)) = false := by decide) :
    PS X (.Try body [.ExceptHandler (some (.Name x np)) (some n) [.Assign [.Name y yp] (.Name n vp) sp] pos'] [] [] pos) (fun D σ H => tb (wKeep X.K c i j Wout D) D σ H) := by
  constructor
  intro pins s σ H D I h
  have ok := I.ok
  have hfr : X.A.frames = some (X.env :: X.outer) := by rw [ok.frames, hs]
  have hloc : Loc X.env.scope n := .inl hln
  refine wpAny_Try_except ?_
  refine wpAny_mono ((hb (wKeep X.K c i j Wout D) (X.pn ++ pins) (fun e s₁ => wpAny (model X.prog X.w) X.A (noteFrame e X.env) (fun _ s₂ => wpAny (model X.prog X.w) X.A (setFlight e none)
    (fun _ s₃ => wpAny (model X.prog X.w) X.A (handleBy e X.env [.ExceptHandler (some (.Name x np)) (some n) [.Assign [.Name y yp] (.Name n vp) sp] pos']) (SP X pins D) X.xe s₃) X.xe s₂) X.xe s₁)
    ?takes PassesOwn.looking).run [] s σ H D (I.toTry _) h) ?ends (fun e s1 he => he)
  case takes =>
    rintro u s' ⟨a, B, sI, pins', σ', H', cls, d, rfl, J', nb, up, sky, na, os, ag, b, hb1, hyes, hno⟩
    have J : Inv X pins σ' H' sI := J'.ofTry ok
    have sky' : Sky B (X.env :: X.outer) a (Zc cls d) X.env.locals s'.heap := by rw [← hs]; exact sky
    show wpAny (model X.prog X.w) X.A (noteFrame (.ref a) X.env) _ _ _
    refine Sky.land Zc.steady hfr hf sky' fun h3 fl3 up3 => ?_
    have J3 : Inv X pins σ' H' { s' with heap := h3 } := J.landed nb fl3.1 (up.trans up3) os ag
    obtain ⟨oe3, vs3, he3, hz3, hd3⟩ := fl3.there
    have nfr : a ∉ frs (X.env :: X.outer) := by
      intro hm
      obtain ⟨_, o', e', hnf⟩ := fl3.2.2.1.mem hm
      rw [he3] at e'
      cases e'
      exact hnf _ hd3
    have nL : a ≠ X.env.locals := by
      intro z
      apply nfr
      exact List.mem_filterMap.mpr ⟨X.env, List.mem_cons_self, by rw [hf, z]⟩
    have nF : a ∉ X.fs := by
      intro hm
      obtain ⟨e, he, q⟩ := List.mem_filterMap.mp hm
      exact nfr (List.mem_filterMap.mpr ⟨e, List.mem_cons_of_mem _ he, q⟩)
    -- it did not stand at the entry
    have nI : sI.heap.get? a = none := by
      cases q : sI.heap.get? a with
      | none => rfl
      | some o =>
        have z := nb a o q (by rw [hs]; exact nfr)
        rw [fl3.2.1] at z
        cases z
    have n0 : X.s_0.heap.get? a = none := by
      cases q : X.s_0.heap.get? a with
      | none => rfl
      | some o =>
        obtain ⟨o', z⟩ := J.base.there a o q (by rw [hex]; exact fun z => nomatch z)
        rw [nI] at z
        cases z
    have npn : ∀ p ∈ X.pn ++ pins, p.1 ≠ a := by
      intro p hp z
      obtain ⟨e, _⟩ := J.pin p hp
      rw [z, nI] at e
      cases e
    have S3 := J3.suite he3 hd3 na nL nF
    refine wpAny_handleBy_cons (codeAny_handlers_test ?_) (by intro q; cases q)
    have LT : PySem.W.Looks (model X.prog X.w) h3 (typeOf (.ref a)) cls := fun A Q E s k q => wpAny_typeOf_ref (k _ _ he3) (by rw [hz3.1]; exact q)
    have LM := PySem.W.exm_one (M := model X.prog X.w) (J3.kIn) LT hb1
    have test : ∀ {Q : Value → Shared → Prop} {E : Value → Shared → Prop}, Q c { s' with heap := h3 } →
        wpAny (model X.prog X.w) (X.A.mark (some (.ref a))) (eval (.Name x np) X.env) Q E { s' with heap := h3 } := by
      intro Q E q
      obtain ⟨hg, hdbg, hm | ⟨hm, hv, hnn⟩⟩ := hc
      · exact ld_glob (X := X.suite a ((a, oe3) :: (X.pn ++ pins))) S3 hg hm q hdbg
      · exact ld_blt (X := X.suite a ((a, oe3) :: (X.pn ++ pins))) S3 hg hm hv q hnn hdbg
    refine test (LM.here ?_)
    cases b with
    | true =>
      refine codeAny_handlers_suite_as ?_
      refine HandSPX.lands_againZ fl3 fun h4 fl4 up4 => ?_
      have J4 : Inv X pins σ' H' { s' with heap := h4 } := J.landed nb fl4.1 ((up.trans up3).trans up4) os ag
      obtain ⟨oe4, vs4, he4, hz4, hd4⟩ := fl4.there
      have S4 := J4.suite he4 hd4 na nL nF
      have hlen : i < σ'.length := by
        rw [J4.len]
        exact (List.getElem?_eq_some_iff.mp hi).1
      refine store_ok (X := X.suite a ((a, oe4) :: (X.pn ++ pins))) (v := .ref a) S4 hN hi hloc rfl (fun s5 S5 => ?_) (.inr hln)
      have hst : PSs (X.suite a ((a, oe4) :: (X.pn ++ pins))) [.Assign [.Name y yp] (.Name n vp) sp] (tAsg (tVar i) (gName j)) :=
        pss_one (ps_asg (pe_var hi (.inl hln) hdb hcd) (pg_name hN hj (.inl hy) (.inr hy)))
      refine wpAny_mono (hst.run [] s5 _ H' { nx := fun σ6 H6 => σ6 = (σ'.set i (some (.ref a))).set j (some (.ref a)) ∧ H6 = H', rt := fun _ _ => False } S5 ⟨.ref a, List.getElem?_set_self hlen, rfl, rfl⟩)
        (fun f s6 hsp => ?_) (fun _ _ z => False.elim z)
      cases f with
      | next =>
        obtain ⟨σ6, H6, S6, e6, eH⟩ := hsp
        subst e6 eH
        refine gone_ok (unsuite_pin (pins := pins) S6 ok) hN hi hln fun s7 J7 => ?_
        exact ⟨_, _, inv_track J7 n0 npn hd4 hz4, hyes rfl a na⟩
      | brk =>
        obtain ⟨σ6, H6, S6, q6⟩ := hsp
        exact False.elim q6
      | cont =>
        obtain ⟨σ6, H6, S6, q6⟩ := hsp
        exact False.elim q6
      | ret u =>
        obtain ⟨v6, σ6, H6, S6, r6, q6⟩ := hsp
        exact False.elim q6
    | false =>
      show wpAny _ X.A (handleBy (.ref a) X.env []) _ _ _
      refine wpAny_handleBy_nil ?_
      obtain ⟨k1, k2, k3, oe, vs, T, oT, ts', he, hz, hd, h1, hr⟩ := id fl3
      unfold PySem.passOn
      refine wpAny_bind (wpAny_field he hd h1 ?_)
      rw [if_neg (show ¬ ((Value.ref T == Value.none) = true) from by simp)]
      have fin : wpAny (model X.prog X.w) X.A (setFlight (.ref a) X.env.frame) (fun _ s4 => wpAny (model X.prog X.w) X.A (throw (.ref a) : Sem Flow) (SP X pins D) X.xe s4) X.xe { s' with heap := h3 } := by
        rw [hf]
        refine HandSPX.setFlight_upZ fl3 fun h4 hh4 up4 => wpAny_throw (tk _ _ ?_)
        exact ⟨a, B, sI, pins, σ', H', cls, d, rfl, J, nb, (up.trans up3).trans up4, .inr (.inr (by rw [hs]; exact hh4)), na, os, ag, hno rfl⟩
      first
        | exact wpAny_bind (wpAny_pure (wpAny_bind fin))
        | exact wpAny_bind fin
  case ends =>
    intro f s1 hsp
    cases f with
    | next =>
      obtain ⟨σ', H', J', q⟩ := hsp
      exact wpAny_execs_nil ⟨σ', H', J'.ofTry ok, q⟩
    | brk =>
      obtain ⟨σ', H', J', q⟩ := hsp
      exact ⟨σ', H', J'.ofTry ok, q⟩
    | cont =>
      obtain ⟨σ', H', J', q⟩ := hsp
      exact ⟨σ', H', J'.ofTry ok, q⟩
    | ret u =>
      obtain ⟨v, σ', H', J', r, q⟩ := hsp
      exact ⟨v, σ', H', J'.ofTry ok, r, q⟩
end
end Lk

/-! part LkCaught -/
namespace Lk
open PySem PySem.Spec PyProof.Rows L2 LamX
/-- isinstance(e, C), e an exception that was kept -/
def rIsEV (K : PySem.W.Frag) : List V → Hp → VK → Prop := fun xs H Q =>
  ∃ (a D : Addr) (c : V) (cv : Value) (b : Bool), xs = [.ref a, c] ∧ H a = some (ExV (.ref D) none a) ∧ ExcC K D ∧ ClsV c cv ∧ PySem.W.kitOne K (.ref D) cv = some b ∧ Q (.bl b) H
theorem call_isEV {X : Cx} : CallR X (.builtin "isinstance") (rIsEV X.K) := by
  intro pins s σ H xs us Q I r h
  obtain ⟨a, D, c, cv, b, rfl, ha, C, hc, e, q⟩ := h
  obtain ⟨u1, u2, rfl, r1, r2⟩ := vals2 r
  cases r1
  have ec := hc.eq r2
  subst ec
  obtain ⟨⟨⟨oc, od, oda, osl⟩, vs, ho, ⟨z1, z2⟩, hd⟩, _, _⟩ := I.hok a _ ha
  dsimp only at z1 z2 hd
  subst z1 z2 hd
  have J : PySem.W.InstAt s.heap a ⟨.ref D, none, .fields vs, osl⟩ D none := ⟨ho, rfl, rfl, trivial⟩
  refine PySem.W.kia_one (PySem.W.handS_kitx_exc C.hg C.hk C.hs C.hd C.ha C.hn C.ht C.hm) I.kIn J e (fun z => nomatch z) ?_
  intro tk
  exact ⟨.bl b, H, I.kept (t' := tk) fun _ _ z => z, rfl, q⟩
/-- what a def «found = None; try: a(); except CS as e: found = e; return found» makes of the lambda's reading -/
def TCaught (K : PySem.W.Frag) (CS : Addr) : (XK → Hp → VK → Prop) → Hp → VK → Prop := fun tl H Q =>
  tl (fun cls d H' => ∃ b, PySem.W.exmOne K cls (.ref CS) = some b ∧ (b = true → ∀ a, H' a = none → Q (.ref a) (upd H' a (ExV cls d a))) ∧ (b = false → False)) H fun _ H1 => Q .non H1
section
variable {X : Cx}
theorem caught_gives {Ng : List Str} {x a e n y q : Str} {sg : Scope} {g CS : Addr} {cdg : Value} {j : Nat} {p1 p2 p3 p4 p5 p6 p7 p8 p9 q1 q2 q3 q4 q5 : Pos}
    (hNg : Ng = [a, y, n]) (hnd : Ng.Nodup)
    (hge : sg.names.lookup e = some .globalImplicit) (hme : X.mg e = some (.ref CS)) (hde : (e == ("__debug__" : Str)) = false)
    (hy : sg.names.lookup y = some .local) (hn : sg.names.lookup n = some .local)
    (hdb : (n == ("__debug__" : Str)) = false) (hcd : (n == ("__classdict__" : Str)) = false)
    (hdb2 : (y == ("__debug__" : Str)) = false) (hcd2 : (y == ("__classdict__" : Str)) = false) :
    GivesTo X Ng x sg g cdg [.Assign [.Name y q1] (.Constant .none j q2) q3,
      .Try [.Expr (.Call (.Name a p1) [] [] p2) p3] [.ExceptHandler (some (.Name e p4)) (some n) [.Assign [.Name y p5] (.Name n p6) p7] p8] [] [] p9,
      .Return (some (.Name y q4)) q5] a q (TCaught X.K CS) := by
  intro f c' s H Q tl act hc h
  have hgl : Gl (cxOf C8.CX0 X.prog X.w X.K X.mg X.base Ng x sg g cdg X.A X.stack s H C8.E0).nox e := hge
  subst hNg
  refine ⟨_, pss_cons (ps_set (i := 1) hnd rfl (.inl hy) pe_non)
    (pss_cons (ps_try_keep (X := (cxOf C8.CX0 X.prog X.w X.K X.mg X.base [a, y, n] x sg g cdg X.A X.stack s H C8.E0).nox) (c := .ref CS) (i := 2) (j := 1)
      (tb := fun W D σ H => ∃ Ech : XK, (∀ cls d σ' H', σ'.length = 3 → Ech cls d H' → W cls d σ' H') ∧ σ[0]? = some (some (.ref f)) ∧ H c' = some (CodeO c' q) ∧ tl Ech H fun _ H1 => D.nx σ H1)
      rfl rfl rfl hnd rfl hn rfl hy ⟨hgl, hde, .inl hme⟩ L2.takes0 ?_ hdb hcd)
    (pss_one (ps_ret (pe_var (i := 1) rfl (.inl hy) hdb2 hcd2)))), ?_⟩
  · intro W pn xe tk _
    have tk' : Takes ((cxOf C8.CX0 X.prog X.w X.K X.mg X.base [a, y, n] x sg g cdg X.A X.stack s H C8.E0).tr pn xe) (fun cls d σ' H' => σ'.length = 3 → W cls d σ' H') := by
      rintro u s' ⟨a', B, sI, pins', σ', H', cls, d, eu, J', nb, up, sky, na, os, ag, w⟩
      exact tk u s' ⟨a', B, sI, pins', σ', H', cls, d, eu, J', nb, up, sky, na, os, ag, w J'.len⟩
    constructor
    intro pins s' σ H' D I h'
    obtain ⟨Ech, hW, h1, h2, h3⟩ := h'
    have hp := act (fun cls d σ' H' => σ'.length = 3 → W cls d σ' H') pn xe Ech p1 p2 tk' (fun cls d σ' H' e hl => hW cls d σ' H' hl e)
    exact (pss_one (ps_expr (pos := p3) hp)).run pins s' σ H' D I ⟨h1, h2, h3⟩
  · refine ⟨fun cls d H' => ∃ b, PySem.W.exmOne X.K cls (.ref CS) = some b ∧ (b = true → ∀ a, H' a = none → Q (.ref a) (upd H' a (ExV cls d a))) ∧ (b = false → False), ?_, rfl, hc, ?_⟩
    · rintro cls d σ' H' hl ⟨b, e1, e2, e3⟩
      refine ⟨b, e1, fun hb a' ha' => ⟨.ref a', ?_, e2 hb a' ha'⟩, fun hb => e3 hb⟩
      match σ', hl with
      | [_, _, _], _ => rfl
    · have e : (fun (_ : V) (H1 : Hp) => Q .non H1) = fun _ H1 => tRet (tVar 1) { nx := fun _ H' => Q .non H', rt := Q } ((L2.start [a, y, n] [V.ref f]).set 1 (some V.non)) H1 := by
        funext _ H1
        apply propext
        constructor
        · intro q
          exact ⟨.non, rfl, q⟩
        · rintro ⟨v, e, q⟩
          have e' : some (some V.non) = some (some v) := e
          cases e'
          exact q
      have h' : tl (fun cls d H' => ∃ b, PySem.W.exmOne X.K cls (.ref CS) = some b ∧ (b = true → ∀ a, H' a = none → Q (.ref a) (upd H' a (ExV cls d a))) ∧ (b = false → False)) H fun _ H1 => Q .non H1 := h
      rw [e] at h'
      exact h'
end
end Lk

/-! part LkVal -/
/-! Lk, part 3: what a reading evaluates to, told by data (PyData) in place of addresses. -/
namespace Lk
open PySem PySem.Spec PyProof.Rows L2 Evl
/-! ### data: the layer's, and the empty dict -/
mutual
inductive Dq (K : PySem.W.Frag) (H : Hp) : V → PyData → Prop
  | non : Dq K H .non .none
  | bl (b : Bool) : Dq K H (.bl b) (.bool b)
  | int (i : Int) : Dq K H (.int i) (.int i)
  | str (x : Str) : Dq K H (.str x) (.str x)
  | lst {a : Addr} {xs : List V} {ds : List PyData} : SqL K H a xs → DqAll K H xs ds → Dq K H (.ref a) (.list ds)
  | tup {a : Addr} {xs : List V} {ds : List PyData} : SqT K H a xs → DqAll K H xs ds → Dq K H (.ref a) (.tuple ds)
  | dct {a : Addr} : H a = some (.dK []) → Dq K H (.ref a) (.dict [])
inductive DqAll (K : PySem.W.Frag) (H : Hp) : List V → List PyData → Prop
  | nil : DqAll K H [] []
  | cons {v : V} {vs : List V} {d : PyData} {ds : List PyData} : Dq K H v d → DqAll K H vs ds → DqAll K H (v :: vs) (d :: ds)
end
/-! ### data in a heap that grows -/
mutual
theorem dp_ex {K : PySem.W.Frag} {H H' : Hp} (e : Ex H H') : ∀ (d : PyData) (v : V), Dq K H v d → Dq K H' v d
  | _, _, .non => .non
  | _, _, .bl b => .bl b
  | _, _, .int i => .int i
  | _, _, .str x => .str x
  | _, _, .lst s a => .lst (ex_l e s) (dps_ex e _ _ a)
  | _, _, .tup s a => .tup (ex_t e s) (dps_ex e _ _ a)
  | _, _, .dct h => .dct (e _ _ h)
theorem dps_ex {K : PySem.W.Frag} {H H' : Hp} (e : Ex H H') : ∀ (ds : List PyData) (vs : List V), DqAll K H vs ds → DqAll K H' vs ds
  | _, _, .nil => .nil
  | _, _, .cons h r => .cons (dp_ex e _ _ h) (dps_ex e _ _ r)
end
section
variable {K : PySem.W.Frag} {H H' : Hp} {v : V} {vs : List V} {d : PyData} {ds : List PyData}
theorem dp_none (h : Dq K H v .none) : v = .non := by cases h; rfl
theorem dp_bool {b : Bool} (h : Dq K H v (.bool b)) : v = .bl b := by cases h; rfl
theorem dp_int {i : Int} (h : Dq K H v (.int i)) : v = .int i := by cases h; rfl
theorem dp_str {x : Str} (h : Dq K H v (.str x)) : v = .str x := by cases h; rfl
theorem dp_tup (h : Dq K H v (.tuple ds)) : ∃ a xs, v = .ref a ∧ SqT K H a xs ∧ DqAll K H xs ds := by
  cases h with
  | tup s a => exact ⟨_, _, rfl, s, a⟩
theorem dp_lst (h : Dq K H v (.list ds)) : ∃ a xs, v = .ref a ∧ SqL K H a xs ∧ DqAll K H xs ds := by
  cases h with
  | lst s a => exact ⟨_, _, rfl, s, a⟩
theorem dps_len : ∀ {vs : List V} {ds : List PyData}, DqAll K H vs ds → vs.length = ds.length
  | [], _, .nil => rfl
  | _ :: _, _, .cons _ r => congrArg Nat.succ (dps_len r)
theorem dps_at : ∀ {vs : List V} {ds : List PyData} {i : Nat} {d : PyData}, DqAll K H vs ds → ds[i]? = some d → ∃ v, vs[i]? = some v ∧ Dq K H v d
  | _, _, _, _, .nil, e => by simp at e
  | _, _, 0, _, .cons h _, e => by
    have e' := Option.some.inj e
    subst e'
    exact ⟨_, rfl, h⟩
  | _, _, i + 1, d, .cons _ r, e => dps_at (i := i) (d := d) r e
theorem dps_ints : ∀ (ns : List Int), DqAll K H (ns.map V.int) (ns.map PyData.int)
  | [] => .nil
  | n :: ns => .cons (.int n) (dps_ints ns)
theorem dps_app : ∀ {xs ys : List V} {ds es : List PyData}, DqAll K H xs ds → DqAll K H ys es → DqAll K H (xs ++ ys) (ds ++ es)
  | _, _, _, _, .nil, b => b
  | _, _, _, _, .cons h r, b => .cons h (dps_app r b)
end
/-- a value's kind -/
def tyN : PyData → String
  | .none => "NoneType"
  | .bool _ => "bool"
  | .int _ => "int"
  | .str _ => "str"
  | .list _ => "list"
  | .tuple _ => "tuple"
  | .dict _ => "dict"
theorem dp_ty {K : PySem.W.Frag} {H : Hp} {v : V} {d : PyData} (h : Dq K H v d) : TyX K H v (.type (tyN d)) := by
  cases h with
  | non => exact .base .non
  | bl b => exact .base (.bl b)
  | int i => exact .base (.int i)
  | str x => exact .base (.str x)
  | lst s a =>
    rcases s with (s | ⟨o, s⟩) | ⟨o, its, n, h1, h2, _⟩
    · exact .base (.lst s)
    · exact .base (.frz s)
    · exact .kList h1 h2
  | tup s a =>
    rcases s with (s | ⟨o, s⟩) | ⟨o, its, n, h1, h2, _⟩
    · exact .base (.tup s)
    · exact .fTuple s
    · exact .kTuple h1 h2
  | dct e => exact .base (.dK e)
/-- data without dicts is the layer's data -/
theorem lay_cons {d : PyData} {ds : List PyData} (h : PyData.canLayAll0 (d :: ds) = true) : PyData.canLay0 d = true ∧ PyData.canLayAll0 ds = true := by
  rw [PyData.canLayAll0] at h
  exact Bool.and_eq_true_iff.mp h
mutual
theorem dq_dp {K : PySem.W.Frag} {H : Hp} : ∀ (d : PyData) (v : V), PyData.canLay0 d = true → Dq K H v d → L2.Dp K H v d
  | _, _, _, .non => .non
  | _, _, _, .bl b => .bl b
  | _, _, _, .int i => .int i
  | _, _, _, .str x => .str x
  | _, _, c, .lst s a => .lst s (dqs_dp _ _ (by rw [PyData.canLay0] at c; exact c) a)
  | _, _, c, .tup s a => .tup s (dqs_dp _ _ (by rw [PyData.canLay0] at c; exact c) a)
  | _, _, c, .dct _ => by
    rw [PyData.canLay0] at c
    cases c
theorem dqs_dp {K : PySem.W.Frag} {H : Hp} : ∀ (ds : List PyData) (vs : List V), PyData.canLayAll0 ds = true → DqAll K H vs ds → L2.DpAll K H vs ds
  | _, _, _, .nil => .nil
  | _, _, c, .cons h r => .cons (dq_dp _ _ (lay_cons c).1 h) (dqs_dp _ _ (lay_cons c).2 r)
end
theorem sh_dp {K : PySem.W.Frag} {H : Hp} {d : PyData} {v : V} (s : SeqAt.shaped d = true) (h : Dq K H v d) : L2.Dp K H v d := dq_dp d v (SeqAt.canLay_of_shaped s) h
/-! ### what evaluates to which data -/
def EvD (K : PySem.W.Frag) (te : TE) (σ : L2.St) (H : Hp) (d : PyData) : Prop := ∀ H1, Ex H H1 → ∀ Q : VK, (∀ v H2, Ex H1 H2 → Dq K H2 v d → Q v H2) → te σ H1 Q
def EvDA (K : PySem.W.Frag) (ta : TA) (σ : L2.St) (H : Hp) (ds : List PyData) : Prop := ∀ H1, Ex H H1 → ∀ Q : List V → Hp → Prop, (∀ vs H2, Ex H1 H2 → DqAll K H2 vs ds → Q vs H2) → ta σ H1 Q
section
variable {K : PySem.W.Frag} {σ : L2.St} {H H' : Hp} {ta tb te tx : TE} {t u : TT} {x y z v : V} {r : R2} {d e : PyData} {ds es : List PyData}
theorem EvD.mono (a : Ex H H') (h : EvD K te σ H d) : EvD K te σ H' d := fun H1 b Q q => h H1 (a.trans b) Q q
theorem EvDA.mono {ta : TA} (a : Ex H H') (h : EvDA K ta σ H ds) : EvDA K ta σ H' ds := fun H1 b Q q => h H1 (a.trans b) Q q
theorem ed_ev (h : Ev te σ H v) (hv : Dq K H v d) : EvD K te σ H d := fun H1 a Q q => h H1 a Q fun H2 b => q v H2 b (dp_ex (a.trans b) _ _ hv)
theorem ed_var {i : Nat} (h : σ[i]? = some (some v)) (hv : Dq K H v d) : EvD K (tVar i) σ H d := ed_ev (ev_var h) hv
theorem ed_cI {i : Int} : EvD K (tC (.int i)) σ H (.int i) := ed_ev ev_c (.int i)
theorem ed_cS {s : Str} : EvD K (tC (.str s)) σ H (.str s) := ed_ev ev_c (.str s)
theorem ed_cN : EvD K (tC .non) σ H .none := ed_ev ev_c .non
theorem ed_cB {b : Bool} : EvD K (tC (.bl b)) σ H (.bool b) := ed_ev ev_c (.bl b)
theorem ev_edI {i : Int} (h : EvD K te σ H (.int i)) : Ev te σ H (.int i) := fun H1 a Q q => h H1 a Q fun v H2 b hv => by
  have e := dp_int hv
  subst e
  exact q H2 b
theorem ev_edB {b : Bool} (h : EvD K te σ H (.bool b)) : Ev te σ H (.bl b) := fun H1 a Q q => h H1 a Q fun v H2 b hv => by
  have e := dp_bool hv
  subst e
  exact q H2 b
theorem ev_edS {s : Str} (h : EvD K te σ H (.str s)) : Ev te σ H (.str s) := fun H1 a Q q => h H1 a Q fun v H2 b hv => by
  have e := dp_str hv
  subst e
  exact q H2 b
/-- arguments -/
theorem eda_nil : EvDA K tNil σ H [] := fun H1 _ _ q => q [] H1 (Ex.refl H1) .nil
theorem eda_cons {tr : TA} (h : EvD K te σ H d) (hr : EvDA K tr σ H ds) : EvDA K (tCons te tr) σ H (d :: ds) := fun H1 a _ q =>
  h H1 a _ fun v H2 b hv => hr H2 (a.trans b) _ fun vs H3 c hvs => q (v :: vs) H3 (b.trans c) (.cons (dp_ex c _ _ hv) hvs)
theorem eda_star {K' : PySem.W.Frag} {tr : TA} (h : EvD K te σ H (.tuple ds)) (hr : EvDA K tr σ H es) (hK : K' = K) : EvDA K (StX.tStar K' te tr) σ H (ds ++ es) := by
  subst hK
  exact fun H1 a _ q =>
  h H1 a _ fun v H2 b hv => by
    obtain ⟨p, xs, rfl, hs, hx⟩ := dp_tup hv
    exact ⟨p, xs, rfl, .inl hs, hr H2 (a.trans b) _ fun vs H3 c hvs => q (xs ++ vs) H3 (b.trans c) (dps_app (dps_ex c _ _ hx) hvs)⟩
/-- displays -/
theorem ed_tup {ta : TA} (h : EvDA K ta σ H ds) (hl : ds.length ≤ 100000 := by first | decide | exact Nat.le_of_ble_eq_true rfl) : EvD K (tTup ta) σ H (.tuple ds) := fun H1 a _ q =>
  h H1 a _ fun vs H2 b hvs => ⟨sz_of (by rw [dps_len hvs]; exact hl), fun p hp => q _ _ (b.trans (Ex.new hp)) (.tup (st_of upd_same) (dps_ex (Ex.new hp) _ _ hvs))⟩
theorem ed_lst {ta : TA} (h : EvDA K ta σ H ds) (hl : ds.length ≤ 100000 := by first | decide | exact Nat.le_of_ble_eq_true rfl) : EvD K (tLst ta) σ H (.list ds) := fun H1 a _ q =>
  h H1 a _ fun vs H2 b hvs => ⟨sz_of (by rw [dps_len hvs]; exact hl), fun p hp => q _ _ (b.trans (Ex.new hp)) (.lst (sq_of upd_same) (dps_ex (Ex.new hp) _ _ hvs))⟩
/-- equal | unlike data -/
theorem ev_eqD (ha : EvD K ta σ H d) (hb : EvD K tb σ H e) (sd : SeqAt.shaped d = true := by rfl) (se : SeqAt.shaped e = true := by rfl) : Ev (tOp (rEqD K) ta tb) σ H (.bl (PyData.eqv d e)) := fun H1 a _ q =>
  ha H1 a _ fun v H2 b hv => hb H2 (a.trans b) _ fun w H3 c hw => ⟨d, e, sh_dp sd (dp_ex c _ _ hv), sh_dp se hw, sd, se, q H3 (b.trans c)⟩
theorem ev_neD (ha : EvD K ta σ H d) (hb : EvD K tb σ H e) (sd : SeqAt.shaped d = true := by rfl) (se : SeqAt.shaped e = true := by rfl) : Ev (tOp (rNeD K) ta tb) σ H (.bl (!PyData.eqv d e)) := fun H1 a _ q =>
  ha H1 a _ fun v H2 b hv => hb H2 (a.trans b) _ fun w H3 c hw => ⟨d, e, sh_dp sd (dp_ex c _ _ hv), sh_dp se hw, sd, se, q H3 (b.trans c)⟩
theorem atI_data {xs : List V} {i : Int} (hx : DqAll K H xs ds) (ha : atI ds i = some d) : ∃ v, atI xs i = some v ∧ Dq K H v d := by
  unfold atI at ha ⊢
  rw [dps_len hx]
  cases q : ixN ds.length i with
  | none =>
    rw [q] at ha
    cases ha
  | some j =>
    rw [q] at ha
    exact dps_at (i := j) hx ha
/-- an item of a tuple | of a list -/
theorem ed_ixT {K' : PySem.W.Frag} {i : Int} (ha : EvD K ta σ H (.tuple ds)) (hb : Ev tb σ H (.int i)) (hi : atI ds i = some d) (hK : K' = K) : EvD K (tOp (rIxT K') ta tb) σ H d := by
  subst hK
  exact fun H1 a _ q =>
  ha H1 a _ fun v H2 b hv => hb H2 (a.trans b) _ fun H3 c => by
    obtain ⟨p, xs, rfl, hs, hx⟩ := dp_tup hv
    obtain ⟨w, hw, dw⟩ := atI_data hx hi
    exact ⟨p, xs, i, w, rfl, rfl, ex_t c hs, hw, q w H3 (b.trans c) (dp_ex c _ _ dw)⟩
theorem ed_ixL {K' : PySem.W.Frag} {i : Int} (ha : EvD K ta σ H (.list ds)) (hb : Ev tb σ H (.int i)) (hi : atI ds i = some d) (hK : K' = K) : EvD K (tOp (rIxL K') ta tb) σ H d := by
  subst hK
  exact fun H1 a _ q =>
  ha H1 a _ fun v H2 b hv => hb H2 (a.trans b) _ fun H3 c => by
    obtain ⟨p, xs, rfl, hs, hx⟩ := dp_lst hv
    obtain ⟨w, hw, dw⟩ := atI_data hx hi
    exact ⟨p, xs, i, w, rfl, rfl, ex_l c hs, hw, q w H3 (b.trans c) (dp_ex c _ _ dw)⟩
/-- isinstance(x, T), T a built-in type -/
theorem ev_isiD {n : String} {b : Bool} (h : EvD K te σ H d) (hb : kitB (tyN d) n = some b) : Ev (tCB (rIsi K) (tCons te (tCons (tC (.ty n)) tNil))) σ H (.bl b) := fun H1 a _ q =>
  h H1 a _ fun v H2 c hv => ⟨v, .ty n, .type (tyN d), .type n, b, rfl, .ty n, dp_ty hv, kit_ty hb, q H2 c⟩
/-- isinstance by kinds -/
def isInt : PyData → Bool
  | .int _ => true
  | .bool _ => true
  | _ => false
def isBool : PyData → Bool
  | .bool _ => true
  | _ => false
def isTup : PyData → Bool
  | .tuple _ => true
  | _ => false
def isLst : PyData → Bool
  | .list _ => true
  | _ => false
def isStr : PyData → Bool
  | .str _ => true
  | _ => false
def isDct : PyData → Bool
  | .dict _ => true
  | _ => false
theorem kit_int (d : PyData) : kitB (tyN d) "int" = some (isInt d) := by
  cases d with
  | none => exact (show kitB "NoneType" "int" = some false by decide +kernel)
  | bool _ => exact (show kitB "bool" "int" = some true by decide +kernel)
  | int _ => exact (show kitB "int" "int" = some true by decide +kernel)
  | str _ => exact (show kitB "str" "int" = some false by decide +kernel)
  | list _ => exact (show kitB "list" "int" = some false by decide +kernel)
  | tuple _ => exact (show kitB "tuple" "int" = some false by decide +kernel)
  | dict _ => exact (show kitB "dict" "int" = some false by decide +kernel)
theorem kit_bool (d : PyData) : kitB (tyN d) "bool" = some (isBool d) := by
  cases d with
  | none => exact (show kitB "NoneType" "bool" = some false by decide +kernel)
  | bool _ => exact (show kitB "bool" "bool" = some true by decide +kernel)
  | int _ => exact (show kitB "int" "bool" = some false by decide +kernel)
  | str _ => exact (show kitB "str" "bool" = some false by decide +kernel)
  | list _ => exact (show kitB "list" "bool" = some false by decide +kernel)
  | tuple _ => exact (show kitB "tuple" "bool" = some false by decide +kernel)
  | dict _ => exact (show kitB "dict" "bool" = some false by decide +kernel)
theorem kit_tup (d : PyData) : kitB (tyN d) "tuple" = some (isTup d) := by
  cases d with
  | none => exact (show kitB "NoneType" "tuple" = some false by decide +kernel)
  | bool _ => exact (show kitB "bool" "tuple" = some false by decide +kernel)
  | int _ => exact (show kitB "int" "tuple" = some false by decide +kernel)
  | str _ => exact (show kitB "str" "tuple" = some false by decide +kernel)
  | list _ => exact (show kitB "list" "tuple" = some false by decide +kernel)
  | tuple _ => exact (show kitB "tuple" "tuple" = some true by decide +kernel)
  | dict _ => exact (show kitB "dict" "tuple" = some false by decide +kernel)
theorem kit_lst (d : PyData) : kitB (tyN d) "list" = some (isLst d) := by
  cases d with
  | none => exact (show kitB "NoneType" "list" = some false by decide +kernel)
  | bool _ => exact (show kitB "bool" "list" = some false by decide +kernel)
  | int _ => exact (show kitB "int" "list" = some false by decide +kernel)
  | str _ => exact (show kitB "str" "list" = some false by decide +kernel)
  | list _ => exact (show kitB "list" "list" = some true by decide +kernel)
  | tuple _ => exact (show kitB "tuple" "list" = some false by decide +kernel)
  | dict _ => exact (show kitB "dict" "list" = some false by decide +kernel)
theorem kit_str (d : PyData) : kitB (tyN d) "str" = some (isStr d) := by
  cases d with
  | none => exact (show kitB "NoneType" "str" = some false by decide +kernel)
  | bool _ => exact (show kitB "bool" "str" = some false by decide +kernel)
  | int _ => exact (show kitB "int" "str" = some false by decide +kernel)
  | str _ => exact (show kitB "str" "str" = some true by decide +kernel)
  | list _ => exact (show kitB "list" "str" = some false by decide +kernel)
  | tuple _ => exact (show kitB "tuple" "str" = some false by decide +kernel)
  | dict _ => exact (show kitB "dict" "str" = some false by decide +kernel)
theorem kit_dct (d : PyData) : kitB (tyN d) "dict" = some (isDct d) := by
  cases d with
  | none => exact (show kitB "NoneType" "dict" = some false by decide +kernel)
  | bool _ => exact (show kitB "bool" "dict" = some false by decide +kernel)
  | int _ => exact (show kitB "int" "dict" = some false by decide +kernel)
  | str _ => exact (show kitB "str" "dict" = some false by decide +kernel)
  | list _ => exact (show kitB "list" "dict" = some false by decide +kernel)
  | tuple _ => exact (show kitB "tuple" "dict" = some false by decide +kernel)
  | dict _ => exact (show kitB "dict" "dict" = some true by decide +kernel)
/-- len of a tuple | of a list -/
theorem ev_lenT (h : EvD K te σ H (.tuple ds)) : Ev (tCB (rLenS K) (tCons te tNil)) σ H (.int (ds.length : Int)) := fun H1 a _ q =>
  h H1 a _ fun v H2 c hv => by
    obtain ⟨p, xs, rfl, hs, hx⟩ := dp_tup hv
    refine ⟨_, xs, rfl, .inr hs, ?_⟩
    rw [dps_len hx]
    exact q H2 c
theorem ev_lenL (h : EvD K te σ H (.list ds)) : Ev (tCB (rLenS K) (tCons te tNil)) σ H (.int (ds.length : Int)) := fun H1 a _ q =>
  h H1 a _ fun v H2 c hv => by
    obtain ⟨p, xs, rfl, hs, hx⟩ := dp_lst hv
    refine ⟨_, xs, rfl, .inl hs, ?_⟩
    rw [dps_len hx]
    exact q H2 c
end
/-! ### statements -/
section
variable {K : PySem.W.Frag} {σ : L2.St} {H : Hp} {te : TE} {D : Ends} {tz : TS} {d : PyData}
end
/-! ### built-ins by names of our own -/
def rAbs : List V → Hp → VK → Prop := fun xs H Q => ∃ i, xs = [.int i] ∧ Q (.int (if i < 0 then -i else i)) H
def rMin : List V → Hp → VK → Prop := fun xs H Q => ∃ i j, xs = [.int i, .int j] ∧ Q (.int (if j < i then j else i)) H
def rIntI : List V → Hp → VK → Prop := fun xs H Q => (∃ i, xs = [.int i] ∧ Q (.int i) H) ∨ ∃ k, xs = [.bl k] ∧ Q (.int (if k then 1 else 0)) H
section
variable {X : Cx}
theorem cl_len : CallR X (.builtin "len") (rLenS X.K) := call_len_seq
theorem cl_abs : CallR X (.builtin "abs") rAbs := call_abs
theorem cl_min (hc : X.calm = true) : CallR X (.builtin "min") rMin := call_min2 hc
theorem cl_int : CallR X (.type "int") rIntI := call_int1
end
section
variable {σ : L2.St} {H : Hp} {ta tb : TE} {i j : Int}
theorem ev_abs (h : Ev ta σ H (.int i)) : Ev (tCB rAbs (tCons ta tNil)) σ H (.int (if i < 0 then -i else i)) := fun H1 a _ q => h H1 a _ fun H2 c => ⟨i, rfl, q H2 c⟩
theorem ev_min (h : Ev ta σ H (.int i)) (g : Ev tb σ H (.int j)) : Ev (tCB rMin (tCons ta (tCons tb tNil))) σ H (.int (if j < i then j else i)) := fun H1 a _ q =>
  h H1 a _ fun H2 c => g H2 (a.trans c) _ fun H3 f => ⟨i, j, rfl, q H3 (c.trans f)⟩
theorem ev_intI (h : Ev ta σ H (.int i)) : Ev (tCB rIntI (tCons ta tNil)) σ H (.int i) := fun H1 a _ q => h H1 a _ fun H2 c => .inl ⟨i, rfl, q H2 c⟩
theorem ev_chain {r r' : R2} {tc : TE} {x y z : V} {b c : Bool} (ha : Ev ta σ H x) (hb : Ev tb σ H y) (hr : RV r x y H (.bl b)) (hc : b = true → Ev tc σ H z) (hr' : b = true → RV r' y z H (.bl c)) : Ev (tChain r r' ta tb tc) σ H (.bl (b && c)) := fun H1 a Q q =>
  ha H1 a _ fun H2 e2 => hb H2 (a.trans e2) _ fun H3 e3 => hr H3 ((a.trans e2).trans e3) _ fun H4 e4 => ⟨b, rfl, by
    cases b with
    | true =>
      show tc σ H4 fun w' H5 => r' y w' H5 Q
      exact hc rfl H4 (((a.trans e2).trans e3).trans e4) _ fun H5 e5 => hr' rfl H5 ((((a.trans e2).trans e3).trans e4).trans e5) Q fun H6 e6 => q H6 ((((e2.trans e3).trans e4).trans e5).trans e6)
    | false =>
      show Q (.bl false) H4
      exact q H4 ((e2.trans e3).trans e4)⟩
end
/-! ### promises of defs that change nothing -/
/-- what a def makes of data: a value, or the class of an error -/
abbrev Rel : Type := List PyData → Except Addr PyData → Prop
def spD (K : PySem.W.Frag) (R : Rel) : Sp := fun vs H Q E => ∃ ds r, DqAll K H vs ds ∧ R ds r ∧
  (∀ d, r = .ok d → ∀ v H', Ex H H' → Dq K H' v d → Q v H') ∧ (∀ C, r = .error C → ∀ H', Ex H H' → E (.ref C) none H')
/-- what a return must come to, a raise -/
def RetD (K : PySem.W.Frag) (r : Except Addr PyData) (Q : VK) (H : Hp) : Prop := ∀ d, r = .ok d → ∀ v H', Ex H H' → Dq K H' v d → Q v H'
def RaiD (r : Except Addr PyData) (E : XK) (H : Hp) : Prop := ∀ C, r = .error C → ∀ H', Ex H H' → E (.ref C) none H'
section
variable {K : PySem.W.Frag} {r : Except Addr PyData} {Q : VK} {E : XK} {H H' : Hp} {D : Ends} {σ : L2.St} {te : TE} {d : PyData}
theorem RetD.mono (e : Ex H H') (h : RetD K r Q H) : RetD K r Q H' := fun d q v H2 e2 hv => h d q v H2 (e.trans e2) hv
theorem RaiD.mono (e : Ex H H') (h : RaiD r E H) : RaiD r E H' := fun C q H2 e2 => h C q H2 (e.trans e2)
end
section
variable {K : PySem.W.Frag} {σ : L2.St} {H : Hp} {ta : TA} {ds : List PyData} {d : PyData} {R : Rel}
theorem ed_call (h : EvDA K ta σ H ds) (hf : R ds (.ok d)) : EvD K (tCall (spD K R) [] E0 ta) σ H d := fun H1 a Q q =>
  h H1 a _ fun vs H2 b hvs => ⟨ds, _, by rw [List.append_nil]; exact hvs, hf, fun d' e v H' c hv => by cases e; exact q v H' (b.trans c) hv, fun C e => nomatch e⟩
end
/-! ### a, b = e1, e2 -/
section
variable {K : PySem.W.Frag} {σ : L2.St} {H : Hp} {ta : TA} {D : Ends} {tz : TS} {i j : Nat} {x y : V} {d e : PyData}
theorem q_par (h : EvA ta σ H [x, y]) (k : ∀ H1, Ex H H1 → tz D ((σ.set i (some x)).set j (some y)) H1) : tSeq (tPar i j ta) tz D σ H := h H (Ex.refl H) _ fun H1 a => ⟨x, y, rfl, k H1 a⟩
end
/-! ### calls that may raise -/
section
variable {K : PySem.W.Frag} {σ : L2.St} {H : Hp} {ta : TA} {ds : List PyData} {R : Rel} {r : Except Addr PyData} {D : Ends} {tz : TS} {E : L2.St → XK}
end
end Lk

/-! part LkCall -/
/-! Lk, part 4: a def of the text, called; the walk's small tactics. -/
namespace Lk
open PySem PySem.Spec PyProof.Rows L2 Evl
/-- the module's def x keeps its promise -/
structure Cl (P : Program) (w : World) (K : PySem.W.Frag) (mg : Str → Option Value) (base : Heap) (CX : CXT) (k : Nat) (x : Str) (sp : Sp) : Prop where
  ex : ∃ (f : Addr) (fd : FuncData) (ps : List Str), FnOk P w K mg base CX k f fd ps sp ∧ mg x = some (.ref f) ∧ PySem.W.keepIn K (.ref f) = true ∧ Binds K fd ps []
/-- the same, its parameters given by names, in their order -/
structure Cw (P : Program) (w : World) (K : PySem.W.Frag) (mg : Str → Option Value) (base : Heap) (CX : CXT) (k : Nat) (x : Str) (ks : List Str) (sp : Sp) : Prop where
  ex : ∃ (f : Addr) (fd : FuncData) (ps : List Str), FnOk P w K mg base CX k f fd ps sp ∧ mg x = some (.ref f) ∧ PySem.W.keepIn K (.ref f) = true ∧ KBinds K fd ps ks (fun us ws => us ++ ws) (fun vs zs => vs ++ zs)
section
variable {X : Cx} {k j : Nat} {x : Str} {ks : List Str} {sp : Sp} {p pos : Pos} {e : Expr} {es : List Expr} {t tk : TA} {kws : List Keyword}
theorem pe_k (c : Cl X.prog X.w X.K X.mg X.base CX0 k x sp) (hr : Room j X.A) (hk : k ≤ j) (hg : Gl X x) (ha : PA X (e :: es) t)
    (hdb : (x == ("__debug__" : Str)) = false := by decide) (he : starEach (e :: es) X.env = (false, eval e X.env) :: starEach es X.env := by rfl)
    (hpl : (backTo pos (starEach es X.env)).any (·.1) = false := by rfl) : PE X (.Call (.Name x p) (e :: es) [] pos) (tCall sp [] E0 t) := by
  obtain ⟨f, fd, ps, F, hm, kp, b⟩ := c.ex
  exact pe_call F (hr.mono hk) hg hm kp b .nil pass0 ha hdb he hpl
/-- of a def that may raise, and does not here -/
theorem pe_kX (c : Cl X.prog X.w X.K X.mg X.base (L2.CX X.prog X.w) k x sp) (hr : Room j X.A) (hk : k ≤ j) (hg : Gl X x) (ha : PA X (e :: es) t)
    (hdb : (x == ("__debug__" : Str)) = false := by decide) (he : starEach (e :: es) X.env = (false, eval e X.env) :: starEach es X.env := by rfl)
    (hpl : (backTo pos (starEach es X.env)).any (·.1) = false := by rfl) : PE X (.Call (.Name x p) (e :: es) [] pos) (tCall sp [] E0 t) := by
  obtain ⟨f, fd, ps, F, hm, kp, b⟩ := c.ex
  exact pe_call F (hr.mono hk) hg hm kp b .nil passL ha hdb he hpl
/-- of a def that may raise -/
theorem pe_kR {W : WX} (tk : Takes X W) (c : Cl X.prog X.w X.K X.mg X.base (L2.CX X.prog X.w) k x sp) (hr : Room j X.A) (hk : k ≤ j) (hg : Gl X x) (ha : PA X (e :: es) t)
    (hdb : (x == ("__debug__" : Str)) = false := by decide) (he : starEach (e :: es) X.env = (false, eval e X.env) :: starEach es X.env := by rfl)
    (hpl : (backTo pos (starEach es X.env)).any (·.1) = false := by rfl) : PE X (.Call (.Name x p) (e :: es) [] pos) (tCallS sp (WE W) t) := by
  obtain ⟨f, fd, ps, F, hm, kp, b⟩ := c.ex
  exact pe_callS F (hr.mono hk) hg hm kp b (fun σ => passAt tk σ) ha hdb he hpl
theorem pe_kwX (c : Cw X.prog X.w X.K X.mg X.base (L2.CX X.prog X.w) k x ks sp) (hr : Room j X.A) (hk : k ≤ j) (hg : Gl X x) (hkw : PK X kws tk)
    (hall : (backToKw pos (keywordEach kws X.env)).all (·.1.isSome) = true := by rfl) (hks : (backToKw pos (keywordEach kws X.env)).filterMap (·.1) = ks := by rfl)
    (hdb : (x == ("__debug__" : Str)) = false := by decide)
    (hpl : ((backTo pos (starEach [] X.env)).any (·.1) || (backToKw pos (keywordEach kws X.env)).any (·.1.isNone)) = false := by rfl) :
    PE X (.Call (.Name x p) [] kws pos) (tCallK sp (fun vs zs => vs ++ zs) E0 tNil tk) := by
  obtain ⟨f, fd, ps, F, hm, kp, b⟩ := c.ex
  exact pe_kwOnly F (hr.mono hk) hg hm kp b passL hkw hall hks hdb hpl
end
section
variable {K : PySem.W.Frag} {σ : L2.St} {H : Hp} {ta : TA} {ds : List PyData} {d : PyData} {R : Rel}
theorem ed_callK (h : EvDA K ta σ H ds) (hf : R ds (.ok d)) : EvD K (tCallK (spD K R) (fun vs zs => vs ++ zs) E0 tNil ta) σ H d := fun H1 a Q q =>
  h H1 a _ fun vs H2 b hvs => ⟨ds, _, hvs, hf, fun d' e v H' c hv => by cases e; exact q v H' (b.trans c) hv, fun C e => nomatch e⟩
end
/-- what stands of an own error's class -/
structure XcT (K : PySem.W.Frag) (mg : Str → Option Value) (x : Str) (C : Addr) : Prop where
  ex : PySem.W.excIn K C [.type "ValueError", .type "Exception", .type "BaseException", .type "object"] "ValueError.__new__" = true
  gl : mg x = some (.ref C)
  kp : PySem.W.keepIn K (.ref C) = true
  sb : PySem.W.subIn K (.ref C) (.type "BaseException") = some true
  ty : PySem.W.typeIn K (.ref C) = some (.type "type")
section
variable {P : Program} {w : World} {K : PySem.W.Frag} {mg : Str → Option Value} {base : Heap} {x qual : Str} {params : Arguments} {body : List Stmt} {scope : Scope} {f : Addr} {fd : FuncData} {N ps : List Str} {k : Nat}
end
/-- one parameter, given by place or by name -/
theorem kbinds1 {K : PySem.W.Frag} {x qual p : Str} {params : Arguments} {body : List Stmt} {scope : Scope} {f : Addr} {fd : FuncData} (F : FunD K x qual params body scope [] [] f fd)
    (h0 : ∀ (kV doc pm : Value) (an : Option Addr) (cdv ct u : Value), bindArgs (PySem.W.fnOf x qual params body scope .none kV doc pm an cdv ct) ⟨[u], []⟩ = pure [(p, u)])
    (h1 : ∀ (kV doc pm : Value) (an : Option Addr) (cdv ct u : Value), bindArgs (PySem.W.fnOf x qual params body scope .none kV doc pm an cdv ct) ⟨[], [(p, u)]⟩ = pure [(p, u)]) :
    KBinds K fd [p] [p] (fun us ws => us ++ ws) (fun vs zs => vs ++ zs) := by
  obtain ⟨oc, od, dV, kV, doc, pm, an, cdv, ct, osl, rfl, lk, hcd, hD, hK⟩ := F.ex
  rcases hD with ⟨_, rfl⟩ | ⟨e, _⟩
  · constructor
    · intro s us ws _ hl
      match us, ws, hl with
      | [], [u], _ => exact .of_eq (h1 kV doc pm an cdv ct u)
      | [u], [], _ => exact .of_eq (h0 kV doc pm an cdv ct u)
      | [], [], hl => cases hl
      | [], _ :: _ :: _, hl => cases hl
      | [_], _ :: _, hl => cases hl
      | _ :: _ :: _, _, hl => cases hl
    · exact fun r q => r.append q
  · exact absurd rfl e
end Lk

/-! part LkComp -/
/-! Lk, part 5: comprehensions told by data; data without lists, which no store touches. -/
namespace Lk
open PySem PySem.Spec PyProof.Rows L2 Evl
/-! ### data of tuples alone -/
mutual
def tupo : PyData → Bool
  | .list _ => false
  | .dict _ => false
  | .tuple ds => tupos ds
  | _ => true
def tupos : List PyData → Bool
  | [] => true
  | d :: ds => tupo d && tupos ds
end
/-- all tuples stand as they stood -/
def Tx (H H' : Hp) : Prop := ∀ a xs, Rd H a (.tup xs) → Rd H' a (.tup xs)
theorem Tx.refl (H : Hp) : Tx H H := fun _ _ h => h
theorem Tx.trans {H H1 H2 : Hp} (a : Tx H H1) (b : Tx H1 H2) : Tx H H2 := fun x xs h => b x xs (a x xs h)
theorem Ex.tx {H H' : Hp} (e : Ex H H') : Tx H H' := fun _ _ h => ex_rd e h
/-- a store into something that is no tuple -/
theorem Tx.put {H : Hp} {l : Addr} {o u : HO} (h : H l = some u) (n1 : ∀ xs, u ≠ .tup xs) (n2 : ∀ q xs, u ≠ .frz q (.tup xs)) : Tx H (upd H l o) := by
  rintro a xs (r | ⟨q, r⟩)
  · refine Or.inl ?_
    rw [upd_ne]
    · exact r
    · rintro rfl
      rw [h] at r
      exact n1 xs (Option.some.inj r)
  · refine Or.inr ⟨q, ?_⟩
    rw [upd_ne]
    · exact r
    · rintro rfl
      rw [h] at r
      exact n2 q xs (Option.some.inj r)
theorem Tx.lst {H : Hp} {l : Addr} {ys : List V} {o : HO} (h : H l = some (.lst ys)) : Tx H (upd H l o) := Tx.put h (fun _ z => nomatch z) fun _ _ z => nomatch z
theorem Tx.dK {H : Hp} {l : Addr} {ys : List (Key × V)} {o : HO} (h : H l = some (.dK ys)) : Tx H (upd H l o) := Tx.put h (fun _ z => nomatch z) fun _ _ z => nomatch z
mutual
theorem dp_tx {K : PySem.W.Frag} {H H' : Hp} (e : Tx H H') : ∀ (d : PyData) (v : V), tupo d = true → Dq K H v d → Dq K H' v d
  | .none, _, _, .non => .non
  | .bool b, _, _, .bl _ => .bl b
  | .int i, _, _, .int _ => .int i
  | .str x, _, _, .str _ => .str x
  | .tuple ds, _, t, .tup s a => .tup (by
      rcases s with s | s
      · exact Or.inl (e _ _ s)
      · exact Or.inr s) (dps_tx e ds _ (by rw [tupo] at t; exact t) a)
  | .dict _, _, t, .dct _ => by
    rw [tupo] at t
    cases t
theorem dps_tx {K : PySem.W.Frag} {H H' : Hp} (e : Tx H H') : ∀ (ds : List PyData) (vs : List V), tupos ds = true → DqAll K H vs ds → DqAll K H' vs ds
  | [], _, _, .nil => .nil
  | d :: ds, _, t, .cons h r => by
    have t' : (tupo d && tupos ds) = true := by rw [tupos] at t; exact t
    obtain ⟨t1, t2⟩ := Bool.and_eq_true_iff.mp t'
    exact .cons (dp_tx e d _ t1 h) (dps_tx e ds _ t2 r)
end
theorem dps_ints_of {K : PySem.W.Frag} {H : Hp} : ∀ {ns : List Int} {vs : List V}, DqAll K H vs (ns.map PyData.int) → vs = ns.map V.int
  | [], _, .nil => rfl
  | n :: ns, _, .cons h r => by
    have e := dp_int h
    subst e
    rw [List.map_cons, dps_ints_of (ns := ns) r]
/-! ### comprehensions -/
section
variable {K : PySem.W.Frag} {σ : L2.St} {H H' : Hp} {te : TE} {t : TT} {f : Nat → Bool} {g : Nat → PyData} {Dl : Addr}
theorem et_yes : EvT tYes σ H true := fun H1 _ _ q => q H1 (Ex.refl H1)
end
end Lk

/-! part LkDraw -/
/-! Lk, part 6: the state of the draws: a dict that holds two lists and two whole numbers. -/
namespace Lk
open PySem PySem.Spec PyProof.Rows L2 Evl
/-! ### a dict by texts -/
section
variable {σ : L2.St} {H : Hp} {td tv : TE} {a : Addr} {v : V} {s : Str} {kvs : List (Key × V)} {D : Ends} {tz : TS}
theorem ev_dget (h : Ev td σ H (.ref a)) (hd : H a = some (.dK kvs)) (hv : valV kvs (.inr s) = some v) : Ev (tDGet td (tC (.str s))) σ H v := fun H1 e Q q =>
  h H1 e _ fun H2 e2 => ⟨a, v, rfl, hv ▸ DGet.k (k := .inr s) (e2 _ _ (e _ _ hd)), q H2 e2⟩
/-- d[k] = v, the value by a run that ends in dput_end -/
theorem r_dput (h : tv σ H fun v H1 => td σ H1 fun x H2 => ∃ a H4, x = .ref a ∧ DPut H2 a (.str s) v H4 ∧ D.nx σ H4) : sDPut td (tC (.str s)) tv D σ H := h
theorem q_dput (h : tv σ H fun v H1 => td σ H1 fun x H2 => ∃ a H4, x = .ref a ∧ DPut H2 a (.str s) v H4 ∧ tz D σ H4) : tSeq (sDPut td (tC (.str s)) tv) tz D σ H := h
theorem dput_end {T : L2.St → Hp → Prop} (ht : Ev td σ H (.ref a)) (hd : H a = some (.dK kvs)) (hl : kvs.length < 1000) (k : ∀ H2, Ex H H2 → T σ (upd H2 a (.dK (putK kvs (.inr s) v)))) :
    td σ H fun x H2 => ∃ a H4, x = .ref a ∧ DPut H2 a (.str s) v H4 ∧ T σ H4 :=
  ht H (Ex.refl H) _ fun H2 e => ⟨a, _, rfl, DPut.k (k := .inr s) (e _ _ hd) (sz_lt (by omega)), k H2 e⟩
end
/-! ### the state -/
def stD (g c : Addr) (r t : Int) : List (Key × V) := [(.inr "great", .ref g), (.inr "cells", .ref c), (.inr "rest", .int r), (.inr "turn", .int t)]
theorem stD_great {g c : Addr} {r t : Int} : valV (stD g c r t) (.inr "great") = some (.ref g) := rfl
theorem stD_cells {g c : Addr} {r t : Int} : valV (stD g c r t) (.inr "cells") = some (.ref c) := rfl
theorem stD_rest {g c : Addr} {r t : Int} : valV (stD g c r t) (.inr "rest") = some (.int r) := rfl
theorem stD_turn {g c : Addr} {r t : Int} : valV (stD g c r t) (.inr "turn") = some (.int t) := rfl
theorem put_rest {g c : Addr} {r t x : Int} : putK (stD g c r t) (.inr "rest") (.int x) = stD g c x t := rfl
theorem put_turn {g c : Addr} {r t x : Int} : putK (stD g c r t) (.inr "turn") (.int x) = stD g c r x := rfl
theorem stD_len {g c : Addr} {r t : Int} : (stD g c r t).length < 1000 := show 4 < 1000 by decide
/-- the moduli of the mixing -/
def primes : List Int := [2147483629, 2147483647, 2147483563, 2147483587]
theorem primes_at (i : Nat) (x : V) (h : (primes.map V.int)[i]? = some x) : ∃ q : Int, x = .int q ∧ 2147483563 ≤ q ∧ q ≤ 2147483647 := by
  rcases i with _ | _ | _ | _ | i
  · cases h; exact ⟨_, rfl, by decide, by decide⟩
  · cases h; exact ⟨_, rfl, by decide, by decide⟩
  · cases h; exact ⟨_, rfl, by decide, by decide⟩
  · cases h; exact ⟨_, rfl, by decide, by decide⟩
  · cases h
structure StD (H : Hp) (a g c : Addr) (gs cs : List Int) (r t : Int) : Prop where
  hd : H a = some (.dK (stD g c r t))
  hg : H g = some (.lst (gs.map V.int))
  hc : H c = some (.lst (cs.map V.int))
  hn : g ≠ c
theorem StD.ag {H : Hp} {a g c : Addr} {gs cs : List Int} {r t : Int} (s : StD H a g c gs cs r t) : a ≠ g := by
  rintro rfl
  have h := s.hd.symm.trans s.hg
  cases h
theorem StD.ac {H : Hp} {a g c : Addr} {gs cs : List Int} {r t : Int} (s : StD H a g c gs cs r t) : a ≠ c := by
  rintro rfl
  have h := s.hd.symm.trans s.hc
  cases h
theorem StD.ex {H H' : Hp} {a g c : Addr} {gs cs : List Int} {r t : Int} (s : StD H a g c gs cs r t) (e : Ex H H') : StD H' a g c gs cs r t := ⟨e _ _ s.hd, e _ _ s.hg, e _ _ s.hc, s.hn⟩
theorem StD.put {H : Hp} {a g c : Addr} {gs cs : List Int} {r t r' t' : Int} (s : StD H a g c gs cs r t) : StD (upd H a (.dK (stD g c r' t'))) a g c gs cs r' t' :=
  ⟨upd_same, by rw [upd_ne s.ag.symm]; exact s.hg, by rw [upd_ne s.ac.symm]; exact s.hc, s.hn⟩
theorem StD.pop {H : Hp} {a g c : Addr} {gs cs gs' : List Int} {r t : Int} (s : StD H a g c gs cs r t) : StD (upd H g (.lst (gs'.map V.int))) a g c gs' cs r t :=
  ⟨by rw [upd_ne s.ag]; exact s.hd, upd_same, by rw [upd_ne s.hn.symm]; exact s.hc, s.hn⟩
/-- the state at a, its list of great ones at g; at most n turns so far -/
def StAt (H : Hp) (a g : Addr) (n : Nat) : Prop := ∃ c gs cs r t, StD H a g c gs cs r t ∧ 0 ≤ t ∧ t ≤ (n : Int)
theorem StAt.ex {H H' : Hp} {a g : Addr} {n : Nat} (s : StAt H a g n) (e : Ex H H') : StAt H' a g n := by
  obtain ⟨c, gs, cs, r, t, s, h⟩ := s
  exact ⟨c, gs, cs, r, t, s.ex e, h⟩
theorem StAt.mono {H : Hp} {a g : Addr} {n m : Nat} (s : StAt H a g n) (e : n ≤ m) : StAt H a g m := by
  obtain ⟨c, gs, cs, r, t, s, h, h'⟩ := s
  exact ⟨c, gs, cs, r, t, s, h, by omega⟩
/-- all but the state stands as it stood -/
def Kp (a g : Addr) (H H' : Hp) : Prop := ∀ b o, H b = some o → b ≠ a → b ≠ g → H' b = some o
theorem Kp.refl {a g : Addr} (H : Hp) : Kp a g H H := fun _ _ h _ _ => h
theorem Kp.trans {a g : Addr} {H H1 H2 : Hp} (x : Kp a g H H1) (y : Kp a g H1 H2) : Kp a g H H2 := fun b o h n m => y b o (x b o h n m) n m
theorem Kp.of {a g : Addr} {H H' : Hp} (e : Ex H H') : Kp a g H H' := fun b o h _ _ => e b o h
theorem Kp.a {a g : Addr} {H : Hp} {o : HO} : Kp a g H (upd H a o) := fun b u h n _ => by rw [upd_ne n]; exact h
theorem Kp.g {a g : Addr} {H : Hp} {o : HO} : Kp a g H (upd H g o) := fun b u h _ n => by rw [upd_ne n]; exact h
/-- the heap without the state -/
def hide (a g : Addr) (H : Hp) : Hp := fun b => if b = a ∨ b = g then none else H b
theorem hide_ex {a g : Addr} {H : Hp} : Ex (hide a g H) H := fun b o h => by
  unfold hide at h
  by_cases q : b = a ∨ b = g
  · rw [if_pos q] at h; cases h
  · rw [if_neg q] at h; exact h
theorem Kp.hide {a g : Addr} {H H' : Hp} (k : Kp a g H H') : Ex (hide a g H) (hide a g H') := fun b o h => by
  unfold Lk.hide at h ⊢
  by_cases q : b = a ∨ b = g
  · rw [if_pos q] at h; cases h
  · rw [if_neg q] at h ⊢
    exact k b o h (fun z => q (.inl z)) fun z => q (.inr z)
theorem hide_tx {a g : Addr} {n : Nat} {H : Hp} (s : StAt H a g n) : Tx H (hide a g H) := by
  obtain ⟨c, gs, cs, r, t, s, _⟩ := s
  rintro b xs h
  have hb : ¬ (b = a ∨ b = g) := by
    rintro (rfl | rfl)
    · rcases h with h | ⟨q, h⟩
      · have := s.hd.symm.trans h; cases this
      · have := s.hd.symm.trans h; cases this
    · rcases h with h | ⟨q, h⟩
      · have := s.hg.symm.trans h; cases this
      · have := s.hg.symm.trans h; cases this
  unfold Rd hide
  rw [if_neg hb]
  exact h
theorem Kp.tx {a g : Addr} {n : Nat} {H H' : Hp} (k : Kp a g H H') (s : StAt H a g n) : Tx H H' := (hide_tx s).trans ((Ex.tx k.hide).trans (Ex.tx hide_ex))
/-! ### what runs along with the state -/
section
variable {K : PySem.W.Frag} {a g : Addr} {σ : L2.St} {H H' : Hp} {ta tb te : TE} {tr : TA} {n m k l : Nat} {Φ Ψ : PyData → Prop} {d : PyData}
end
/-! ### the four helpers' promises -/
/-- draws beyond this number are not told -/
def far : Nat := 1000000000000
section
variable {K : PySem.W.Frag} {a g : Addr} {σ : L2.St} {H H' : Hp} {td te tl : TE} {tr : TA} {n m k l : Nat} {Φ Ψ : PyData → Prop} {room : Int}
end
/-- THE RULE for a def told by a run -/
theorem fn_run {P : Program} {w : World} {K : PySem.W.Frag} {mg : Str → Option Value} {base : Heap} {x qual : Str} {params : Arguments} {body : List Stmt} {scope : Scope} {f : Addr} {fd : FuncData} {N ps : List Str} {k : Nat} {sp : Sp}
    (D : FunD K x qual params body scope [] [] f fd) (S : FnScope N ps scope) (hl : ∀ vs H Q E, sp vs H Q E → vs.length = ps.length)
    (h : ∀ (cdv : Value) (A : Around) (outer : List Env) (s : Shared) (H : Hp) (E : XK), Room k (A.deeper (envOfC qual scope s.heap.objs.size f cdv)) →
      ∃ t, PSs (cxOf CX0 P w K mg base N qual scope f cdv A outer s H E).nox body t ∧ ∀ (vs : List V) (Q : VK), sp vs H Q E → t { nx := fun _ H' => Q .non H', rt := Q } (start N vs) H) :
    FnOk P w K mg base CX0 (k + 1) f fd ps sp := by
  refine D.ok S hl (fun cdv A outer s H vs Q E hr q => ?_)
  obtain ⟨t, h1, h2⟩ := h cdv A outer s H E hr
  exact ⟨t, h1.nox, h2 vs Q q⟩
/-! ### small readings -/
section
variable {K : PySem.W.Frag} {σ : L2.St} {H : Hp} {ta tb : TE} {b : Bool} {t : TT} {Q : VK} {r : R2}
theorem r_if (h : EvT t σ H b) (h1 : b = true → ∀ H1, Ex H H1 → ta σ H1 Q) (h2 : b = false → ∀ H1, Ex H H1 → tb σ H1 Q) : tIf t ta tb σ H Q := h H (Ex.refl H) _ fun H1 e => by
  cases b with
  | true =>
    show ta σ H1 Q
    exact h1 rfl H1 e
  | false =>
    show tb σ H1 Q
    exact h2 rfl H1 e
/-- the pairs of a display whose keys are texts -/
theorem r_pairEv {s : Str} {v : V} {rest : List (TE × TE)} {R : List (V × V) → Hp → Prop} (h : Ev ta σ H v) (k : ∀ H1, Ex H H1 → tPairs rest σ H1 fun ps H3 => R ((.str s, v) :: ps) H3) : tPairs ((tC (.str s), ta) :: rest) σ H R := h H (Ex.refl H) _ k
theorem r_pairEvL {s : Str} {xs : List V} {rest : List (TE × TE)} {R : List (V × V) → Hp → Prop} (h : EvL ta σ H xs) (k : ∀ p H1, H p = none → Ex H H1 → H1 p = some (.lst xs) → tPairs rest σ H1 fun ps H3 => R ((.str s, .ref p) :: ps) H3) : tPairs ((tC (.str s), ta) :: rest) σ H R := h H (Ex.refl H) _ k
/-- xs.pop(0) -/
theorem r_pop0 {g : Addr} {x : V} {xs : List V} (h : Ev ta σ H (.ref g)) (hg : H g = some (.lst (x :: xs))) (k : ∀ H1, Ex H H1 → Q x (upd H1 g (.lst xs))) : tBM K "list" rPopAt ta (tCons (tC (.int 0)) tNil) σ H Q :=
  h H (Ex.refl H) _ fun H1 e => ⟨Or.inl ⟨rfl, x :: xs, sq_of (e _ _ hg)⟩, g, x :: xs, 0, 0, x, rfl, rfl, e _ _ hg, by decide, by decide, (by
    unfold seqIndex?
    simp), rfl, k H1 e⟩
end
theorem dec_vi' (i j : Int) : decide (V.int i = V.int j) = decide (i = j) := by
  by_cases h : i = j
  · subst h; simp
  · rw [decide_eq_false h, decide_eq_false]
    intro q
    exact h (V.int.inj q)
theorem ints_lay : ∀ ns : List Int, PyData.canLayAll0 (ns.map PyData.int) = true
  | [] => by simp [PyData.canLayAll0]
  | n :: ns => by simp [PyData.canLayAll0, PyData.canLay0, ints_lay ns]
theorem ints_depth : ∀ ns : List Int, PyData.depthAll (ns.map PyData.int) ≤ 2
  | [] => by simp [PyData.depthAll]
  | n :: ns => by
    have h1 := ints_depth ns
    simp only [List.map_cons, PyData.depthAll, PyData.depth]
    omega
theorem sh_ints (ns : List Int) : SeqAt.shaped (.list (ns.map PyData.int)) = true := by
  have h1 := ints_depth ns
  have h2 : PyData.depth (.list (ns.map PyData.int)) ≤ 64 := by
    simp only [PyData.depth]
    omega
  unfold SeqAt.shaped
  rw [decide_eq_true h2, PyData.canLay0, ints_lay]
  rfl
end Lk

/-! part LkLam -/
/-! Lk, part 7: defs that hand a lambda to «caught»; what stands through it. -/
namespace Lk
open PySem PySem.Spec PyProof.Rows L2 Evl LamX
/-! ### heaps -/
/-- all but the state and the tables stands -/
def Kn (a g : Addr) (H H' : Hp) : Prop := ∀ b o, H b = some o → b ≠ a → b ≠ g → (∀ ps, o ≠ .tbl ps) → H' b = some o
theorem Kn.refl {a g : Addr} (H : Hp) : Kn a g H H := fun _ _ h _ _ _ => h
theorem Kn.trans {a g : Addr} {H H1 H2 : Hp} (x : Kn a g H H1) (y : Kn a g H1 H2) : Kn a g H H2 := fun b o h n m t => y b o (x b o h n m t) n m t
theorem Kn.kp {a g : Addr} {H H' : Hp} (k : Kp a g H H') : Kn a g H H' := fun b o h n m _ => k b o h n m
theorem Kn.of {a g : Addr} {H H' : Hp} (e : Ex H H') : Kn a g H H' := fun b o h _ _ _ => e b o h
theorem Kn.ext {a g : Addr} {H H' : Hp} (e : ExtN H H') : Kn a g H H' := fun b o h _ _ t => e b o h t
theorem Kn.tx {a g : Addr} {n : Nat} {H H' : Hp} (k : Kn a g H H') (s : StAt H a g n) : Tx H H' := fun b xs h => by
  obtain ⟨c, gs, cs, r, t, s, _⟩ := s
  have hb : b ≠ a := by
    rintro rfl
    rcases h with h | ⟨q, h⟩ <;> exact nomatch s.hd.symm.trans h
  have hg : b ≠ g := by
    rintro rfl
    rcases h with h | ⟨q, h⟩ <;> exact nomatch s.hg.symm.trans h
  rcases h with h | ⟨q, h⟩
  · exact .inl (k b _ h hb hg fun ps z => nomatch z)
  · exact .inr ⟨q, k b _ h hb hg fun ps z => nomatch z⟩
theorem extN_tx {H H' : Hp} (e : ExtN H H') : Tx H H' := fun b xs h => by
  rcases h with h | ⟨q, h⟩
  · exact .inl (e b _ h fun ps z => nomatch z)
  · exact .inr ⟨q, e b _ h fun ps z => nomatch z⟩
theorem StAt.ext {H H' : Hp} {a g : Addr} {n : Nat} (s : StAt H a g n) (e : ExtN H H') : StAt H' a g n := by
  obtain ⟨c, gs, cs, r, t, s, h⟩ := s
  exact ⟨c, gs, cs, r, t, ⟨e _ _ s.hd (fun ps z => nomatch z), e _ _ s.hg (fun ps z => nomatch z), e _ _ s.hc (fun ps z => nomatch z), s.hn⟩, h⟩
mutual
theorem dp_ext {K : PySem.W.Frag} {H H' : Hp} (e : ExtN H H') : ∀ (d : PyData) (v : V), Dq K H v d → Dq K H' v d
  | .none, _, .non => .non
  | .bool b, _, .bl _ => .bl b
  | .int i, _, .int _ => .int i
  | .str x, _, .str _ => .str x
  | .list ds, _, .lst s a => .lst (by
      rcases s with (s | ⟨q, s⟩) | s
      · exact .inl (.inl (e _ _ s fun ps z => nomatch z))
      · exact .inl (.inr ⟨q, e _ _ s fun ps z => nomatch z⟩)
      · exact .inr s) (dps_ext e ds _ a)
  | .tuple ds, _, .tup s a => .tup (by
      rcases s with s | s
      · exact .inl (extN_tx e _ _ s)
      · exact .inr s) (dps_ext e ds _ a)
  | .dict _, _, .dct h => .dct (e _ _ h fun ps z => nomatch z)
theorem dps_ext {K : PySem.W.Frag} {H H' : Hp} (e : ExtN H H') : ∀ (ds : List PyData) (vs : List V), DqAll K H vs ds → DqAll K H' vs ds
  | [], _, .nil => .nil
  | d :: ds, _, .cons h r => .cons (dp_ext e d _ h) (dps_ext e ds _ r)
end
theorem codeO_nd {c : Addr} {q : Str} : (∀ kvs, CodeO c q ≠ .dK kvs) ∧ ∀ xs, CodeO c q ≠ .lst xs := ⟨(fun _ z => nomatch z), (fun _ z => nomatch z)⟩
/-- the tables stand through the draws -/
theorem Tabs.kp {T : List (Addr × Str)} {a g : Addr} {n : Nat} {H H' : Hp} (t : Tabs T H) (s : StAt H a g n) (k : Kp a g H H') : Tabs T H' := fun p hp => by
  obtain ⟨c, gs, cs, r, t', s, _⟩ := s
  obtain ⟨ps, h1, h2, h3⟩ := t p hp
  have ne : ∀ b o, H b = some o → (∀ kvs, o ≠ .dK kvs) → (∀ xs, o ≠ .lst xs) → H' b = some o := fun b o h n1 n2 => k b o h (by
    rintro rfl
    exact n1 _ (Option.some.inj (h.symm.trans s.hd))) (by
    rintro rfl
    exact n2 _ (Option.some.inj (h.symm.trans s.hg)))
  refine ⟨ps, ne _ _ h1 (fun _ z => nomatch z) (fun _ z => nomatch z), h2, fun pos cv hc => ?_⟩
  obtain ⟨c, e1, e2⟩ := h3 pos cv hc
  exact ⟨c, e1, ne _ _ e2 codeO_nd.1 codeO_nd.2⟩
/-! ### a def that makes lambdas -/
/-- what stands of the code object of the def x, of its table -/
structure LamD (K : PySem.W.Frag) (mg : Str → Option Value) (base : Heap) (T : List (Addr × Str)) (x q : Str) : Prop where
  tb : TabB base mg (He.codeOf K (x, none)) (He.tabOf K (He.codeOf K (x, none)))
  mem : (He.tabOf K (He.codeOf K (x, none)), q) ∈ T
  one : ∀ p ∈ T, p.1 = He.tabOf K (He.codeOf K (x, none)) → p.2 = q
/-- the reading of caught(lambda: f(..)), f a def that may raise -/
def tCg (T : List (Addr × Str)) (K : PySem.W.Frag) (CS : Addr) (sp : Sp) (ta : TA) : TE := tLam T (TCaught K CS) fun E => tCallS sp (WE fun cls d _ H => E cls d H) ta
section
variable {X : Cx}
theorem pe_caught {T : List (Addr × Str)} {CS g : Addr} {k : Nat} {pg : Arguments} {bg : List Stmt} {sg : Scope} {fd : FuncData} {x a n y e q xd : Str} {sp : Sp} {ta : TA}
    {params : Arguments} {body : Expr} {scope : Scope} {p lpos pos : Pos} {j : Nat} {p1 p2 p3 p4 p5 p6 p7 p8 p9 q1 q2 q3 q4 q5 : Pos}
    (D : FunD X.K x x pg bg sg [] [] g fd) (hg : Gl X x) (hm : X.mg x = some (.ref g))
    (hbg : bg = [.Assign [.Name y q1] (.Constant .none j q2) q3,
      .Try [.Expr (.Call (.Name a p1) [] [] p2) p3] [.ExceptHandler (some (.Name e p4)) (some n) [.Assign [.Name y p5] (.Name n p6) p7] p8] [] [] p9,
      .Return (some (.Name y q4)) q5])
    (hbp : ∀ (kV doc pm : Value) (an : Option Addr) (cdv ct : Value) (us : List Value), us.length = [a].length → bindArgs (PySem.W.fnOf x x pg bg sg .none kV doc pm an cdv ct) ⟨us, []⟩ = pure ([a].zip us))
    (Sg : FnScope [a, y, n] [a] sg) (hnd : [a, y, n].Nodup) (hva : Vis sg a)
    (hge : sg.names.lookup e = some .globalImplicit) (hme : X.mg e = some (.ref CS)) (hde : (e == ("__debug__" : Str)) = false)
    (hy : sg.names.lookup y = some .local) (hn : sg.names.lookup n = some .local)
    (hdb : (n == ("__debug__" : Str)) = false) (hcd : (n == ("__classdict__" : Str)) = false)
    (hdb2 : (y == ("__debug__" : Str)) = false) (hcd2 : (y == ("__classdict__" : Str)) = false)
    (hdx : (x == ("__debug__" : Str)) = false) (hda : (a == ("__debug__" : Str)) = false) (hca : (a == ("__classdict__" : Str)) = false)
    (LD : LamD X.K X.mg X.base T xd q) (hcode : X.env.code = .ref (He.codeOf X.K (xd, none))) (hq : X.env.qual ++ "<lambda>" = q) (hr : Room (k + 2) X.A) (L : LamS X.env.scope scope) (hdef : defaultsOf params X.env = ([], []))
    (hbind : ∀ (q : Str) (cl : List (Str × Addr)) (pm cv ctv : Value), bindArgs (PySem.W.kla_fn "<lambda>" q params body scope cl pm cv ctv) ⟨[], []⟩ = pure [])
    (hbody : ∀ (A : Around) (outer : List Env) (s : Shared) (H : Hp) (E : XK) (f c' : Addr), Room k (A.deeper (lamEnv X scope s.heap.objs.size f c')) → PE (lamCx X A outer s H E scope f c') body (tCallS sp (WE fun cls d _ H => E cls d H) ta)) :
    PE X (.Call (.Name x p) [.Lambda params body scope lpos] [] pos) (tCg T X.K CS sp ta) := by
  have kp := D.kp
  have hb := D.bindsN hbp
  obtain ⟨oc, od, dV, kV, doc, pm, an, cdv, ct, osl, rfl, lk, hcdx, _, _⟩ := D.ex
  subst hbg hq
  exact pe_lamcall (k := k) (a := a) (Ng := [a, y, n]) hg hm kp lk hcdx hb Sg rfl hva (caught_gives rfl hnd hge hme hde hy hn hdb hcd hdb2 hcd2) LD.tb hcode LD.mem LD.one hr L hdef hbind hbody hdx hda hca
end
section
variable {K : PySem.W.Frag} {T : List (Addr × Str)} {CS C : Addr} {σ : L2.St} {H : Hp} {R : Rel} {ta : TA} {Q : VK} {ds : List PyData}
end
/-! ### a, b, c = a tuple; x in a new list -/
section
variable {K K' : PySem.W.Frag} {σ : L2.St} {H : Hp} {te : TE} {D : Ends} {tz : TS} {i j l : Nat} {d1 d2 d3 : PyData}
end
end Lk

/-! part LkRun -/
/-! Lk, part 8: defs that draw: promises, displays, loops; data in a tuple of data. -/
namespace Lk
open PySem PySem.Spec PyProof.Rows L2 Evl LamX
/-! ### promises -/
section
variable {K : PySem.W.Frag} {a g : Addr} {σ : L2.St} {H H' : Hp} {td te tl : TE} {ta tr : TA} {n m k l c : Nat} {Φ : PyData → Prop} {Ψ : List PyData → Prop} {d : PyData} {ds : List PyData} {A : List PyData → Prop} {Θ : List PyData → PyData → Prop}
end
/-! ### data in a tuple -/
def rInDT (K : PySem.W.Frag) (neg : Bool) : R2 := fun x y H Q => ∃ d ds, L2.Dp K H x d ∧ L2.Dp K H y (.tuple ds) ∧ SeqAt.shaped d = true ∧ SeqAt.shaped (.tuple ds) = true ∧ Q (.bl (if neg then !(ds.any fun z => PyData.eqv z d) else ds.any fun z => PyData.eqv z d)) H
section
variable {X : Cx}
theorem op_inDT (hu : X.A.units + 65 < cLine) : OpR X (compareOp .In) (rInDT X.K false) := by
  rintro pins s σ H x y v u Q I rx ry ⟨d, ds, hd, he, sd, se, q⟩
  obtain ⟨as, r1⟩ := L2.Dp.reads I d x v hd rx
  obtain ⟨bs, r2⟩ := L2.Dp.reads I (.tuple ds) y u he ry
  refine SeqAt.in_tuple_reads r2 r1 (SeqAt.canLay_of_shaped se) (SeqAt.canLay_of_shaped sd) (room_in_shaped sd hu) ?_
  exact ⟨.bl _, H, I, rfl, q⟩
theorem op_notInDT (hu : X.A.units + 65 < cLine) : OpR X (compareOp .NotIn) (rInDT X.K true) := by
  rintro pins s σ H x y v u Q I rx ry ⟨d, ds, hd, he, sd, se, q⟩
  obtain ⟨as, r1⟩ := L2.Dp.reads I d x v hd rx
  obtain ⟨bs, r2⟩ := L2.Dp.reads I (.tuple ds) y u he ry
  refine SeqAt.notIn_tuple_reads r2 r1 (SeqAt.canLay_of_shaped se) (SeqAt.canLay_of_shaped sd) (room_in_shaped sd hu) ?_
  exact ⟨.bl _, H, I, rfl, q⟩
end
section
variable {K K' : PySem.W.Frag} {σ : L2.St} {H : Hp} {ta tb : TE} {d : PyData} {ds : List PyData}
end
/-! ### tests that draw -/
section
variable {K : PySem.W.Frag} {a g : Addr} {σ : L2.St} {H H' : Hp} {td te tl ta tb : TE} {tr : TA} {t u : TT} {n m k l c : Nat} {Φ : PyData → Prop} {T : List (Addr × Str)} {b b2 : Bool} {A : List PyData → Prop} {Θ : List PyData → PyData → Prop}
end
/-! ### tuples joined -/
theorem log2_of {n k c : Nat} (h : n < 2 ^ k) (hk : k ≤ c) (hc : 0 < c) : n.log2 < c := by
  by_cases h0 : n = 0
  · subst h0
    exact Nat.lt_of_le_of_lt (Nat.log2_le_self 0) hc
  · exact Nat.lt_of_lt_of_le ((Nat.log2_lt h0).mpr h) hk
theorem XcT.v {K : PySem.W.Frag} {mg : Str → Option Value} {x : Str} {C : Addr} (h : XcT K mg x C) : ∃ u, mg x = some u ∧ RelV (.ref C) u := ⟨_, h.gl, rfl⟩
/-- what stands of an own class of errors, to be asked of and to be caught by CS -/
structure XiT (K : PySem.W.Frag) (mg : Str → Option Value) (CS : Addr) (x : Str) (C : Addr) : Prop where
  e : ExcC K C
  k : PySem.W.kitOne K (.ref C) (.ref C) = some true
  ex : PySem.W.exmOne K (.ref C) (.ref CS) = some true
  g : mg x = some (.ref C)
theorem XiT.v {K : PySem.W.Frag} {mg : Str → Option Value} {x : Str} {C CS : Addr} (h : XiT K mg CS x C) : ∃ u, mg x = some u ∧ RelV (.ref C) u := ⟨_, h.g, rfl⟩
theorem units1 {k : Nat} {A : Around} (r : Room k A) : A.units + 65 < cLine := by
  have := r.un
  omega
/-! ### shapes of lists -/
/-- a store into an object that was new -/
theorem ExtN.mut {H H' : Hp} {p : Addr} {o : HO} (e : ExtN H H') (hp : H p = none) : ExtN H (upd H' p o) := fun b u h t => by
  rw [upd_ne (ne_of_none h hp)]
  exact e b u h t
theorem Tabs.lst {T : List (Addr × Str)} {H : Hp} {p : Addr} {xs : List V} {o : HO} (t : Tabs T H) (hp : H p = some (.lst xs)) : Tabs T (upd H p o) := fun r hr => by
  obtain ⟨ps, h1, h2, h3⟩ := t r hr
  have ne : ∀ b u, H b = some u → (∀ xs, u ≠ .lst xs) → upd H p o b = some u := fun b u h n => by
    rw [upd_ne]
    · exact h
    · rintro rfl
      exact n _ (Option.some.inj (h.symm.trans hp))
  refine ⟨ps, ne _ _ h1 (fun _ z => nomatch z), h2, fun pos cv hc => ?_⟩
  obtain ⟨c, e1, e2⟩ := h3 pos cv hc
  exact ⟨c, e1, ne _ _ e2 codeO_nd.2⟩
end Lk

/-! part LkSet -/
/-! Lk, part 9: len(set(t)), t a tuple of unlike tuples of whole numbers and texts. -/
namespace Lk
open PySem PySem.Spec PyProof.Rows L2
section
variable {P : Program} {w : World} {A : Around} {E : Value → Shared → Prop} {s : Shared}
/-- the tuple at a holds the keys k -/
abbrev KeyT (P : Program) (w : World) (h : Heap) (k : List Key) (a : Addr) : Prop := IsTupleKey (mixKind P w) h k a
abbrev kh (P : Program) (w : World) (k : List Key) : Int := tupleKeyHash (mixKind P w) k
abbrev Ent : Type := Addr × List Key
def rowK (P : Program) (w : World) (p : Ent) : Int × Value := (kh P w p.2, Value.ref p.1)
/-- the set at a holds the entries L, all unlike -/
structure SetD (P : Program) (w : World) (h : Heap) (a : Addr) (L : List Ent) (o : Obj) (es : Array (Int × Value)) (ep : Nat) (t : SetTable) : Prop where
  at_ : h.get? a = some o
  exact_ : o.ExactSet
  data : o.data = .set es ep t
  rows : es.toList = L.map (rowK P w)
  tab : TabOk t (L.map fun p => kh P w p.2)
  room : L.length * 5 < t.mask * 3
  keys : ∀ p ∈ L, KeyT P w h p.2 p.1
variable {a : Addr} {L : List Ent} {o : Obj} {es : Array (Int × Value)} {ep : Nat} {t : SetTable}
theorem SetD.size {h : Heap} (R : SetD P w h a L o es ep t) : es.size = L.length := by
  rw [← Array.length_toList, R.rows, List.length_map]
theorem SetD.places {h : Heap} (R : SetD P w h a L o es ep t) : t.place.size = L.length := by
  have q := R.tab.sz
  rw [List.length_map] at q
  exact q
theorem fits_of {n : Nat} (hd : t.dummies = #[]) (hs : t.place.size = n) (hm : n ≤ t.mask) : t.fits n = true := by
  unfold SetTable.fits SetTable.fill
  rw [hd, hs, beq_self_eq_true, Bool.true_and, decide_eq_true_eq]
  show n + 0 ≤ t.mask
  omega
theorem SetD.fits {h : Heap} (R : SetD P w h a L o es ep t) : t.fits es.size = true := by
  have q := R.room
  exact fits_of R.tab.dm (R.places.trans R.size.symm) (by rw [R.size]; omega)
theorem SetD.entry {h : Heap} (R : SetD P w h a L o es ep t) {i : Nat} {p : Ent} (hi : L[i]? = some p) : es[i]? = some (rowK P w p) := by
  rw [← Array.getElem?_toList, R.rows, List.getElem?_map, hi, Option.map_some]
/-! ### laying anew -/
/-! ### adding -/
/-! ### set(t) -/
def Keeps (h h' : Heap) : Prop := ∀ b o, h.get? b = some o → h'.get? b = some o
/-- a set, empty and new -/
abbrev newSet (w : World) : Obj := { cls := .type "set", dict := none, data := .set #[] 0 (.fresh 0 0 (!w.params.followText "set-order")) }
end
end Lk

/-! part LkSetB -/
/-! Lk, part 10: the same as a reading. -/
namespace Lk
open PySem PySem.Spec PyProof.Rows L2 Evl
section
variable {X : Cx}
end
end Lk

/-! part LkStr -/
/-! Lk: walks over tuples and texts told by data; all of answers; a tuple beside (). -/
namespace Lk
open PySem PySem.Spec PyProof.Rows L2 Evl
/-! ### t == () -/
def rEqNil (K : PySem.W.Frag) : R2 := fun x y H Q => ∃ a b xs, x = .ref a ∧ y = .ref b ∧ SqT K H a xs ∧ SqT K H b [] ∧ Q (.bl (decide (xs.length = 0))) H
theorem op_eqNil {X : Cx} (hu : X.A.units < cLine) : OpR X (compareOp .Eq) (rEqNil X.K) := by
  rintro pins s σ H x y v u Q I rx ry ⟨a, b, xs, rfl, rfl, ha, hb, q⟩
  cases rx
  cases ry
  obtain ⟨its, r1, p1, _⟩ := I.tuple ha
  obtain ⟨its2, r2, p2, _⟩ := I.tuple hb
  have e2 : its2 = [] := by cases r2; rfl
  subst e2
  refine SeqAt.eq_tupleAt (e := fun _ => true) p1 p2 hu (fun j _ h2 => absurd h2 (by simp)) ?_
  have e : ((List.range (min its.toArray.size ([] : List Value).toArray.size)).all (fun _ => true) && its.toArray.size == ([] : List Value).toArray.size) = decide (xs.length = 0) := by
    rw [r1.length, List.all_eq_true.mpr (fun _ _ => rfl), Bool.true_and, List.size_toArray, List.size_toArray]
    by_cases h : its.length = 0
    · rw [decide_eq_true h, h]
      rfl
    · rw [decide_eq_false h]
      exact beq_eq_false_iff_ne.mpr h
  rw [e]
  exact ⟨.bl _, H, I, rfl, q⟩
section
variable {K K' : PySem.W.Frag} {σ : L2.St} {H : Hp} {ta te tl : TE} {t : TT} {d : PyData} {ds : List PyData}
/-! ### all of a list of answers -/
/-! ### comprehensions over tuples, over texts -/
/-! ### texts -/
/-! ### loops over tuples, lists -/
/-! ### t <= u of whole numbers -/
/-! ### is it a tuple of n items? -/
def isTupN (n : Int) : PyData → Bool
  | .tuple ds => decide ((ds.length : Int) = n)
  | _ => false
end
/-! ### data whose texts are short -/
mutual
def smD : PyData → Bool
  | .str x => decide (x.length ≤ 1000)
  | .list ds => smDs ds
  | .tuple ds => smDs ds
  | _ => true
def smDs : List PyData → Bool
  | [] => true
  | d :: ds => smD d && smDs ds
end
theorem RV.is {r : R2} {x y z z' : V} {H : Hp} (h : RV r x y H z) (e : z = z') : RV r x y H z' := by
  rw [← e]
  exact h
end Lk

/-! part LkSl -/
/-! Lk: t[1:] of a tuple told by data; x is None. -/
namespace Lk
open PySem PySem.Spec PyProof.Rows L2 Evl
section
variable {K K' : PySem.W.Frag} {σ : L2.St} {H : Hp} {ta te tl : TE} {t : TT} {d : PyData} {ds : List PyData}
end
end Lk

/-! part LkRev -/
/-! Lk: t[::-1] of a tuple. -/
namespace Lk
open PySem PySem.Spec PyProof.Rows L2 Evl HT
section
variable {prog : Program} {w : World} {A : Around} {E : Value → Shared → Prop} {s : Shared}
theorem sl_rev {sl : Addr} {vl vu vs : Value} {n : Nat} {Q : Int × Int × Nat → Shared → Prop} (hs : s.heap.IsSliceOf sl vl vu vs) (pl : IsPart vl none) (pu : IsPart vu none) (ps : IsPart vs (some (-1))) (h : Q ((n : Int) - 1, -1, n) s) :
    wpAny (model prog w) A (Builtin.Slice.sliceApplied (.ref sl) (pure (n : Int))) Q E s := by
  rcases hs with ⟨o, ho, hc, hd⟩
  unfold Builtin.Slice.sliceApplied Builtin.Slice.sliceFields
  refine wpAny_bind (wpAny_bind (wpAny_field ho hd (x := vl) rfl (wpAny_bind (wpAny_field ho hd (x := vu) rfl (wpAny_bind (wpAny_field ho hd (x := vs) rfl (wpAny_pure ?a)))))))
  refine wpAny_bind (slicePart_ ps ?b)
  show wpAny _ _ (if ((-1 : Int) == 0) = true then _ else _) _ _ s
  rw [if_neg (by decide)]
  refine wpAny_bind (slicePart_ pl (wpAny_bind (slicePart_ pu (wpAny_bind (wpAny_pure ?c)))))
  have e1 : Builtin.Slice.sliceAdjust none none (-1) (n : Int) = ((n : Int) - 1, -1) := by
    unfold Builtin.Slice.sliceAdjust
    simp
  have e2 : Builtin.Slice.slicePlaces ((n : Int) - 1) (-1) (-1) = n := by
    unfold Builtin.Slice.slicePlaces
    simp
    omega
  show wpAny _ _ (match Builtin.Slice.sliceAdjust none none (-1) (n : Int) with | (lo, hi) => pure (lo, (-1 : Int), Builtin.Slice.slicePlaces lo hi (-1))) _ _ s
  rw [e1]
  show wpAny _ _ (pure ((n : Int) - 1, (-1 : Int), Builtin.Slice.slicePlaces ((n : Int) - 1) (-1) (-1))) _ _ s
  rw [e2]
  exact wpAny_pure h
theorem fm_same {α β : Type} {f g : α → Option β} : ∀ {l : List α}, (∀ x ∈ l, f x = g x) → l.filterMap f = l.filterMap g
  | [], _ => rfl
  | a :: l, h => by
    have ih := fm_same (l := l) fun x hx => h x (List.mem_cons_of_mem _ hx)
    rw [List.filterMap_cons, List.filterMap_cons, h a (List.mem_cons_self ..), ih]
theorem pick_rev (xs : Array Value) : ((List.range xs.size).filterMap fun (m : Nat) => xs[((xs.size : Int) - 1 + (m : Int) * -1).toNat]?).toArray = xs.toList.reverse.toArray := by
  have e : (List.range xs.size).filterMap (fun (m : Nat) => xs[((xs.size : Int) - 1 + (m : Int) * -1).toNat]?) = ((List.range xs.size).map fun k => xs.size - 1 - k).filterMap (xs[·]?) := by
    rw [List.filterMap_map]
    refine fm_same fun m hm => ?_
    have h := List.mem_range.mp hm
    have z : ((xs.size : Int) - 1 + (m : Int) * -1).toNat = xs.size - 1 - m := by omega
    rw [z]
    rfl
  rw [e, PySem.W.krv_range, List.filterMap_reverse, PySem.W.krv_all]
theorem get_rev {t sl : Addr} {items : Array Value} {vl vu vs : Value} {Q : Value → Shared → Prop} (ht : IsTup s.heap t items) (hs : s.heap.IsSliceOf sl vl vu vs) (pl : IsPart vl none) (pu : IsPart vu none) (ps : IsPart vs (some (-1)))
    (h : Q (.ref s.heap.objs.size) { s with heap := s.heap.push { cls := .type "tuple", data := .seq items.toList.reverse.toArray } }) (hsz : items.size ≤ sizeLine) : wpAny (model prog w) A (getItem (.ref t) (.ref sl)) Q E s := by
  have fits : sizeOk (.seq items.toList.reverse.toArray) := by
    show items.toList.reverse.toArray.size ≤ sizeLine
    rw [List.size_toArray, List.length_reverse, Array.length_toList]
    exact hsz
  have hT : s.TypeIs (.ref sl) "slice" := by
    obtain ⟨o, a, b, _⟩ := id hs
    exact ⟨o, a, b⟩
  unfold getItem
  try with_reducible refine wpAny_holding ?_
  try refine wpAny_bind (wpAny_pure ?_)
  refine wpAny_bind (wpAny_sequenceKey ht.typeIs (by decide) (wpAny_bind (wpAny_callSpecial?_slot (name := Str.ofString "__getitem__") ht.typeIs PyProof.Rows.slot_tuple_getitem (wpAny_call_entry PyProof.Rows.slot_tuple_getitem ht.typeIs entry_tuple_getitem ?g (args_tuple_getitem _ _)))))
  show wpAny _ _ (Builtin.Tuple.tupleItemsOf (.ref t) >>= _) _ _ s
  refine wpAny_bind (tupleItemsOf_ ht (wpAny_bind (wpAny_typeOf hT ?_)))
  rw [if_pos (by decide)]
  refine wpAny_bind (sl_rev hs pl pu ps ?_)
  have no : ¬ ((((items.size : Int) - 1) == 0 && ((-1 : Int) == 1) && (items.size == items.size)) = true) := by simp
  show wpAny _ _ (if (((items.size : Int) - 1) == 0 && ((-1 : Int) == 1) && (items.size == items.size)) = true then _ else _) _ _ s
  rw [if_neg no, pick_rev]
  exact wpAny_bind (m := Builtin.Tuple.tupleExact _) (wpAny_newObj_type (wpAny_pure ⟨_, rfl, wpAny_pure h⟩) fits)
end
def tRevT (K : PySem.W.Frag) (te : TE) : TE := fun σ H Q => te σ H fun x H1 => ∃ a xs, x = .ref a ∧ SqT K H1 a xs ∧ ∀ p, H1 p = none → Q (.ref p) (upd H1 p (.tup xs.reverse))
theorem pe_revT {X : Cx} {e : Expr} {te : TE} {k : Nat} {p1 p2 p3 pos : Pos} (he : PE X e te) : PE X (.Subscript e (.Slice none none (some (.UnaryOp .USub (.Constant (.int 1) k p1) p2)) p3) pos) (tRevT X.K te) := ⟨fun pins s σ H Q I h => by
  refine Subscript_ (thn (he.run pins s σ H _ I h) fun v s1 ⟨x, H1, I1, r1, a, xs, ex, hx, q⟩ => ?_)
  subst ex
  cases r1
  have mi : PO X (some (.UnaryOp .USub (.Constant (.int 1) k p1) p2)) (tPart (tUn (rU fun i => .int (-i)) (tC (.int 1)))) := po_some (pe_un un_neg pe_int)
  refine wpAny_Slice (thn (po_none.run pins s1 σ H1 (fun o G => o = none ∧ G = H1) I1 ⟨rfl, rfl⟩) fun vl s2 ⟨l, H2, I2, pl, el, e2⟩ => thn (po_none.run pins s2 σ H2 (fun o G => o = none ∧ G = H2) I2 ⟨rfl, rfl⟩) fun vu s3 ⟨u, H3, I3, pu, eu, e3⟩ =>
    thn (mi.run pins s3 σ H3 (fun o G => o = some (-1) ∧ G = H3) I3 ⟨1, rfl, -1, rfl, rfl, rfl⟩) fun vs s4 ⟨o, H4, I4, ps, eo, e4⟩ => ?_)
  subst el e2 eu e3 eo e4
  have I5 : Inv X pins σ H4 { s4 with heap := s4.heap.push { cls := .type "slice", data := .fields #[vl, vu, vs] } } := I4.kept (t' := s4.toks) fun b ob z => Heap.get?_push_of_some _ z
  obtain ⟨its, r, ht, hz⟩ := I5.tuple hx
  show wpAny (model X.prog X.w) X.A (subscriptTail e (.Slice none none (some (.UnaryOp .USub (.Constant (.int 1) k p1) p2)) p3) (.ref a) (.ref s4.heap.objs.size)) (EP X pins σ Q) X.xe _
  refine tail_any (ops := [.ref a, .ref s4.heap.objs.size]) ht.typeIs (PyProof.Rows.slot_tuple_getitem.lookup) ?_ (by with_unfolding_all rfl)
  refine get_rev ht (Heap.IsSliceOf.new _ vl vu vs) pl pu ps ?_ (by rw [List.size_toArray]; have := r.length; omega)
  refine ⟨.ref _, _, I5.laid (t' := s4.toks) (o := .tup xs.reverse) (fun b ob z => Heap.get?_push_of_some _ z) (Nat.le_refl _) ?_, rfl, q _ (I5.hok.fresh (Nat.le_refl _))⟩
  exact ⟨by rw [List.length_reverse]; exact hz, _, r.reverse, IsTup.new _ _⟩⟩
end Lk

/-! part LkMut -/
/-! Lk: lists that a def makes and writes: the fresh list of a comprehension, walks that leave tuples as they are. -/
namespace Lk
open PySem PySem.Spec PyProof.Rows L2 Evl
section
variable {K K' : PySem.W.Frag} {σ : L2.St} {H : Hp} {te tl : TE} {t : TT} {ds : List PyData} {D : Ends} {tz : TS}
/-- the list at l holds ds; it is no part of the heap H0; tuples of H3 stand -/
def TabAt (K : PySem.W.Frag) (H0 H3 : Hp) (l : Addr) (ds : List PyData) (H' : Hp) : Prop := Ex H0 H' ∧ Tx H3 H' ∧ tupos ds = true ∧ ∃ acc, H' l = some (.lst acc) ∧ DqAll K H' acc ds
theorem TabAt.mono {H0 H3 H' H2 : Hp} {l : Addr} (s : TabAt K H0 H3 l ds H') (e : Ex H' H2) : TabAt K H0 H3 l ds H2 := by
  obtain ⟨a, b, c, acc, d, f⟩ := s
  exact ⟨a.trans e, b.trans (Ex.tx e), c, acc, e l _ d, dps_ex e _ _ f⟩
theorem dps_set {H' : Hp} {v : V} {d : PyData} (dv : Dq K H' v d) : ∀ {ds : List PyData} {xs : List V} {j : Nat}, DqAll K H' xs ds → DqAll K H' (xs.set j v) (ds.set j d)
  | [], _, _, .nil => .nil
  | _ :: _, _, 0, .cons a b => .cons dv b
  | _ :: _, _, j + 1, .cons a b => .cons a (dps_set dv b)
theorem tupos_set {d : PyData} (t : tupo d = true) : ∀ {ds : List PyData} {j : Nat}, tupos ds = true → tupos (ds.set j d) = true
  | [], _, h => h
  | a :: ds, 0, h => by
    rw [tupos] at h
    rw [List.set_cons_zero, tupos, t, (Bool.and_eq_true_iff.mp h).2]
    rfl
  | a :: ds, j + 1, h => by
    rw [tupos] at h
    rw [List.set_cons_succ, tupos, (Bool.and_eq_true_iff.mp h).1, tupos_set t (Bool.and_eq_true_iff.mp h).2]
    rfl
theorem TabAt.set {H0 H3 H' : Hp} {l : Addr} {v : V} {d : PyData} {j : Nat} (s : TabAt K H0 H3 l ds H') (h0 : H0 l = none) (dv : Dq K H' v d) (t : tupo d = true) :
    ∃ acc, H' l = some (.lst acc) ∧ acc.length = ds.length ∧ TabAt K H0 H3 l (ds.set j d) (upd H' l (.lst (acc.set j v))) := by
  obtain ⟨a, b, c, acc, e, f⟩ := s
  refine ⟨acc, e, dps_len f, Ex.mut a h0, b.trans (Tx.lst e), tupos_set t c, _, upd_same, ?_⟩
  exact dps_tx (Tx.lst e) _ _ (tupos_set t c) (dps_set dv f)
end
end Lk

/-! part LkSetC -/
/-! Lk: sorted(set(l)), l a list of whole numbers. -/
namespace Lk
open PySem PySem.Spec PyProof.Rows L2 Evl
section
variable {P : Program} {w : World} {A : Around} {E : Value → Shared → Prop} {s : Shared}
theorem call_set_li {l : Addr} {items : Array Value} (ns : List Int) {Q : Value → Shared → Prop} (hh : A.handled = none) (hl : s.heap.IsList l items) (hit : IntsAre items.toList ns) (hb : ns.length + 1 < scanBound)
    (q : ∀ (h' : Heap) (tk c : Nat), SetR w h' s.heap.objs.size (fun j => decide (j ∈ ns)) c → c ≤ ns.length → Keeps s.heap h' → Q (.ref s.heap.objs.size) { s with heap := h', toks := tk }) : wpAny (model P w) A (call (.type "set") [.ref l]) Q E s := by
  have isz : items.size = ns.length := by rw [← Array.length_toList]; exact IntsAre.length hit
  obtain ⟨c, tl, hmro⟩ := F.called_set.mro
  have hmade := F.called_set.made
  have hsub := F.called_set.sub
  apply wpAny_call
  apply codeAny_of_tree
  show wpAny _ _ (callAny (.type "set") _) _ _ _
  apply wpAny_pure
  refine ⟨Code.quiet_builtin _ (by decide +kernel), codeAny_builtin F.entry_type_call ?_⟩
  rw [Around.under_plain (weight_type_call_type "set" [.ref l] []) rfl]
  have h1 := F.called_set.notType
  have h2 := F.called_set.canCreate
  have hct := F.typeCall_set_1 (.ref l)
  repeat (any_goals (first | assumption | wp_step))
  obtain ⟨S, eS⟩ : ∃ S, S = s.heap.objs.size := ⟨_, rfl⟩
  refine codeAny_mono (code_set_led1 (.ref l) (E := E) (Q₁ := fun obj s₁ => obj = .ref S ∧ s₁ = { s with heap := s.heap.push (newSet w) }) ⟨by rw [eS], rfl⟩) fun r s₁ hr => ?_
  cases r with
  | error e => exact hr
  | ok fl =>
    cases fl with
    | ret obj =>
      obtain ⟨rfl, rfl⟩ := hr
      have atS : (s.heap.push (newSet w)).get? S = some (newSet w) := by
        rw [eS]
        exact Heap.get?_push_size _ rfl
      have hT : Shared.TypeIs { s with heap := s.heap.push (newSet w) } (.ref S) "set" := ⟨_, atS, rfl⟩
      have hli := F.called_set.init.lookup
      have hbi := F.called_set.init.bind (.ref S)
      repeat (any_goals (first | assumption | wp_step))
      refine codeAny_mono (codeAny_call_builtin (R := wants (fun r s₂ => r = .none ∧ ∃ h' tk c, s₂ = { s with heap := h', toks := tk } ∧ SetR w h' S (fun j => decide (j ∈ ns)) c ∧ c ≤ ns.length ∧ Keeps s.heap h') E)
        F.called_set.init.plain F.entry_set_init (check_set_init_1 hT ?_)) fun r₂ s₂ hr₂ => ?_
      · obtain ⟨ol, hol, hcl, nl, hdl⟩ := hl
        obtain ⟨ocls, odict, odata, oslots⟩ := ol
        dsimp only at hcl hdl
        subst hcl hdl
        have hol' : (s.heap.push (newSet w)).get? l = some { cls := .type "list", dict := odict, data := .seq items nl, slots := oslots } := Heap.get?_push_of_some _ hol
        have hsls := F.sub_list_set
        have hslf := F.sub_list_frozenset
        have hne : (Value.type "list" == Value.type "dict") = false := by decide
        have hl1 : (s.heap.push (newSet w)).IsList l items := ⟨_, hol', rfl, nl, rfl⟩
        unfold Builtin.«set.__init__» noKeywords Builtin.Frozenset.updateFrom
        generalize hPI : pyIter = PI
        wp_walk
        subst hPI
        apply wpAny_pyIter_list hl1
        apply wpAny_bind
        apply wpAny_runValue
        have lS : l < S := by
          rw [eS]
          exact Heap.lt_size hol
        obtain ⟨J, eJ⟩ : ∃ J, J = (s.heap.push (newSet w)).objs.size := ⟨_, rfl⟩
        have eJ2 : J = S + 1 := by
          rw [eJ, eS]
          exact Heap.size_push ..
        have SJ : S ∉ [J, l] := by
          rw [eJ2]
          simp only [List.mem_cons, List.not_mem_nil, or_false, not_or]
          exact ⟨Nat.ne_of_lt (Nat.lt_succ_self _), Nat.ne_of_gt lS⟩
        have hv : ∀ (i : Nat) (v : Value), items[i]? = some v → ∃ k t, ns[i]? = some k ∧ v = .int k t := fun i v z => by
          have hi : i < ns.length := by rw [← isz]; exact (Array.getElem?_eq_some_iff.mp z).1
          obtain ⟨t, e⟩ := PyProof.Rows.IntsAre.int_at hit i v (by rw [Array.getElem?_toList]; exact z)
          refine ⟨ns[i], t, List.getElem?_eq_getElem hi, ?_⟩
          rw [e, List.getD_eq_getElem?_getD, List.getElem?_eq_getElem hi]
          rfl
        have hneI : l ≠ (s.heap.push (newSet w)).objs.size := by
          rw [← eJ, eJ2]
          exact Nat.ne_of_lt (Nat.lt_succ_of_lt lS)
        have hh3 : A.in1.in1.in1.handled = none := by simp [hh]
        rw [eJ] at SJ
        apply set_update_ints ((Walks.list hh3 _ l hneI items).toS) S SJ ns isz hb hv (items.size - 0) 0 _ (by omega) (Nat.zero_le _)
          ⟨⟨_, Heap.get?_push_size _ rfl, rfl, rfl⟩, (hl1.push _)⟩ ⟨0, Nat.le_refl 0, setR_new_at (Heap.get?_push_of_some _ atS)⟩
        intro s' c' mv hc' D
        obtain ⟨h', g2, d', tk', os'⟩ := s'
        have eg : g2 = s.gens := mv.gens
        have ed : d' = s.drawn := mv.drawn
        have eo : os' = s.os := mv.os
        subst eg ed eo
        show wpAny _ _ _ _ _ _
        apply wpAny_pure
        show wpAny _ _ (ret Value.none) _ _ _
        apply wpAny_pure
        rw [isz] at hc'
        refine ⟨rfl, h', tk', c', rfl, D, hc', fun b u e => ?_⟩
        have b0 : b < S := by
          rw [eS]
          exact Heap.lt_size e
        refine mv.heap b u ?_ (Heap.get?_push_of_some _ (Heap.get?_push_of_some _ e))
        rw [← eJ, eJ2]
        simp only [List.mem_cons, List.not_mem_nil, or_false, not_or]
        exact ⟨Nat.ne_of_lt b0, Nat.ne_of_lt (Nat.lt_succ_of_lt b0)⟩
      · cases r₂ with
        | error e => exact hr₂
        | ok fl₂ =>
          cases fl₂ with
          | ret r =>
            obtain ⟨rfl, h', tk, c', rfl, D, hc', kp⟩ := hr₂
            subst eS
            repeat (any_goals (first | assumption | wp_step))
            exact q _ _ _ D hc' kp
          | _ => exact hr₂.elim
    | _ => exact hr.elim

end
end Lk

/-! part LkSetE -/
/-! Lk: sorted(set(l)), l a list of whole numbers. -/
namespace Lk
open PySem PySem.Spec PyProof.Rows L2 Evl
/-- sorted(set(l)) -/
def tSortI (K : PySem.W.Frag) (te : TE) : TE := fun σ H Q => te σ H fun x H1 => ∃ (p : Addr) (ns : List Int), x = .ref p ∧ SqL K H1 p (ns.map V.int) ∧ ns.length < 64 ∧ ∀ (out : List Int) (q : Addr), out.Pairwise (· < ·) → (∀ k, k ∈ out ↔ k ∈ ns) → H1 q = none → Q (.ref q) (upd H1 q (.lst (out.map V.int)))
theorem pe_sortI {X : Cx} {a : Expr} {ta : TE} {p p2 q pos : Pos} (hc : X.calm = true) (hg : Gl X "sorted") (hm : X.mg "sorted" = none) (hg2 : Gl X "set") (hm2 : X.mg "set" = none) (ha : PE X a ta)
    (na : starEach [a] X.env = (false, eval a X.env) :: starEach [] X.env := by rfl) : PE X (.Call (.Name "sorted" p) [.Call (.Name "set" p2) [a] [] q] [] pos) (tSortI X.K ta) := by
  constructor
  intro pins s σ H Q I h
  refine Call_ ?_
  apply ld_blt I hg hm PyProof.Rows.boot_sorted
  refine PyProof.Rows.callWith_builtin1 (PyProof.Rows.args_cons ?_ rfl) rfl rfl
  refine Call_ ?_
  apply ld_blt I hg2 hm2 PyProof.Rows.boot_set
  refine PyProof.Rows.callWith_type1 (PyProof.Rows.args_cons (thn (ha.run pins s σ H _ I h) ?_) na) na rfl
  rintro v s1 ⟨x, H1, I1, r1, l, ns, rfl, hq, few, q1⟩
  apply PyProof.Rows.args_nil
  cases r1
  obtain ⟨its, rv, ht, hz⟩ := I1.list hq
  have hd := I1.ok.hd hc
  have hi : IntsAre its.toArray.toList ns := ints_of_vals rv
  refine call_set_li ns hd ht.isList hi (by unfold scanBound; omega) fun h' tk c R hcn kp => ?_
  obtain ⟨s2, e2⟩ : ∃ s2 : Shared, s2 = { s1 with heap := h', toks := tk } := ⟨_, rfl⟩
  have hz2 : h' = s2.heap := by rw [e2]
  have I2 : Inv X pins σ H1 s2 := e2 ▸ I1.kept (t' := tk) kp
  rw [hz2] at R
  rw [← e2]
  apply PyProof.Rows.args_nil
  refine sorted_set R hd (by omega) fun s' p' out c' ns' k g o hp hgt hi' hs hmem hl => ?_
  have hlen : (ns'.map V.int).length ≤ sizeLine := by rw [List.length_map, hl, sizeLine_eq]; omega
  have hn : H1 p' = none := I2.hok.fresh hp
  have J : Inv X pins σ (upd H1 p' (.lst (ns'.map V.int))) { s2 with heap := s'.heap, gens := s'.gens, drawn := s'.drawn, toks := s'.toks } :=
    I2.call (ch := []) (Un.laid k hp hn) (I2.hok.laid k hp ⟨hlen, out.toList, c', vals_of_ints hi', hgt⟩) (by rw [g]; exact I2.bare) (fun _ z => nomatch z)
  have e : s' = { s2 with heap := s'.heap, gens := s'.gens, drawn := s'.drawn, toks := s'.toks } := by
    cases s'
    cases s2
    cases o
    rfl
  rw [e]
  refine ⟨.ref p', _, J, rfl, q1 ns' p' hs (fun k => ?_) hn⟩
  rw [hmem k, decide_eq_true_eq]
/-- sorted(set(l)), l a list of tuples of whole numbers -/
def tSortT (K : PySem.W.Frag) (te : TE) : TE := fun σ H Q => te σ H fun x H1 => ∃ (p : Addr) (ks : List (Addr × List Int)) (d : Nat) (B : Int), x = .ref p ∧ SqL K H1 p (ks.map fun e => V.ref e.1) ∧ (∀ e ∈ ks, SqT K H1 e.1 (e.2.map V.int)) ∧ ks.length < 64 ∧ 1 ≤ d ∧ (∀ e ∈ ks, e.2.length = d ∧ TS.Bd B e.2) ∧
  ∀ (out : List (Addr × List Int)) (q : Addr), (∀ e ∈ out, e ∈ ks) → (∀ e ∈ ks, e.2 ∈ out.map (·.2)) → (out.map (·.2)).Nodup → out.Pairwise (fun y z => TS.code B y.2 ≤ TS.code B z.2) → H1 q = none → Q (.ref q) (upd H1 q (.lst (out.map fun e => V.ref e.1)))
theorem pe_sortT {X : Cx} {a : Expr} {ta : TE} {p p2 q pos : Pos} (hc : X.calm = true) (hu : X.A.units + 64 < cLine) (hg : Gl X "sorted") (hm : X.mg "sorted" = none) (hg2 : Gl X "set") (hm2 : X.mg "set" = none) (ha : PE X a ta)
    (na : starEach [a] X.env = (false, eval a X.env) :: starEach [] X.env := by rfl) : PE X (.Call (.Name "sorted" p) [.Call (.Name "set" p2) [a] [] q] [] pos) (tSortT X.K ta) := by
  constructor
  intro pins s σ H Q I h
  refine Call_ ?_
  apply ld_blt I hg hm PyProof.Rows.boot_sorted
  refine PyProof.Rows.callWith_builtin1 (PyProof.Rows.args_cons ?_ rfl) rfl rfl
  refine Call_ ?_
  apply ld_blt I hg2 hm2 PyProof.Rows.boot_set
  refine PyProof.Rows.callWith_type1 (PyProof.Rows.args_cons (thn (ha.run pins s σ H _ I h) ?_) na) na rfl
  rintro v s1 ⟨x, H1, I1, r1, l, ks, d, B, rfl, hq, he, few, hd1, hB, q1⟩
  apply PyProof.Rows.args_nil
  cases r1
  obtain ⟨its, rv, ht, hz⟩ := I1.list hq
  have hd := I1.ok.hd hc
  refine call_set_tups (P := X.prog) (w := X.w) ks hd ht.isList (by simpa using refs_of_vals rv) (fun e hm => I1.isT (he e hm)) few (by omega) fun h' tk L es ep t R g kp => ?_
  obtain ⟨s2, e2⟩ : ∃ s2 : Shared, s2 = { s1 with heap := h', toks := tk } := ⟨_, rfl⟩
  have hz2 : h' = s2.heap := by rw [e2]
  have I2 : Inv X pins σ H1 s2 := e2 ▸ I1.kept (t' := tk) kp
  rw [hz2] at R
  rw [← e2]
  have sub : ∀ e ∈ L, e ∈ ks := fun e hm => List.mem_of_mem_take (g.sub e hm)
  apply PyProof.Rows.args_nil
  refine sorted_setT R hd hd1 (fun e hm => hB e (sub e hm)) fun s' p' out c' L' k g' o hp hgt hout pm pw => ?_
  have hlen : (L'.map fun e => V.ref e.1).length ≤ sizeLine := by
    have := R.few
    rw [List.length_map, pm.length_eq, sizeLine_eq]; omega
  have hn : H1 p' = none := I2.hok.fresh hp
  have hv : Vals (L'.map fun e => V.ref e.1) out.toList := by rw [hout]; exact vals_of_refs L'
  have J : Inv X pins σ (upd H1 p' (.lst (L'.map fun e => V.ref e.1))) { s2 with heap := s'.heap, gens := s'.gens, drawn := s'.drawn, toks := s'.toks } :=
    I2.call (ch := []) (Un.laid k hp hn) (I2.hok.laid k hp ⟨hlen, out.toList, c', hv, hgt⟩) (by rw [g']; exact I2.bare) (fun _ z => nomatch z)
  have e : s' = { s2 with heap := s'.heap, gens := s'.gens, drawn := s'.drawn, toks := s'.toks } := by
    cases s'
    cases s2
    cases o
    rfl
  rw [e]
  refine ⟨.ref p', _, J, rfl, q1 L' p' (fun e hm => sub e (pm.mem_iff.mp hm)) (fun e hm => ?_) ((pm.map (·.2)).nodup_iff.mpr R.nd) pw hn⟩
  exact (pm.map (·.2)).mem_iff.mpr (g.all e (by rw [List.take_length]; exact hm))
end Lk

/-! part Mk1 -/
/-! Mk, part 1: states of plain values beside the abstract heap. -/
namespace Mk
open PySem PySem.Spec PyProof.Rows L2 Evl Lk LamX
/-- what a slot holds: data that no store touches, a list of one's own, the state of the draws, an exception that was caught -/
inductive O where
  | dat (d : PyData)
  | lst (ds : List PyData)
  | dct (kvs : List (Key × PyData))
  | st
  | exc (C : Addr)
/-- a def's slots, the number of draws so far, the slots that are lent -/
structure S where
  env : List (Option O)
  n : Nat
  bor : List Nat
/-- what an expression comes to: a thing, or what stands in a slot -/
inductive Rs where
  | val (o : O)
  | slot (i : Nat)
abbrev Ad : Type := Addr → Prop
def nol : Ad := fun _ => False
def alt (R fp : Ad) : Ad := fun a => R a ∨ fp a
def Wf (R : Ad) (fps : Nat → Ad) : Ad := fun a => R a ∨ ∃ i, fps i a
/-- the heap without what is owned, without tables -/
noncomputable def hid (W : Ad) (H : Hp) : Hp := fun a => open Classical in if W a ∨ ∃ ps, H a = some (.tbl ps) then none else H a
theorem hid_some {W : Ad} {H : Hp} {a : Addr} {o : HO} : hid W H a = some o ↔ (H a = some o ∧ ¬ W a ∧ ∀ ps, o ≠ .tbl ps) := by
  unfold hid
  constructor
  · intro h
    by_cases q : W a ∨ ∃ ps, H a = some (.tbl ps)
    · rw [if_pos q] at h; cases h
    · rw [if_neg q] at h
      exact ⟨h, fun z => q (.inl z), fun ps z => q (.inr ⟨ps, by rw [h, z]⟩)⟩
  · rintro ⟨h, w, t⟩
    rw [if_neg]
    · exact h
    · rintro (z | ⟨ps, z⟩)
      · exact w z
      · rw [h] at z
        exact t ps (Option.some.inj z)
theorem hid_ex {W : Ad} {H : Hp} : Ex (hid W H) H := fun a o h => (hid_some.mp h).1
/-- what is not owned stands as it stood -/
def Gr (W : Ad) (H : Hp) (W' : Ad) (H' : Hp) : Prop := Ex (hid W H) (hid W' H')
theorem Gr.refl {W : Ad} {H : Hp} : Gr W H W H := Ex.refl _
theorem Gr.trans {W W1 W2 : Ad} {H H1 H2 : Hp} (a : Gr W H W1 H1) (b : Gr W1 H1 W2 H2) : Gr W H W2 H2 := Ex.trans a b
theorem gr_of {W W' : Ad} {H H' : Hp} (k : ∀ a o, H a = some o → ¬ W a → (∀ ps, o ≠ .tbl ps) → H' a = some o) (w : ∀ a o, H a = some o → ¬ W a → ¬ W' a) : Gr W H W' H' := fun a o h => by
  obtain ⟨h1, h2, h3⟩ := hid_some.mp h
  exact hid_some.mpr ⟨k a o h1 h2 h3, w a o h1 h2, h3⟩
theorem gr_ex {W W' : Ad} {H H' : Hp} (e : Ex H H') (w : ∀ a o, H a = some o → ¬ W a → ¬ W' a) : Gr W H W' H' := gr_of (fun a o h _ _ => e a o h) w
theorem gr_sub {W W' : Ad} {H : Hp} (w : ∀ a, W' a → W a) : Gr W H W' H := gr_of (fun _ _ h _ _ => h) fun a _ _ n z => n (w a z)
/-- the state of the draws at a, its lists at g and c, at most n draws so far -/
def StA (H : Hp) (a g c : Addr) (n : Nat) : Prop := ∃ gs cs r t, StD H a g c gs cs r t ∧ 0 ≤ t ∧ t ≤ (n : Int)
theorem StA.mono {H : Hp} {a g c : Addr} {n m : Nat} (s : StA H a g c n) (e : n ≤ m) : StA H a g c m := by
  obtain ⟨gs, cs, r, t, s, h, h'⟩ := s
  exact ⟨gs, cs, r, t, s, h, by omega⟩
theorem StA.keep {H H' : Hp} {a g c : Addr} {n : Nat} (s : StA H a g c n) (ka : H' a = H a) (kg : H' g = H g) (kc : H' c = H c) : StA H' a g c n := by
  obtain ⟨gs, cs, r, t, s, h, h'⟩ := s
  exact ⟨gs, cs, r, t, ⟨ka.trans s.hd, kg.trans s.hg, kc.trans s.hc, s.hn⟩, h, h'⟩
/-- a dict's pairs -/
inductive KvAll (K : PySem.W.Frag) (F : Hp) : List (Key × V) → List (Key × PyData) → Prop
  | nil : KvAll K F [] []
  | cons {k : Key} {v : V} {d : PyData} {kv : List (Key × V)} {kvs : List (Key × PyData)} : Dq K F v d → KvAll K F kv kvs → KvAll K F ((k, v) :: kv) ((k, d) :: kvs)
theorem kv_ex {K : PySem.W.Frag} {F F' : Hp} (e : Ex F F') {kv : List (Key × V)} {kvs : List (Key × PyData)} (h : KvAll K F kv kvs) : KvAll K F' kv kvs := by
  induction h with
  | nil => exact .nil
  | cons h _ ih => exact .cons (dp_ex e _ _ h) ih
/-- the thing o stands at v, its own objects at fp -/
inductive At (K : PySem.W.Frag) (F H : Hp) (n : Nat) : V → O → Ad → Prop
  | dat {v : V} {d : PyData} {fp : Ad} (h : Dq K F v d) (e : ∀ a, ¬ fp a) : At K F H n v (.dat d) fp
  | lst {a : Addr} {vs : List V} {ds : List PyData} {fp : Ad} (h : H a = some (.lst vs)) (hd : DqAll K F vs ds) (e : ∀ b, fp b ↔ b = a) : At K F H n (.ref a) (.lst ds) fp
  | dct {a : Addr} {kv : List (Key × V)} {kvs : List (Key × PyData)} {fp : Ad} (h : H a = some (.dK kv)) (hd : KvAll K F kv kvs) (e : ∀ b, fp b ↔ b = a) : At K F H n (.ref a) (.dct kvs) fp
  | st {a g c : Addr} {fp : Ad} (h : StA H a g c n) (e : ∀ b, fp b ↔ (b = a ∨ b = g ∨ b = c)) : At K F H n (.ref a) .st fp
  | exc {a C : Addr} {fp : Ad} (h : F a = some (ExV (.ref C) none a)) (e : ∀ b, ¬ fp b) : At K F H n (.ref a) (.exc C) fp
section
variable {K : PySem.W.Frag} {F F' H H' : Hp} {n m : Nat} {v : V} {o : O} {fp fp' : Ad}
theorem At.keep (h : At K F H n v o fp) (e : Ex F F') (k : ∀ a, fp a → H' a = H a) (l : n ≤ m) : At K F' H' m v o fp := by
  cases h with
  | dat h z => exact .dat (dp_ex e _ _ h) z
  | lst h hd z => exact .lst ((k _ ((z _).mpr rfl)).trans h) (dps_ex e _ _ hd) z
  | dct h hd z => exact .dct ((k _ ((z _).mpr rfl)).trans h) (kv_ex e hd) z
  | st h z => exact .st ((h.keep (k _ ((z _).mpr (.inl rfl))) (k _ ((z _).mpr (.inr (.inl rfl)))) (k _ ((z _).mpr (.inr (.inr rfl))))).mono l) z
  | exc h z => exact .exc (e _ _ h) z
theorem At.live (h : At K F H n v o fp) {a : Addr} (q : fp a) : Mut (H a) := by
  cases h with
  | dat h z => exact (z a q).elim
  | lst h hd z =>
    rw [z] at q
    subst q
    rw [h]; exact trivial
  | dct h hd z =>
    rw [z] at q
    subst q
    rw [h]; exact trivial
  | st h z =>
    obtain ⟨gs, cs, r, t, s, _⟩ := h
    rcases (z a).mp q with e | e | e
    · subst e; rw [s.hd]; exact trivial
    · subst e; rw [s.hg]; exact trivial
    · subst e; rw [s.hc]; exact trivial
  | exc h z => exact (z a q).elim
theorem At.fpc (h : At K F H n v o fp) (e : ∀ a, fp' a ↔ fp a) : At K F H n v o fp' := by
  cases h with
  | dat h z => exact .dat h fun a q => z a ((e a).mp q)
  | lst h hd z => exact .lst h hd fun b => (e b).trans (z b)
  | dct h hd z => exact .dct h hd fun b => (e b).trans (z b)
  | st h z => exact .st h fun b => (e b).trans (z b)
  | exc h z => exact .exc h fun a q => z a ((e a).mp q)
end
/-- THE INVARIANT: the slots hold the things of s; R: what others own -/
structure Iv (K : PySem.W.Frag) (T : List (Addr × Str)) (σ0 σ : L2.St) (H : Hp) (s : S) (R : Ad) (fps : Nat → Ad) : Prop where
  len : σ.length = s.env.length
  at_ : ∀ i o, s.env[i]? = some (some o) → ∃ v, σ[i]? = some (some v) ∧ At K (hid (Wf R fps) H) H s.n v o (fps i)
  emp : ∀ i, (∀ o, s.env[i]? ≠ some (some o)) → ∀ a, ¬ fps i a
  dis : ∀ i j a, fps i a → fps j a → i = j
  disR : ∀ i a, fps i a → ¬ R a
  liv : ∀ a, R a → Mut (H a)
  tab : Tabs T H
  bor : ∀ i ∈ s.bor, σ[i]? = σ0[i]?
section
variable {K : PySem.W.Frag} {T : List (Addr × Str)} {σ0 σ : L2.St} {H H' : Hp} {s : S} {R R' fp : Ad} {fps : Nat → Ad}
theorem Iv.live (I : Iv K T σ0 σ H s R fps) {a : Addr} (h : Wf R fps a) : Mut (H a) := by
  rcases h with h | ⟨i, h⟩
  · exact I.liv a h
  · by_cases q : ∃ o, s.env[i]? = some (some o)
    · obtain ⟨o, q⟩ := q
      obtain ⟨v, _, x⟩ := I.at_ i o q
      exact x.live h
    · exact (I.emp i (fun o z => q ⟨o, z⟩) a h).elim
theorem Iv.fresh (I : Iv K T σ0 σ H s R fps) {p : Addr} (h : H p = none) : ¬ Wf R fps p := fun z => by
  have e := I.live z
  rw [h] at e
  exact e
/-- the heap goes on: nothing of ours is touched -/
theorem Iv.step (I : Iv K T σ0 σ H s R fps) (g : Gr (Wf R fps) H (Wf R' fps) H') (k : ∀ i a, fps i a → H' a = H a) (d : ∀ i a, fps i a → ¬ R' a)
    (l : ∀ a, R' a → Mut (H' a)) (t : Tabs T H') : Iv K T σ0 σ H' s R' fps where
  len := I.len
  at_ := fun i o e => by
    obtain ⟨v, h1, h2⟩ := I.at_ i o e
    exact ⟨v, h1, h2.keep g (fun a q => k i a q) (Nat.le_refl _)⟩
  emp := I.emp
  dis := I.dis
  disR := d
  liv := l
  tab := t
  bor := I.bor
/-- some of the others' things are given up -/
theorem Iv.drop (I : Iv K T σ0 σ H s R fps) (h : ∀ a, R' a → R a) : Iv K T σ0 σ H s R' fps :=
  I.step (gr_sub fun a z => z.imp (h a) id) (fun _ _ _ => rfl) (fun i a q z => I.disR i a q (h a z)) (fun a z => I.liv a (h a z)) I.tab
theorem Iv.slotv (I : Iv K T σ0 σ H s R fps) {i : Nat} {o : O} {v : V} (e : s.env[i]? = some (some o)) (h : σ[i]? = some (some v)) : At K (hid (Wf R fps) H) H s.n v o (fps i) := by
  obtain ⟨w, h1, h2⟩ := I.at_ i o e
  rw [h] at h1
  cases h1
  exact h2
end
theorem tabs_new {T : List (Addr × Str)} {H : Hp} {p : Addr} {o : HO} (t : Tabs T H) (hp : H p = none) : Tabs T (upd H p o) := t.ext (Ex.new hp)
end Mk

/-! part Mk2 -/
/-! Mk, part 2: readings that run along with states of plain values. -/
namespace Mk
open PySem PySem.Spec PyProof.Rows L2 Evl Lk LamX
abbrev XM : Type := Addr → S → Prop
abbrev ME : Type := S → (Rs → S → Prop) → XM → Prop
abbrev MD : Type := S → (PyData → S → Prop) → XM → Prop
abbrev MT : Type := S → (Bool → S → Prop) → XM → Prop
abbrev MA : Type := S → (List Rs → S → Prop) → XM → Prop
inductive RAt (K : PySem.W.Frag) (F H : Hp) (n : Nat) (σ : L2.St) : V → Rs → Ad → Prop
  | val {v : V} {o : O} {fp : Ad} (h : At K F H n v o fp) : RAt K F H n σ v (.val o) fp
  | slot {v : V} {i : Nat} {fp : Ad} (h : σ[i]? = some (some v)) (e : ∀ a, ¬ fp a) : RAt K F H n σ v (.slot i) fp
theorem RAt.keep {K : PySem.W.Frag} {F F' H H' : Hp} {n m : Nat} {σ : L2.St} {v : V} {r : Rs} {fp : Ad} (h : RAt K F H n σ v r fp) (e : Ex F F') (k : ∀ a, fp a → H' a = H a) (l : n ≤ m) : RAt K F' H' m σ v r fp := by
  cases h with
  | val h => exact .val (h.keep e k l)
  | slot h z => exact .slot h z
/-- from one state to a later one -/
structure Go (K : PySem.W.Frag) (T : List (Addr × Str)) (σ0 : L2.St) (H : Hp) (s : S) (R : Ad) (fps : Nat → Ad) (σ' : L2.St) (H' : Hp) (s' : S) (R' : Ad) (fps' : Nat → Ad) : Prop where
  iv : Iv K T σ0 σ' H' s' R' fps'
  kp : ∀ a, R a → H' a = H a
  gr : Gr (Wf R fps) H (Wf R' fps') H'
  bo : s'.bor = s.bor
  le : s.n ≤ s'.n
  sb : ∀ a, R a → R' a
section
variable {K : PySem.W.Frag} {T : List (Addr × Str)} {σ0 σ σ1 σ2 : L2.St} {H H1 H2 : Hp} {s s1 s2 : S} {R R1 R2 fp : Ad} {fps fps1 fps2 : Nat → Ad}
theorem Go.refl (I : Iv K T σ0 σ H s R fps) : Go K T σ0 H s R fps σ H s R fps := ⟨I, fun _ _ => rfl, Gr.refl, rfl, Nat.le_refl _, fun _ h => h⟩
theorem Go.trans (a : Go K T σ0 H s R fps σ1 H1 s1 R1 fps1) (b : Go K T σ0 H1 s1 R1 fps1 σ2 H2 s2 R2 fps2) : Go K T σ0 H s R fps σ2 H2 s2 R2 fps2 :=
  ⟨b.iv, fun x h => (b.kp x (a.sb x h)).trans (a.kp x h), a.gr.trans b.gr, b.bo.trans a.bo, Nat.le_trans a.le b.le, fun x h => b.sb x (a.sb x h)⟩
theorem Go.drop (a : Go K T σ0 H s R fps σ1 H1 s1 R1 fps1) (h1 : ∀ x, R x → R2 x) (h2 : ∀ x, R2 x → R1 x) : Go K T σ0 H s R fps σ1 H1 s1 R2 fps1 :=
  ⟨a.iv.drop h2, a.kp, a.gr.trans (gr_sub fun x z => z.imp (h2 x) id), a.bo, a.le, h1⟩
end
section
variable (K : PySem.W.Frag) (T : List (Addr × Str)) (W : WX)
/-- what is wished of the ways out by an error -/
def XOk (σ0 σ : L2.St) (H : Hp) (s : S) (R : Ad) (fps : Nat → Ad) (X : XM) : Prop := ∀ C H' s' fps', Go K T σ0 H s R fps σ H' s' R fps' → X C s' → W (.ref C) none σ H'
def SimE (te : TE) (m : ME) : Prop := ∀ σ0 σ H s R fps, Iv K T σ0 σ H s R fps → ∀ Qm Xm, m s Qm Xm → XOk K T W σ0 σ H s R fps Xm → ∀ Q : VK,
  (∀ v H' s' r fp fps', Go K T σ0 H s R fps σ H' s' (alt R fp) fps' → RAt K (hid (Wf (alt R fp) fps') H') H' s'.n σ v r fp → (∀ a, fp a → ¬ R a) → Qm r s' → Q v H') → te σ H Q
def SimD (te : TE) (m : MD) : Prop := ∀ σ0 σ H s R fps, Iv K T σ0 σ H s R fps → ∀ Qm Xm, m s Qm Xm → XOk K T W σ0 σ H s R fps Xm → ∀ Q : VK,
  (∀ v H' s' d fps', Go K T σ0 H s R fps σ H' s' R fps' → Dq K (hid (Wf R fps') H') v d → Qm d s' → Q v H') → te σ H Q
def SimT (te : TT) (m : MT) : Prop := ∀ σ0 σ H s R fps, Iv K T σ0 σ H s R fps → ∀ Qm Xm, m s Qm Xm → XOk K T W σ0 σ H s R fps Xm → ∀ Q : Bool → Hp → Prop,
  (∀ b H' s' fps', Go K T σ0 H s R fps σ H' s' R fps' → Qm b s' → Q b H') → te σ H Q
/-- arguments, each with its own things -/
inductive RAts (F H : Hp) (n : Nat) (σ : L2.St) : List V → List Rs → List Ad → Prop
  | nil : RAts F H n σ [] [] []
  | cons {v : V} {r : Rs} {fp : Ad} {vs : List V} {rs : List Rs} {l : List Ad} : RAt K F H n σ v r fp → RAts F H n σ vs rs l → RAts F H n σ (v :: vs) (r :: rs) (fp :: l)
def AnyF (l : List Ad) : Ad := fun a => ∃ f ∈ l, f a
def Apart : List Ad → Prop
  | [] => True
  | f :: l => (∀ a, f a → ¬ AnyF l a) ∧ Apart l
def SimA (ta : TA) (m : MA) : Prop := ∀ σ0 σ H s R fps, Iv K T σ0 σ H s R fps → ∀ Qm Xm, m s Qm Xm → XOk K T W σ0 σ H s R fps Xm → ∀ Q : List V → Hp → Prop,
  (∀ vs H' s' rs l fps', Go K T σ0 H s R fps σ H' s' (alt R (AnyF l)) fps' → RAts K (hid (Wf (alt R (AnyF l)) fps') H') H' s'.n σ vs rs l → Apart l → (∀ a, AnyF l a → ¬ R a) → Qm rs s' → Q vs H') → ta σ H Q
end
section
variable {K : PySem.W.Frag} {T : List (Addr × Str)} {W : WX} {σ0 σ σ1 : L2.St} {H H1 : Hp} {s s1 : S} {R R1 : Ad} {fps fps1 : Nat → Ad} {X : XM}
/-- the wish goes on with the run -/
theorem XOk.go (x : XOk K T W σ0 σ H s R fps X) (g : Go K T σ0 H s R fps σ H1 s1 R1 fps1) : XOk K T W σ0 σ H1 s1 R1 fps1 X := fun C H' s' fps' g' h =>
  x C H' s' fps' ((g.trans g').drop (fun _ z => z) g.sb) h
theorem Go.alt0 {fp : Ad} (g : Go K T σ0 H s R fps σ1 H1 s1 R fps1) (h : ∀ a, ¬ fp a) : Go K T σ0 H s R fps σ1 H1 s1 (alt R fp) fps1 := by
  have e : alt R fp = R := funext fun a => propext ⟨fun z => z.elim id fun q => (h a q).elim, fun z => .inl z⟩
  rw [e]; exact g
theorem alt_nol (R : Ad) : alt R nol = R := funext fun a => propext ⟨fun z => z.elim id fun q => q.elim, fun z => .inl z⟩
end
/-! ### what is read of a result -/
def rdO : O → Option PyData
  | .dat d => some d
  | .lst ds => some (.list ds)
  | .dct [] => some (.dict [])
  | _ => none
def rd (s : S) : Rs → Option PyData
  | .val o => rdO o
  | .slot i => match s.env[i]? with
    | some (some o) => rdO o
    | _ => none
def rds (s : S) : List Rs → Option (List PyData)
  | [] => some []
  | r :: rs => match rd s r, rds s rs with
    | some d, some ds => some (d :: ds)
    | _, _ => none
/-- data whose items no store touches -/
inductive VAt (K : PySem.W.Frag) (F H : Hp) : V → PyData → Prop
  | dq {v : V} {d : PyData} : Dq K F v d → VAt K F H v d
  | lst {a : Addr} {vs : List V} {ds : List PyData} : H a = some (.lst vs) → DqAll K F vs ds → VAt K F H (.ref a) (.list ds)
  | dct0 {a : Addr} : H a = some (.dK []) → VAt K F H (.ref a) (.dict [])
inductive VAts (K : PySem.W.Frag) (F H : Hp) : List V → List PyData → Prop
  | nil : VAts K F H [] []
  | cons {v : V} {d : PyData} {vs : List V} {ds : List PyData} : VAt K F H v d → VAts K F H vs ds → VAts K F H (v :: vs) (d :: ds)
section
variable {K : PySem.W.Frag} {T : List (Addr × Str)} {σ0 σ : L2.St} {F H H' : Hp} {n : Nat} {s : S} {R fp : Ad} {fps : Nat → Ad} {v : V} {d : PyData} {ds : List PyData}
theorem VAt.full (h : VAt K F H v d) (e : Ex F H) : Dq K H v d := by
  cases h with
  | dq h => exact dp_ex e _ _ h
  | lst h hd => exact .lst (sq_of h) (dps_ex e _ _ hd)
  | dct0 h => exact .dct h
theorem VAt.list (h : VAt K F H v (.list ds)) (e : Ex F H) : ∃ a xs, v = .ref a ∧ SqL K H a xs ∧ DqAll K F xs ds := by
  cases h with
  | dq h =>
    obtain ⟨a, xs, rfl, h1, h2⟩ := dp_lst h
    exact ⟨a, xs, rfl, ex_l e h1, h2⟩
  | lst h hd => exact ⟨_, _, rfl, sq_of h, hd⟩
theorem VAt.tuple (h : VAt K F H v (.tuple ds)) (e : Ex F H) : ∃ a xs, v = .ref a ∧ SqT K H a xs ∧ DqAll K F xs ds := by
  cases h with
  | dq h =>
    obtain ⟨a, xs, rfl, h1, h2⟩ := dp_tup h
    exact ⟨a, xs, rfl, ex_t e h1, h2⟩
theorem VAt.int {i : Int} (h : VAt K F H v (.int i)) : v = .int i := by
  cases h with
  | dq h => exact dp_int h
theorem VAt.str {i : Str} (h : VAt K F H v (.str i)) : v = .str i := by
  cases h with
  | dq h => exact dp_str h
theorem VAt.bool {i : Bool} (h : VAt K F H v (.bool i)) : v = .bl i := by
  cases h with
  | dq h => exact dp_bool h
theorem VAt.none (h : VAt K F H v .none) : v = .non := by
  cases h with
  | dq h => exact dp_none h
theorem vat_o {o : O} (h : At K F H n v o fp) (e : rdO o = some d) : VAt K F H v d := by
  cases h with
  | dat h _ => cases e; exact .dq h
  | lst h hd _ => cases e; exact .lst h hd
  | dct h hd _ =>
    cases hd with
    | nil => cases e; exact .dct0 h
    | cons _ _ => cases e
  | st _ _ => cases e
  | exc _ _ => cases e
theorem rd_at {r : Rs} (I : Iv K T σ0 σ H s R fps) (h : RAt K (hid (Wf R fps) H) H n σ v r fp) (e : rd s r = some d) : VAt K (hid (Wf R fps) H) H v d := by
  cases h with
  | val h => exact vat_o h e
  | slot h hz =>
    rename_i i
    have e' : (match s.env[i]? with
      | some (some o) => rdO o
      | _ => Option.none) = some d := e
    cases q : s.env[i]? with
    | none => rw [q] at e'; cases e'
    | some x =>
      cases x with
      | none => rw [q] at e'; cases e'
      | some o =>
        rw [q] at e'
        exact vat_o (I.slotv q h) e'
theorem rds_at {vs : List V} {rs : List Rs} {l : List Ad} (I : Iv K T σ0 σ H s R fps) (h : RAts K (hid (Wf R fps) H) H n σ vs rs l) : ∀ {ds : List PyData}, rds s rs = some ds → VAts K (hid (Wf R fps) H) H vs ds := by
  induction h with
  | nil =>
    intro ds e
    cases e
    exact .nil
  | cons h _ ih =>
    intro ds e
    unfold rds at e
    split at e
    · rename_i d ds' q1 q2
      cases e
      exact .cons (rd_at I h q1) (ih q2)
    · cases e
end
/-! ### what an operation comes to -/
inductive Res (K : PySem.W.Frag) (F H : Hp) : V → Hp → O → Prop
  | dat {v : V} {d : PyData} : Dq K F v d → Res K F H v H (.dat d)
  | tup {p : Addr} {vs : List V} {ds : List PyData} : H p = none → DqAll K F vs ds → Res K F H (.ref p) (upd H p (.tup vs)) (.dat (.tuple ds))
  | lst {p : Addr} {vs : List V} {ds : List PyData} : H p = none → DqAll K F vs ds → Res K F H (.ref p) (upd H p (.lst vs)) (.lst ds)
  | dct {p : Addr} {kv : List (Key × V)} {kvs : List (Key × PyData)} : H p = none → KvAll K F kv kvs → Res K F H (.ref p) (upd H p (.dK kv)) (.dct kvs)
/-- rr does on values what f does on data -/
def PSim (K : PySem.W.Frag) (rr : List V → Hp → VK → Prop) (f : List PyData → (O → Prop) → Prop) : Prop := ∀ F H vs ds Qo Q, Ex F H → VAts K F H vs ds → f ds Qo →
  (∀ v H' o, Res K F H v H' o → Qo o → Q v H') → rr vs H Q
section
variable {K : PySem.W.Frag} {T : List (Addr × Str)} {W : WX} {σ0 σ : L2.St} {H H' : Hp} {n : Nat} {s : S} {R fp : Ad} {fps : Nat → Ad} {v : V} {o : O}
/-- behind such an operation, with things of others at R -/
theorem res_go (I : Iv K T σ0 σ H s R fps) (r : Res K (hid (Wf R fps) H) H v H' o) : ∃ fp, Go K T σ0 H s R fps σ H' s (alt R fp) fps ∧ At K (hid (Wf (alt R fp) fps) H') H' s.n v o fp ∧ ∀ a, fp a → H a = none := by
  cases r with
  | dat h =>
    refine ⟨nol, (Go.refl I).alt0 (fun _ z => z), ?_, fun _ z => z.elim⟩
    rw [alt_nol]
    exact .dat h fun _ z => z
  | tup hp h =>
    rename_i p vs ds
    have hW := I.fresh hp
    have g : Gr (Wf R fps) H (Wf R fps) (upd H p (.tup vs)) := gr_ex (Ex.new hp) (fun _ _ _ n => n)
    refine ⟨nol, Go.alt0 ⟨I.step g (fun i a q => upd_ne fun z => hW (.inr ⟨i, z ▸ q⟩)) I.disR (fun a q => ?_) (tabs_new I.tab hp), fun a q => upd_ne fun z => hW (.inl (z ▸ q)), g, rfl, Nat.le_refl _, fun _ z => z⟩ (fun _ z => z), ?_, fun _ z => z.elim⟩
    · have e := I.liv a q
      rw [upd_ne (show a ≠ p from fun z => hW (.inl (z ▸ q)))]
      exact e
    · rw [alt_nol]
      exact .dat (.tup (st_of (hid_some.mpr ⟨upd_same, hW, fun _ z => nomatch z⟩)) (dps_ex g _ _ h)) fun _ z => z
  | lst hp h =>
    rename_i p vs ds
    have hW := I.fresh hp
    have g : Gr (Wf R fps) H (Wf (alt R fun a => a = p) fps) (upd H p (.lst vs)) := gr_ex (Ex.new hp) (fun a u e n z => by
      rcases z with (z | z) | z
      · exact n (.inl z)
      · rw [z, hp] at e; cases e
      · exact n (.inr z))
    refine ⟨fun a => a = p, ⟨I.step g (fun i a q => upd_ne fun z => hW (.inr ⟨i, z ▸ q⟩)) (fun i a q z => ?_) (fun a q => ?_) (tabs_new I.tab hp), fun a q => upd_ne fun z => hW (.inl (z ▸ q)), g, rfl, Nat.le_refl _, fun _ z => .inl z⟩, ?_, fun a z => by rw [z]; exact hp⟩
    · rcases z with z | z
      · exact I.disR i a q z
      · exact hW (.inr ⟨i, z ▸ q⟩)
    · rcases q with q | q
      · have e := I.liv a q
        rw [upd_ne (show a ≠ p from fun z => hW (.inl (z ▸ q)))]
        exact e
      · rw [q, upd_same]
        exact trivial
    · exact .lst upd_same (dps_ex g _ _ h) fun _ => Iff.rfl
  | dct hp h =>
    rename_i p kv kvs
    have hW := I.fresh hp
    have g : Gr (Wf R fps) H (Wf (alt R fun a => a = p) fps) (upd H p (.dK kv)) := gr_ex (Ex.new hp) (fun a u e n z => by
      rcases z with (z | z) | z
      · exact n (.inl z)
      · rw [z, hp] at e; cases e
      · exact n (.inr z))
    refine ⟨fun a => a = p, ⟨I.step g (fun i a q => upd_ne fun z => hW (.inr ⟨i, z ▸ q⟩)) (fun i a q z => ?_) (fun a q => ?_) (tabs_new I.tab hp), fun a q => upd_ne fun z => hW (.inl (z ▸ q)), g, rfl, Nat.le_refl _, fun _ z => .inl z⟩, ?_, fun a z => by rw [z]; exact hp⟩
    · rcases z with z | z
      · exact I.disR i a q z
      · exact hW (.inr ⟨i, z ▸ q⟩)
    · rcases q with q | q
      · have e := I.liv a q
        rw [upd_ne (show a ≠ p from fun z => hW (.inl (z ▸ q)))]
        exact e
      · rw [q, upd_same]
        exact trivial
    · exact .dct upd_same (kv_ex g h) fun _ => Iff.rfl
/-- a call on values that were read -/
def mCB (f : List PyData → (O → Prop) → Prop) (m : MA) : ME := fun s Q X => m s (fun rs s1 => match rds s1 rs with
  | some ds => f ds fun o => Q (.val o) s1
  | none => False) X
theorem sim_cb {rr : List V → Hp → VK → Prop} {f : List PyData → (O → Prop) → Prop} {ta : TA} {m : MA} (hr : PSim K rr f) (ha : SimA K T W ta m) : SimE K T W (tCB rr ta) (mCB f m) := by
  intro σ0 σ H s R fps I Qm Xm hm hx Q hQ
  refine ha σ0 σ H s R fps I _ Xm hm hx _ fun vs H1 s1 rs l fps1 g hrs ap nR q => ?_
  split at q
  · rename_i ds e
    refine hr _ H1 vs ds _ Q hid_ex (rds_at g.iv hrs e) q fun v H2 o r qo => ?_
    obtain ⟨fp, g2, ho, hn⟩ := res_go g.iv r
    have nA : ∀ a, fp a → ¬ R a ∧ ¬ AnyF l a := fun a z => by
      have hf := hn a z
      constructor
      · intro y
        have e := g.iv.liv a (.inl y)
        rw [hf] at e; exact e
      · intro y
        have e := g.iv.liv a (.inr y)
        rw [hf] at e; exact e
    have g3 := (g.trans g2).drop (R2 := alt R fp) (fun _ z => .inl z) (fun a z => z.imp (fun y => .inl y) id)
    refine hQ v H2 s1 (.val o) fp fps1 g3 (.val (ho.keep (gr_sub fun a z => z.imp (fun y => y.imp (fun w => .inl w) id) id) (fun _ _ => rfl) (Nat.le_refl _))) (fun a z => (nA a z).1) qo
  · exact q.elim
end
/-! ### arguments -/
def mNil : MA := fun s Q _ => Q [] s
def mCons (m : ME) (r : MA) : MA := fun s Q X => m s (fun x s1 => r s1 (fun xs s2 => Q (x :: xs) s2) X) X
section
variable {K : PySem.W.Frag} {T : List (Addr × Str)} {W : WX}
theorem RAts.keep {F F' H H' : Hp} {n m : Nat} {σ : L2.St} {vs : List V} {rs : List Rs} {l : List Ad} (h : RAts K F H n σ vs rs l) (e : Ex F F') (k : ∀ a, AnyF l a → H' a = H a) (le : n ≤ m) : RAts K F' H' m σ vs rs l := by
  induction h with
  | nil => exact .nil
  | cons h _ ih => exact .cons (h.keep e (fun a q => k a ⟨_, List.mem_cons_self, q⟩) le) (ih fun a ⟨f, hf, q⟩ => k a ⟨f, List.mem_cons_of_mem _ hf, q⟩)
theorem anyF_cons {f : Ad} {l : List Ad} : AnyF (f :: l) = alt f (AnyF l) := funext fun a => propext ⟨fun ⟨g, hg, q⟩ => by
  rcases List.mem_cons.mp hg with rfl | hg
  · exact .inl q
  · exact .inr ⟨g, hg, q⟩, fun z => by
  rcases z with z | ⟨g, hg, q⟩
  · exact ⟨f, List.mem_cons_self, z⟩
  · exact ⟨g, List.mem_cons_of_mem _ hg, q⟩⟩
theorem alt_assoc (A B C : Ad) : alt (alt A B) C = alt A (alt B C) := funext fun a => propext or_assoc
theorem sim_nil : SimA K T W tNil mNil := by
  intro σ0 σ H s R fps I Qm Xm hm hx Q hQ
  refine hQ [] H s [] [] fps ((Go.refl I).alt0 ?_) .nil trivial ?_ hm
  · rintro a ⟨f, hf, _⟩; cases hf
  · rintro a ⟨f, hf, _⟩; cases hf
theorem sim_cons {te : TE} {ta : TA} {m : ME} {r : MA} (h : SimE K T W te m) (hr : SimA K T W ta r) : SimA K T W (tCons te ta) (mCons m r) := by
  intro σ0 σ H s R fps I Qm Xm hm hx Q hQ
  refine h σ0 σ H s R fps I _ Xm hm hx _ fun v H1 s1 x fp fps1 g hv nR q => ?_
  refine hr σ0 σ H1 s1 _ fps1 g.iv _ Xm q (hx.go g) _ fun vs H2 s2 xs l fps2 g2 hvs ap nR2 q2 => ?_
  have e : alt (alt R fp) (AnyF l) = alt R (AnyF (fp :: l)) := by rw [anyF_cons, alt_assoc]
  have g3 := g.trans g2
  rw [e] at g3 hvs
  refine hQ (v :: vs) H2 s2 (x :: xs) (fp :: l) fps2 g3 (.cons ?_ hvs) ⟨fun a q z => nR2 a z (.inr q), ap⟩ (fun a z y => ?_) q2
  · have g2' := g2.gr
    rw [e] at g2'
    exact hv.keep g2' (fun a q => g2.kp a (.inr q)) g2.le
  · rw [anyF_cons] at z
    rcases z with z | z
    · exact nR a z y
    · exact nR2 a z (.inl y)
end
end Mk

/-! part Mk3 -/
/-! Mk, part 3: slots written, data frozen, tests, statements. -/
namespace Mk
open PySem PySem.Spec PyProof.Rows L2 Evl Lk LamX
def fset (fps : Nat → Ad) (i : Nat) (f : Ad) : Nat → Ad := fun j => if j = i then f else fps j
theorem fset_same {fps : Nat → Ad} {i : Nat} {f : Ad} : fset fps i f i = f := if_pos rfl
theorem fset_ne {fps : Nat → Ad} {i j : Nat} {f : Ad} (h : j ≠ i) : fset fps i f j = fps j := if_neg h
section
variable {K : PySem.W.Frag} {T : List (Addr × Str)} {σ0 σ : L2.St} {H H' : Hp} {s : S} {R R' fp fp' : Ad} {fps : Nat → Ad}
/-- slot i gets another thing -/
theorem Iv.put {i : Nat} {v' : V} {o' : O} {n' : Nat} (I : Iv K T σ0 σ H s R fps) (hi : i < σ.length) (hR : ∀ a, R' a → R a) (g : Gr (Wf R fps) H (Wf R' (fset fps i fp')) H') (k : ∀ j a, j ≠ i → fps j a → H' a = H a)
    (kR : ∀ a, R' a → H' a = H a) (t : Tabs T H') (le : s.n ≤ n') (at' : At K (hid (Wf R' (fset fps i fp')) H') H' n' v' o' fp') (d1 : ∀ a, fp' a → ¬ R' a) (d2 : ∀ j a, j ≠ i → fp' a → ¬ fps j a) (b : i ∈ s.bor → σ[i]? = some (some v')) :
    Iv K T σ0 (σ.set i (some v')) H' ⟨s.env.set i (some o'), n', s.bor⟩ R' (fset fps i fp') where
  len := by rw [List.length_set, List.length_set]; exact I.len
  at_ := fun j o e => by
    by_cases q : j = i
    · subst q
      rw [List.getElem?_set_self (by rw [← I.len]; exact hi)] at e
      have e1 := Option.some.inj (Option.some.inj e)
      subst e1
      exact ⟨v', List.getElem?_set_self hi, by rw [fset_same]; exact at'⟩
    · rw [List.getElem?_set_ne (Ne.symm q)] at e
      obtain ⟨v, h1, h2⟩ := I.at_ j o e
      exact ⟨v, by rw [List.getElem?_set_ne (Ne.symm q)]; exact h1, by rw [fset_ne q]; exact h2.keep g (fun a z => k j a q z) le⟩
  emp := fun j h a z => by
    by_cases q : j = i
    · subst q
      exact h o' (List.getElem?_set_self (by rw [← I.len]; exact hi))
    · rw [fset_ne q] at z
      exact I.emp j (fun o e => h o (by rw [List.getElem?_set_ne (Ne.symm q)]; exact e)) a z
  dis := fun j l a z y => by
    by_cases q : j = i
    · by_cases r : l = i
      · rw [q, r]
      · rw [q, fset_same] at z
        rw [fset_ne r] at y
        exact (d2 l a r z y).elim
    · by_cases r : l = i
      · rw [r, fset_same] at y
        rw [fset_ne q] at z
        exact (d2 j a q y z).elim
      · rw [fset_ne q] at z
        rw [fset_ne r] at y
        exact I.dis j l a z y
  disR := fun j a z => by
    by_cases q : j = i
    · rw [q, fset_same] at z
      exact d1 a z
    · rw [fset_ne q] at z
      exact fun y => I.disR j a z (hR a y)
  liv := fun a z => by
    rw [kR a z]
    exact I.liv a (hR a z)
  tab := t
  bor := fun j hj => by
    by_cases q : j = i
    · subst q
      rw [List.getElem?_set_self hi, ← b hj]
      exact I.bor j hj
    · rw [List.getElem?_set_ne (Ne.symm q)]
      exact I.bor j hj
theorem set_same {σ : L2.St} {i : Nat} {v : V} (h : σ[i]? = some (some v)) : σ.set i (some v) = σ := by
  apply List.ext_getElem?
  intro j
  by_cases q : j = i
  · subst q
    rw [List.getElem?_set_self (List.getElem?_eq_some_iff.mp h).1, h]
  · rw [List.getElem?_set_ne (Ne.symm q)]
theorem lt_of_slot {σ : L2.St} {i : Nat} {v : V} (h : σ[i]? = some (some v)) : i < σ.length := (List.getElem?_eq_some_iff.mp h).1
theorem wf_fset {R : Ad} {fps : Nat → Ad} {i : Nat} {f : Ad} {a : Addr} (h : Wf R (fset fps i f) a) : R a ∨ f a ∨ ∃ j, j ≠ i ∧ fps j a := by
  rcases h with h | ⟨j, h⟩
  · exact .inl h
  · by_cases q : j = i
    · rw [q, fset_same] at h
      exact .inr (.inl h)
    · rw [fset_ne q] at h
      exact .inr (.inr ⟨j, q, h⟩)
end
/-! ### data for good -/
def frz (s : S) : Rs → Option (PyData × S)
  | .val o => match rdO o with
    | some d => some (d, s)
    | none => none
  | .slot i => match s.env[i]? with
    | some (some (.dat d)) => some (d, s)
    | some (some (.lst ds)) => some (.list ds, ⟨s.env.set i (some (.dat (.list ds))), s.n, s.bor⟩)
    | _ => none
section
variable {K : PySem.W.Frag} {T : List (Addr × Str)} {W : WX} {σ0 σ : L2.St} {H H' H0 : Hp} {s s' s0 : S} {R R' fp fp' : Ad} {fps fps0 : Nat → Ad} {v : V} {d : PyData} {r : Rs}
theorem frz_o {n : Nat} {o : O} (I : Iv K T σ0 σ H s (alt R fp) fps) (h : At K (hid (Wf (alt R fp) fps) H) H n v o fp) (nR : ∀ a, fp a → ¬ R a) (e : rdO o = some d) :
    Dq K (hid (Wf R fps) H) v d := by
  have g : Gr (Wf (alt R fp) fps) H (Wf R fps) H := gr_sub fun a z => z.imp .inl id
  cases h with
  | dat h _ => cases e; exact dp_ex g _ _ h
  | lst h hd z =>
    cases e
    refine .lst (sq_of (hid_some.mpr ⟨h, ?_, fun _ z => nomatch z⟩)) (dps_ex g _ _ hd)
    rintro (y | ⟨j, y⟩)
    · exact nR _ ((z _).mpr rfl) y
    · exact I.disR j _ y (.inr ((z _).mpr rfl))
  | dct h hd z =>
    cases hd with
    | cons _ _ => cases e
    | nil =>
      cases e
      refine .dct (hid_some.mpr ⟨h, ?_, fun _ z => nomatch z⟩)
      rintro (y | ⟨j, y⟩)
      · exact nR _ ((z _).mpr rfl) y
      · exact I.disR j _ y (.inr ((z _).mpr rfl))
  | st _ _ => cases e
  | exc _ _ => cases e
theorem frz_go (I : Iv K T σ0 σ H s (alt R fp) fps) (h : RAt K (hid (Wf (alt R fp) fps) H) H s.n σ v r fp) (nR : ∀ a, fp a → ¬ R a) (e : frz s r = some (d, s')) :
    ∃ fps', Iv K T σ0 σ H s' R fps' ∧ Gr (Wf (alt R fp) fps) H (Wf R fps') H ∧ Dq K (hid (Wf R fps') H) v d ∧ s'.bor = s.bor ∧ s'.n = s.n := by
  have g : Gr (Wf (alt R fp) fps) H (Wf R fps) H := gr_sub fun a z => z.imp .inl id
  cases h with
  | val h =>
    rename_i o
    have e' : (match rdO o with | some d => some (d, s) | none => none) = some (d, s') := e
    cases q : rdO o with
    | none => rw [q] at e'; cases e'
    | some d1 =>
      rw [q] at e'
      cases e'
      exact ⟨fps, I.drop fun a z => .inl z, g, frz_o I h nR q, rfl, rfl⟩
  | slot h hz =>
    rename_i i
    have ef : alt R fp = R := funext fun a => propext ⟨fun z => z.elim id fun q => (hz a q).elim, .inl⟩
    rw [ef] at I g ⊢
    have e' : (match s.env[i]? with
      | some (some (.dat d)) => some (d, s)
      | some (some (.lst ds)) => some (.list ds, ⟨s.env.set i (some (.dat (.list ds))), s.n, s.bor⟩)
      | _ => none) = some (d, s') := e
    cases q : s.env[i]? with
    | none => rw [q] at e'; cases e'
    | some x =>
      cases x with
      | none => rw [q] at e'; cases e'
      | some o =>
        have ha := I.slotv q h
        cases o with
        | dat d1 =>
          rw [q] at e'
          cases e'
          cases ha with
          | dat ha _ => exact ⟨fps, I, Gr.refl, ha, rfl, rfl⟩
        | lst ds =>
          rw [q] at e'
          cases e'
          cases ha with
          | lst ha hd z =>
            rename_i a vs
            have g2 : Gr (Wf R fps) H (Wf R (fset fps i nol)) H := gr_sub fun b y => by
              rcases wf_fset y with y | y | ⟨j, _, y⟩
              · exact .inl y
              · exact y.elim
              · exact .inr ⟨j, y⟩
            have hq : Dq K (hid (Wf R (fset fps i nol)) H) (.ref a) (.list ds) := by
              refine .lst (sq_of (hid_some.mpr ⟨ha, fun y => ?_, fun _ z => nomatch z⟩)) (dps_ex g2 _ _ hd)
              rcases wf_fset y with y | y | ⟨j, hj, y⟩
              · exact I.disR i a ((z a).mpr rfl) y
              · exact y
              · exact hj (I.dis j i a y ((z a).mpr rfl))
            have P := I.put (R' := R) (H' := H) (fp' := nol) (v' := .ref a) (o' := .dat (.list ds)) (n' := s.n) (lt_of_slot h) (fun _ z => z) g2 (fun _ _ _ _ => rfl) (fun _ _ => rfl) I.tab (Nat.le_refl _) (.dat hq fun _ z => z) (fun _ z => z.elim) (fun _ _ _ z => z.elim) (fun _ => h)
            rw [set_same h] at P
            exact ⟨_, P, g2, hq, rfl, rfl⟩
        | dct kvs => rw [q] at e'; cases e'
        | st => rw [q] at e'; cases e'
        | exc C => rw [q] at e'; cases e'
def mD (m : ME) : MD := fun s Q X => m s (fun r s1 => match frz s1 r with
  | some (d, s2) => Q d s2
  | none => False) X
theorem sim_d {te : TE} {m : ME} (h : SimE K T W te m) : SimD K T W te (mD m) := by
  intro σ0 σ H s R fps I Qm Xm hm hx Q hQ
  refine h σ0 σ H s R fps I _ Xm hm hx _ fun v H1 s1 r fp fps1 g hr nR q => ?_
  split at q
  · rename_i d s2 e
    obtain ⟨fps2, I2, g2, hd, hb, hn⟩ := frz_go g.iv hr nR e
    exact hQ v H1 s2 d fps2 ⟨I2, g.kp, g.gr.trans g2, hb.trans g.bo, Nat.le_trans g.le (Nat.le_of_eq hn.symm), fun _ z => z⟩ hd q
  · exact q.elim
theorem d_sim {te : TE} {m : MD} (h : SimD K T W te m) : SimE K T W te fun s Q X => m s (fun d s1 => Q (.val (.dat d)) s1) X := by
  intro σ0 σ H s R fps I Qm Xm hm hx Q hQ
  refine h σ0 σ H s R fps I _ Xm hm hx _ fun v H1 s1 d fps1 g hd q => ?_
  refine hQ v H1 s1 _ nol fps1 (g.alt0 fun _ z => z) (.val (.dat ?_ fun _ z => z)) (fun _ z => z.elim) q
  rw [alt_nol]; exact hd
end
/-! ### names, constants -/
def mVar (i : Nat) : ME := fun s Q _ => match s.env[i]? with
  | some (some (.dat d)) => Q (.val (.dat d)) s
  | some (some (.exc C)) => Q (.val (.exc C)) s
  | some (some _) => Q (.slot i) s
  | _ => False
def mC (d : PyData) : ME := fun s Q _ => Q (.val (.dat d)) s
section
variable {K : PySem.W.Frag} {T : List (Addr × Str)} {W : WX}
theorem sim_var {i : Nat} : SimE K T W (tVar i) (mVar i) := by
  intro σ0 σ H s R fps I Qm Xm hm hx Q hQ
  unfold mVar at hm
  have fin : ∀ v o, σ[i]? = some (some v) → At K (hid (Wf R fps) H) H s.n v o nol → Qm (.val o) s → tVar i σ H Q := fun v o e h q =>
    ⟨v, e, hQ v H s (.val o) nol fps ((Go.refl I).alt0 fun _ z => z) (.val (by rw [alt_nol]; exact h)) (fun _ z => z.elim) q⟩
  have fin2 : ∀ o, s.env[i]? = some (some o) → Qm (.slot i) s → tVar i σ H Q := fun o q hm => by
    obtain ⟨v, e, h⟩ := I.at_ i _ q
    exact ⟨v, e, hQ v H s (.slot i) nol fps ((Go.refl I).alt0 fun _ z => z) (.slot e fun _ z => z) (fun _ z => z.elim) hm⟩
  split at hm
  · rename_i d q
    obtain ⟨v, e, h⟩ := I.at_ i _ q
    cases h with
    | dat h _ => exact fin v _ e (.dat h fun _ z => z) hm
  · rename_i C q
    obtain ⟨v, e, h⟩ := I.at_ i _ q
    cases h with
    | exc h _ => exact fin _ _ e (.exc h fun _ z => z) hm
  · rename_i o q1 q2 q
    exact fin2 o q hm
  · exact hm.elim
/-- a constant that stands in any heap -/
theorem sim_c {v : V} {d : PyData} (h : ∀ F, Dq K F v d) : SimE K T W (tC v) (mC d) := by
  intro σ0 σ H s R fps I Qm Xm hm hx Q hQ
  exact hQ v H s _ nol fps ((Go.refl I).alt0 fun _ z => z) (.val (.dat (h _) fun _ z => z)) (fun _ z => z.elim) hm
/-! ### tests -/
/-- an expression whose value is True or False, as a test -/
def mB (m : ME) : MT := fun s Q X => m s (fun r s1 => match r with
  | .val (.dat (.bool b)) => Q b s1
  | _ => False) X
theorem sim_b {te : TE} {m : ME} (h : SimE K T W te m) : SimT K T W (tB te) (mB m) := by
  intro σ0 σ H s R fps I Qm Xm hm hx Q hQ
  refine h σ0 σ H s R fps I _ Xm hm hx _ fun v H1 s1 r fp fps1 g hr nR q => ?_
  split at q
  · rename_i b
    cases hr with
    | val ho =>
      cases ho with
      | dat hd _ =>
        cases dp_bool hd
        exact ⟨b, rfl, hQ b H1 s1 fps1 (g.drop (fun _ z => z) fun _ z => .inl z) q⟩
  · exact q.elim
theorem sim_test {te : TE} {m : ME} (h : SimE K T W te m) : SimT K T W (tTest te) (mB m) := sim_b h
def mAnd (a b : MT) : MT := fun s Q X => a s (fun c s1 => if c = true then b s1 Q X else Q false s1) X
def mOr (a b : MT) : MT := fun s Q X => a s (fun c s1 => if c = true then Q true s1 else b s1 Q X) X
def mNot (a : MT) : MT := fun s Q X => a s (fun c s1 => Q (!c) s1) X
theorem sim_and {t u : TT} {a b : MT} (h : SimT K T W t a) (h2 : SimT K T W u b) : SimT K T W (tAnd t u) (mAnd a b) := by
  intro σ0 σ H s R fps I Qm Xm hm hx Q hQ
  refine h σ0 σ H s R fps I _ Xm hm hx _ fun c H1 s1 fps1 g q => ?_
  cases c with
  | true => exact h2 σ0 σ H1 s1 R fps1 g.iv Qm Xm q (hx.go g) Q fun b H2 s2 fps2 g2 => hQ b H2 s2 fps2 (g.trans g2)
  | false => exact hQ false H1 s1 fps1 g q
theorem sim_or {t u : TT} {a b : MT} (h : SimT K T W t a) (h2 : SimT K T W u b) : SimT K T W (tOr t u) (mOr a b) := by
  intro σ0 σ H s R fps I Qm Xm hm hx Q hQ
  refine h σ0 σ H s R fps I _ Xm hm hx _ fun c H1 s1 fps1 g q => ?_
  cases c with
  | true => exact hQ true H1 s1 fps1 g q
  | false => exact h2 σ0 σ H1 s1 R fps1 g.iv Qm Xm q (hx.go g) Q fun b H2 s2 fps2 g2 => hQ b H2 s2 fps2 (g.trans g2)
theorem sim_not {t : TT} {a : MT} (h : SimT K T W t a) : SimT K T W (tNot t) (mNot a) := by
  intro σ0 σ H s R fps I Qm Xm hm hx Q hQ
  exact h σ0 σ H s R fps I _ Xm hm hx _ fun c H1 s1 fps1 g q => hQ (!c) H1 s1 fps1 g q
/-- .. as values -/
def mAndV (a : MT) (b : ME) : ME := fun s Q X => a s (fun c s1 => if c = true then b s1 Q X else Q (.val (.dat (.bool false))) s1) X
def mOrV (a : MT) (b : ME) : ME := fun s Q X => a s (fun c s1 => if c = true then Q (.val (.dat (.bool true))) s1 else b s1 Q X) X
theorem out_e {σ0 σ : L2.St} {H H1 : Hp} {s s1 : S} {R : Ad} {fps fps1 : Nat → Ad} {Qm : Rs → S → Prop} {Q : VK} {v : V} {d : PyData} (g : Go K T σ0 H s R fps σ H1 s1 R fps1) (hd : ∀ F, Dq K F v d)
    (hQ : ∀ v H' s' r fp fps', Go K T σ0 H s R fps σ H' s' (alt R fp) fps' → RAt K (hid (Wf (alt R fp) fps') H') H' s'.n σ v r fp → (∀ a, fp a → ¬ R a) → Qm r s' → Q v H') (q : Qm (.val (.dat d)) s1) : Q v H1 :=
  hQ v H1 s1 _ nol fps1 (g.alt0 fun _ z => z) (.val (.dat (hd _) fun _ z => z)) (fun _ z => z.elim) q
theorem sim_andV {ta tb : TE} {a b : ME} (h : SimE K T W ta a) (h2 : SimE K T W tb b) : SimE K T W (tAndV ta tb) (mAndV (mB a) b) := by
  intro σ0 σ H s R fps I Qm Xm hm hx Q hQ
  refine sim_b h σ0 σ H s R fps I _ Xm hm hx (fun c H1 => if c = true then tb σ H1 Q else Q (.bl false) H1) fun c H1 s1 fps1 g q => ?_
  cases c with
  | true => exact h2 σ0 σ H1 s1 R fps1 g.iv Qm Xm q (hx.go g) Q fun v H2 s2 r fp fps2 g2 => hQ v H2 s2 r fp fps2 (g.trans g2)
  | false => exact out_e g (fun _ => .bl false) hQ q
theorem sim_orV {ta tb : TE} {a b : ME} (h : SimE K T W ta a) (h2 : SimE K T W tb b) : SimE K T W (tOrV ta tb) (mOrV (mB a) b) := by
  intro σ0 σ H s R fps I Qm Xm hm hx Q hQ
  refine sim_b h σ0 σ H s R fps I _ Xm hm hx (fun c H1 => if c = true then Q (.bl true) H1 else tb σ H1 Q) fun c H1 s1 fps1 g q => ?_
  cases c with
  | true => exact out_e g (fun _ => .bl true) hQ q
  | false => exact h2 σ0 σ H1 s1 R fps1 g.iv Qm Xm q (hx.go g) Q fun v H2 s2 r fp fps2 g2 => hQ v H2 s2 r fp fps2 (g.trans g2)
def mNotV (a : MT) : ME := fun s Q X => a s (fun c s1 => Q (.val (.dat (.bool (!c)))) s1) X
theorem sim_notV {ta : TE} {a : ME} (h : SimE K T W ta a) : SimE K T W (tNotV ta) (mNotV (mB a)) := by
  intro σ0 σ H s R fps I Qm Xm hm hx Q hQ
  exact sim_b h σ0 σ H s R fps I _ Xm hm hx (fun c H1 => Q (.bl (!c)) H1) fun c H1 s1 fps1 g q => out_e g (fun _ => .bl (!c)) hQ q
def mIfE (c : MT) (a b : ME) : ME := fun s Q X => c s (fun k s1 => if k = true then a s1 Q X else b s1 Q X) X
theorem sim_ifE {t : TT} {ta tb : TE} {c : MT} {a b : ME} (h : SimT K T W t c) (h1 : SimE K T W ta a) (h2 : SimE K T W tb b) : SimE K T W (tIf t ta tb) (mIfE c a b) := by
  intro σ0 σ H s R fps I Qm Xm hm hx Q hQ
  refine h σ0 σ H s R fps I _ Xm hm hx _ fun k H1 s1 fps1 g q => ?_
  cases k with
  | true => exact h1 σ0 σ H1 s1 R fps1 g.iv Qm Xm q (hx.go g) Q fun v H2 s2 r fp fps2 g2 => hQ v H2 s2 r fp fps2 (g.trans g2)
  | false => exact h2 σ0 σ H1 s1 R fps1 g.iv Qm Xm q (hx.go g) Q fun v H2 s2 r fp fps2 g2 => hQ v H2 s2 r fp fps2 (g.trans g2)
end
/-! ### statements -/
structure SK where
  nx : S → Prop
  rt : O → S → Prop
  bk : S → Prop
  ct : S → Prop
  er : XM
abbrev MS : Type := S → SK → Prop
section
variable (K : PySem.W.Frag) (T : List (Addr × Str)) (W : WX)
structure DOk (σ0 : L2.St) (H : Hp) (s : S) (R : Ad) (fps : Nat → Ad) (D : Ends) (k : SK) : Prop where
  nx : ∀ σ' H' s' fps', Go K T σ0 H s R fps σ' H' s' R fps' → k.nx s' → D.nx σ' H'
  rt : ∀ σ' H' s' v o fp fps', Go K T σ0 H s R fps σ' H' s' (alt R fp) fps' → At K (hid (Wf (alt R fp) fps') H') H' s'.n v o fp → (∀ a, fp a → ¬ R a) → k.rt o s' → D.rt v H'
  bk : ∀ σ' H' s' fps', Go K T σ0 H s R fps σ' H' s' R fps' → k.bk s' → D.bk σ' H'
  ct : ∀ σ' H' s' fps', Go K T σ0 H s R fps σ' H' s' R fps' → k.ct s' → D.ct σ' H'
  er : ∀ C σ' H' s' fps', Go K T σ0 H s R fps σ' H' s' R fps' → k.er C s' → W (.ref C) none σ' H'
def SimS (ts : TS) (m : MS) : Prop := ∀ σ0 σ H s R fps, Iv K T σ0 σ H s R fps → ∀ D k, m s k → DOk K T W σ0 H s R fps D k → ts D σ H
end
section
variable {K : PySem.W.Frag} {T : List (Addr × Str)} {W : WX} {σ0 σ σ1 : L2.St} {H H1 : Hp} {s s1 : S} {R : Ad} {fps fps1 : Nat → Ad} {D : Ends} {k : SK}
theorem DOk.go (x : DOk K T W σ0 H s R fps D k) (g : Go K T σ0 H s R fps σ1 H1 s1 R fps1) : DOk K T W σ0 H1 s1 R fps1 D k where
  nx := fun σ' H' s' fps' g' => x.nx σ' H' s' fps' (g.trans g')
  rt := fun σ' H' s' v o fp fps' g' => x.rt σ' H' s' v o fp fps' (g.trans g')
  bk := fun σ' H' s' fps' g' => x.bk σ' H' s' fps' (g.trans g')
  ct := fun σ' H' s' fps' g' => x.ct σ' H' s' fps' (g.trans g')
  er := fun C σ' H' s' fps' g' => x.er C σ' H' s' fps' (g.trans g')
theorem DOk.xok (x : DOk K T W σ0 H s R fps D k) : XOk K T W σ0 σ H s R fps k.er := fun C H' s' fps' g h => x.er C σ H' s' fps' g h
def mNext : MS := fun s k => k.nx s
def mSeq (a b : MS) : MS := fun s k => a s { k with nx := fun s1 => b s1 k }
theorem sim_next : SimS K T W tNext mNext := fun σ0 σ H s R fps I D k h x => x.nx σ H s fps (Go.refl I) h
theorem sim_seq {ta tb : TS} {a b : MS} (h : SimS K T W ta a) (h2 : SimS K T W tb b) : SimS K T W (tSeq ta tb) (mSeq a b) := fun σ0 σ H s R fps I D k hm x =>
  h σ0 σ H s R fps I _ _ hm ⟨fun σ' H' s' fps' g q => h2 σ0 σ' H' s' R fps' g.iv D k q (x.go g), x.rt, x.bk, x.ct, x.er⟩
def mIf (c : MT) (a b : MS) : MS := fun s k => c s (fun q s1 => if q = true then a s1 k else b s1 k) k.er
theorem sim_if {t : TT} {ta tb : TS} {c : MT} {a b : MS} (h : SimT K T W t c) (h1 : SimS K T W ta a) (h2 : SimS K T W tb b) : SimS K T W (tIfS t ta tb) (mIf c a b) := fun σ0 σ H s R fps I D k hm x =>
  h σ0 σ H s R fps I _ k.er hm x.xok _ fun q H1 s1 fps1 g hq => by
    cases q with
    | true => exact h1 σ0 σ H1 s1 R fps1 g.iv D k hq (x.go g)
    | false => exact h2 σ0 σ H1 s1 R fps1 g.iv D k hq (x.go g)
def mBreak : MS := fun s k => k.bk s
def mCont : MS := fun s k => k.ct s
def mDrop (m : ME) : MS := fun s k => m s (fun _ s1 => k.nx s1) k.er
theorem sim_drop {te : TE} {m : ME} (h : SimE K T W te m) : SimS K T W (tDrop te) (mDrop m) := fun σ0 σ H s R fps I D k hm x =>
  h σ0 σ H s R fps I _ k.er hm x.xok _ fun v H1 s1 r fp fps1 g _ _ q => x.nx σ H1 s1 fps1 (g.drop (fun _ z => z) fun _ z => .inl z) q
/-- what is handed on: a thing of one's own goes along -/
def mov (s : S) : Rs → Option (O × S)
  | .val o => some (o, s)
  | .slot i => match s.env[i]? with
    | some (some (.dct kvs)) => some (.dct kvs, ⟨s.env.set i none, s.n, s.bor⟩)
    | _ => match frz s (.slot i) with
      | some (d, s1) => some (.dat d, s1)
      | none => none
theorem mov_dct {i : Nat} {v : V} {kvs : List (Key × PyData)} {fp : Ad} (I : Iv K T σ0 σ H s (alt R fp) fps) (h : σ[i]? = some (some v)) (hz : ∀ a, ¬ fp a) (q : s.env[i]? = some (some (.dct kvs))) :
    ∃ fp' fps', Iv K T σ0 σ H ⟨s.env.set i none, s.n, s.bor⟩ (alt R fp') fps' ∧ Gr (Wf (alt R fp) fps) H (Wf (alt R fp') fps') H ∧ At K (hid (Wf (alt R fp') fps') H) H s.n v (.dct kvs) fp' ∧ (∀ a, fp' a → ¬ R a) ∧ s.bor = s.bor ∧ s.n = s.n := by
  have ha := I.slotv q h
  have W : ∀ a, Wf (alt R (fps i)) (fset fps i nol) a → Wf (alt R fp) fps a := fun a z => by
    rcases wf_fset z with (z | z) | z | ⟨j, _, z⟩
    · exact .inl (.inl z)
    · exact .inr ⟨i, z⟩
    · exact z.elim
    · exact .inr ⟨j, z⟩
  have g : Gr (Wf (alt R fp) fps) H (Wf (alt R (fps i)) (fset fps i nol)) H := gr_sub W
  have out : ∀ {j : Nat} {a : Addr}, fset fps i nol j a → j ≠ i ∧ fps j a := fun {j a} z => by
    by_cases e : j = i
    · rw [e, fset_same] at z; exact z.elim
    · rw [fset_ne e] at z; exact ⟨e, z⟩
  refine ⟨fps i, fset fps i nol, ⟨?_, fun j o e => ?_, fun j e a z => ?_, fun j k a y z => I.dis j k a (out y).2 (out z).2, fun j a y z => ?_, fun a z => ?_, I.tab, I.bor⟩, g, ha.keep g (fun _ _ => rfl) (Nat.le_refl _), fun a z y => I.disR i a z (.inl y), rfl, rfl⟩
  · rw [List.length_set]; exact I.len
  · have hj : j ≠ i := fun z => by
      subst z
      rw [List.getElem?_set] at e
      split at e
      · split at e <;> cases e
      · exact absurd rfl ‹_›
    rw [List.getElem?_set_ne (Ne.symm hj)] at e
    obtain ⟨w, h1, h2⟩ := I.at_ j o e
    rw [fset_ne hj]
    exact ⟨w, h1, h2.keep g (fun _ _ => rfl) (Nat.le_refl _)⟩
  · obtain ⟨hj, z⟩ := out z
    refine I.emp j (fun o q => e o ?_) a z
    rw [List.getElem?_set_ne (Ne.symm hj)]; exact q
  · obtain ⟨hj, y⟩ := out y
    rcases z with z | z
    · exact I.disR j a y (.inl z)
    · exact hj (I.dis j i a y z)
  · rcases z with z | z
    · exact I.liv a (.inl z)
    · exact I.live (.inr ⟨i, z⟩)
theorem mov_go {o : O} {s' : S} {r : Rs} {v : V} {fp : Ad} (I : Iv K T σ0 σ H s (alt R fp) fps) (h : RAt K (hid (Wf (alt R fp) fps) H) H s.n σ v r fp) (nR : ∀ a, fp a → ¬ R a) (e : mov s r = some (o, s')) :
    ∃ fp' fps', Iv K T σ0 σ H s' (alt R fp') fps' ∧ Gr (Wf (alt R fp) fps) H (Wf (alt R fp') fps') H ∧ At K (hid (Wf (alt R fp') fps') H) H s'.n v o fp' ∧ (∀ a, fp' a → ¬ R a) ∧ s'.bor = s.bor ∧ s'.n = s.n := by
  cases r with
  | val o1 =>
    have e' : o1 = o ∧ s = s' := by
      cases e; exact ⟨rfl, rfl⟩
    obtain ⟨rfl, rfl⟩ := e'
    cases h with
    | val h => exact ⟨fp, fps, I, Gr.refl, h, nR, rfl, rfl⟩
  | slot i =>
    by_cases qd : ∃ kvs, s.env[i]? = some (some (.dct kvs))
    · obtain ⟨kvs, qd⟩ := qd
      have e' : (match s.env[i]? with
        | some (some (.dct kvs)) => some (O.dct kvs, (⟨s.env.set i none, s.n, s.bor⟩ : S))
        | _ => match frz s (.slot i) with
          | some (d, s1) => some (O.dat d, s1)
          | none => none) = some (o, s') := e
      rw [qd] at e'
      cases e'
      cases h with
      | slot h hz => exact mov_dct I h hz qd
    have e' : (match frz s (.slot i) with
      | some (d, s1) => some (O.dat d, s1)
      | none => none) = some (o, s') := by
      have e1 : (match s.env[i]? with
        | some (some (.dct kvs)) => some (O.dct kvs, (⟨s.env.set i none, s.n, s.bor⟩ : S))
        | _ => match frz s (.slot i) with
          | some (d, s1) => some (O.dat d, s1)
          | none => none) = some (o, s') := e
      split at e1
      · exact absurd ⟨_, by assumption⟩ qd
      · exact e1
    cases q : frz s (.slot i) with
    | none => rw [q] at e'; cases e'
    | some p =>
      obtain ⟨d, s1⟩ := p
      rw [q] at e'
      cases e'
      obtain ⟨fps', I2, g2, hd, hb, hn⟩ := frz_go I h nR q
      refine ⟨nol, fps', by rw [alt_nol]; exact I2, by rw [alt_nol]; exact g2, .dat (by rw [alt_nol]; exact hd) fun _ z => z, fun _ z => z.elim, hb, hn⟩
def mRet (m : ME) : MS := fun s k => m s (fun r s1 => match mov s1 r with
  | some (o, s2) => k.rt o s2
  | none => False) k.er
theorem sim_ret {te : TE} {m : ME} (h : SimE K T W te m) : SimS K T W (tRet te) (mRet m) := fun σ0 σ H s R fps I D k hm x =>
  h σ0 σ H s R fps I _ k.er hm x.xok _ fun v H1 s1 r fp fps1 g hr nR q => by
    split at q
    · rename_i o s2 e
      obtain ⟨fp', fps', I2, g2, hd, n2, hb, hn⟩ := mov_go g.iv hr nR e
      exact x.rt σ H1 s2 v o fp' fps' ⟨I2, g.kp, g.gr.trans g2, hb.trans g.bo, Nat.le_trans g.le (Nat.le_of_eq hn.symm), fun _ z => .inl z⟩ hd n2 q
    · exact q.elim
def mRetN : MS := fun s k => k.rt (.dat .none) s
/-- a thing is put into a slot -/
def putO (s : S) (i : Nat) (o : O) : S := ⟨s.env.set i (some o), s.n, s.bor⟩
theorem put_go {H0 : Hp} {s0 : S} {fps0 : Nat → Ad} {i : Nat} {v : V} {o : O} {fp : Ad} (G : Go K T σ0 H0 s0 R fps0 σ H s (alt R fp) fps) (h : At K (hid (Wf (alt R fp) fps) H) H s.n v o fp) (nR : ∀ a, fp a → ¬ R a) (hi : i < s.env.length) (hb : i ∉ s.bor) :
    ∃ fps', Go K T σ0 H0 s0 R fps0 (σ.set i (some v)) H (putO s i o) R fps' := by
  have I := G.iv
  have g : Gr (Wf (alt R fp) fps) H (Wf R (fset fps i fp)) H := gr_sub fun a z => by
    rcases wf_fset z with z | z | ⟨j, _, z⟩
    · exact .inl (.inl z)
    · exact .inl (.inr z)
    · exact .inr ⟨j, z⟩
  exact ⟨fset fps i fp, ⟨I.put (by rw [I.len]; exact hi) (fun _ z => .inl z) g (fun _ _ _ _ => rfl) (fun _ _ => rfl) I.tab (Nat.le_refl _) (h.keep g (fun _ _ => rfl) (Nat.le_refl _)) nR (fun j a _ z y => I.disR j a y (.inr z)) (fun z => (hb z).elim),
    G.kp, G.gr.trans g, G.bo, G.le, fun _ z => z⟩⟩
end
end Mk

/-! part Mk4 -/
/-! Mk, part 4: assignments, lists of one's own, loops. -/
namespace Mk
open PySem PySem.Spec PyProof.Rows L2 Evl Lk LamX
section
variable {K : PySem.W.Frag} {T : List (Addr × Str)} {W : WX} {σ0 σ : L2.St} {H H0 : Hp} {s s0 : S} {R fp : Ad} {fps fps0 : Nat → Ad}
/-- a new object that nobody keeps -/
theorem go_new {p : Addr} {o : HO} (I : Iv K T σ0 σ H s R fps) (hp : H p = none) : Go K T σ0 H s R fps σ (upd H p o) s R fps := by
  have hW := I.fresh hp
  have g : Gr (Wf R fps) H (Wf R fps) (upd H p o) := gr_ex (Ex.new hp) (fun _ _ _ n => n)
  exact ⟨I.step g (fun i a q => upd_ne (show a ≠ p from fun z => hW (.inr ⟨i, z ▸ q⟩))) I.disR (fun a q => by
    rw [upd_ne (show a ≠ p from fun z => hW (.inl (z ▸ q)))]
    exact I.liv a q) (tabs_new I.tab hp), fun a q => upd_ne (show a ≠ p from fun z => hW (.inl (z ▸ q))), g, rfl, Nat.le_refl _, fun _ z => z⟩
/-! ### name = value -/
def asg (i : Nat) (r : Rs) (s : S) (Q : S → Prop) : Prop := match mov s r with
  | some (o, s2) => i ∉ s2.bor ∧ i < s2.env.length ∧ Q (putO s2 i o)
  | none => False
def mAsg (i : Nat) (m : ME) : MS := fun s k => m s (fun r s1 => asg i r s1 k.nx) k.er
theorem sim_asg {te : TE} {m : ME} {i : Nat} (h : SimE K T W te m) : SimS K T W (tAsg te (gName i)) (mAsg i m) := fun σ0 σ H s R fps I D k hm x =>
  h σ0 σ H s R fps I _ k.er hm x.xok _ fun v H1 s1 r fp fps1 g hr nR q => by
    unfold asg at q
    split at q
    · rename_i o s2 e
      obtain ⟨fp', fps', I2, g2, hd, n2, hb, hn⟩ := mov_go g.iv hr nR e
      have G2 : Go K T σ0 H s R fps σ H1 s2 (alt R fp') fps' := ⟨I2, g.kp, g.gr.trans g2, hb.trans g.bo, Nat.le_trans g.le (Nat.le_of_eq hn.symm), fun _ z => .inl z⟩
      obtain ⟨fps3, G3⟩ := put_go G2 hd n2 q.2.1 q.1
      exact x.nx _ H1 _ fps3 G3 q.2.2
    · exact q.elim
/-! ### a, b, .. = a tuple -/
abbrev MG : Type := PyData → S → (S → Prop) → Prop
abbrev MGs : Type := List PyData → S → (S → Prop) → Prop
end
section
variable (K : PySem.W.Frag) (T : List (Addr × Str))
def SimG (g : TG) (m : MG) : Prop := ∀ σ0 σ H s R fps, Iv K T σ0 σ H s R fps → ∀ v d, Dq K (hid (Wf R fps) H) v d → ∀ Qm : S → Prop, m d s Qm → ∀ Q : L2.St → Hp → Prop,
  (∀ σ' H' s' fps', Go K T σ0 H s R fps σ' H' s' R fps' → Qm s' → Q σ' H') → g v σ H Q
def SimGs (g : TGs) (m : MGs) : Prop := ∀ σ0 σ H s R fps, Iv K T σ0 σ H s R fps → ∀ vs ds, DqAll K (hid (Wf R fps) H) vs ds → ∀ Qm : S → Prop, m ds s Qm → ∀ Q : L2.St → Hp → Prop,
  (∀ σ' H' s' fps', Go K T σ0 H s R fps σ' H' s' R fps' → Qm s' → Q σ' H') → g vs σ H Q
end
section
variable {K : PySem.W.Frag} {T : List (Addr × Str)} {W : WX} {σ0 σ : L2.St} {H H0 : Hp} {s s0 : S} {R fp : Ad} {fps fps0 : Nat → Ad}
def mgN (i : Nat) : MG := fun d s Q => i ∉ s.bor ∧ i < s.env.length ∧ Q (putO s i (.dat d))
theorem go_alt0 (I : Iv K T σ0 σ H s R fps) : Go K T σ0 H s R fps σ H s (alt R nol) fps := (Go.refl I).alt0 fun _ z => z
theorem simg_n {i : Nat} : SimG K T (gName i) (mgN i) := fun σ0 σ H s R fps I v d hd Qm hm Q hQ => by
  obtain ⟨fps3, G3⟩ := put_go (v := v) (o := .dat d) (fp := nol) (i := i) (go_alt0 I) (.dat (by rw [alt_nol]; exact hd) fun _ z => z) (fun _ z => z.elim) hm.2.1 hm.1
  exact hQ _ H _ fps3 G3 hm.2.2
def mgNil : MGs := fun ds s Q => ds = [] ∧ Q s
def mgCons (m : MG) (r : MGs) : MGs := fun ds s Q => match ds with
  | d :: ds => m d s fun s1 => r ds s1 Q
  | [] => False
theorem simgs_nil : SimGs K T gNil mgNil := fun σ0 σ H s R fps I vs ds hd Qm hm Q hQ => by
  obtain ⟨rfl, hm⟩ := hm
  cases hd
  exact ⟨rfl, hQ σ H s fps (Go.refl I) hm⟩
theorem simgs_cons {g : TG} {gs : TGs} {m : MG} {r : MGs} (h : SimG K T g m) (hr : SimGs K T gs r) : SimGs K T (gCons g gs) (mgCons m r) := fun σ0 σ H s R fps I vs ds hd Qm hm Q hQ => by
  cases hd with
  | nil => exact hm.elim
  | cons hv hvs =>
    exact ⟨_, _, rfl, h σ0 σ H s R fps I _ _ hv _ hm _ fun σ1 H1 s1 fps1 g1 q => hr σ0 σ1 H1 s1 R fps1 g1.iv _ _ (dps_ex g1.gr _ _ hvs) Qm q Q fun σ2 H2 s2 fps2 g2 => hQ σ2 H2 s2 fps2 (g1.trans g2)⟩
def mgT (n : Nat) (m : MGs) : MG := fun d s Q => match d with
  | .tuple ds => ds.length = n ∧ m ds s Q
  | _ => False
theorem simg_t {K' : PySem.W.Frag} {n : Nat} {gs : TGs} {m : MGs} (h : SimGs K T gs m) (hK : K' = K) : SimG K T (gTup K' n gs) (mgT n m) := fun σ0 σ H s R fps I v d hd Qm hm Q hQ => by
  subst hK
  cases d with
  | tuple ds =>
    obtain ⟨a, xs, rfl, hs, hx⟩ := dp_tup hd
    exact ⟨a, xs, rfl, ex_t hid_ex hs, (dps_len hx).trans hm.1, h σ0 σ H s R fps I _ _ hx Qm hm.2 Q hQ⟩
  | none => exact hm.elim
  | bool _ => exact hm.elim
  | int _ => exact hm.elim
  | str _ => exact hm.elim
  | list _ => exact hm.elim
  | dict _ => exact hm.elim
def mAsgG (g : MG) (m : MD) : MS := fun s k => m s (fun d s1 => g d s1 k.nx) k.er
theorem sim_asgG {te : TE} {m : MD} {tg : TG} {g : MG} (h : SimD K T W te m) (hg : SimG K T tg g) : SimS K T W (tAsg te tg) (mAsgG g m) := fun σ0 σ H s R fps I D k hm x =>
  h σ0 σ H s R fps I _ k.er hm x.xok _ fun v H1 s1 d fps1 g1 hd q => hg σ0 σ H1 s1 R fps1 g1.iv v d hd _ q _ fun σ2 H2 s2 fps2 g2 q2 => x.nx σ2 H2 s2 fps2 (g1.trans g2) q2
/-! ### a, b, .. = x, y, .. -/
def mMv (m : ME) : ME := fun s Q X => m s (fun r s1 => match mov s1 r with
  | some (o, s2) => Q (.val o) s2
  | none => False) X
theorem sim_mv {te : TE} {m : ME} (h : SimE K T W te m) : SimE K T W te (mMv m) := by
  intro σ0 σ H s R fps I Qm Xm hm hx Q hQ
  refine h σ0 σ H s R fps I _ Xm hm hx _ fun v H1 s1 r fp fps1 g hr nR q => ?_
  split at q
  · rename_i o s2 e
    obtain ⟨fp', fps', I2, g2, hd, n2, hb, hn⟩ := mov_go g.iv hr nR e
    exact hQ v H1 s2 (.val o) fp' fps' ⟨I2, g.kp, g.gr.trans g2, hb.trans g.bo, Nat.le_trans g.le (Nat.le_of_eq hn.symm), fun _ z => .inl z⟩ (.val hd) n2 q
  · exact q.elim
def puts : List Nat → List Rs → S → (S → Prop) → Prop
  | [], [], s, Q => Q s
  | i :: is, .val o :: rs, s, Q => i ∉ s.bor ∧ i < s.env.length ∧ puts is rs (putO s i o) Q
  | _, _, _, _ => False
def sets : List Nat → List V → L2.St → L2.St
  | i :: is, v :: vs, σ => sets is vs (σ.set i (some v))
  | _, _, σ => σ
theorem puts_go : ∀ (is : List Nat) (vs : List V) (rs : List Rs) (l : List Ad) (σ : L2.St) (s : S) (fps : Nat → Ad) (Q : S → Prop), Go K T σ0 H0 s0 R fps0 σ H s (alt R (AnyF l)) fps →
    RAts K (hid (Wf (alt R (AnyF l)) fps) H) H s.n σ vs rs l → Apart l → (∀ a, AnyF l a → ¬ R a) → puts is rs s Q → ∃ s' fps', Go K T σ0 H0 s0 R fps0 (sets is vs σ) H s' R fps' ∧ Q s' ∧ vs.length = is.length
  | [], [], [], l, σ, s, fps, Q, G, h, ap, nR, q => by
    cases h
    refine ⟨s, fps, G.drop (fun _ z => z) fun _ z => .inl z, q, rfl⟩
  | i :: is, v :: vs, .val o :: rs, l, σ, s, fps, Q, G, h, ap, nR, q => by
    cases h with
    | cons h hr =>
      rename_i fp l
      cases h with
      | val h =>
        have e : alt (alt R (AnyF l)) fp = alt R (AnyF (fp :: l)) := by
          rw [anyF_cons, alt_assoc]
          exact congrArg (alt R) (funext fun a => propext Or.comm)
        rw [← e] at h hr G
        have G' : Go K T σ0 H0 s0 (alt R (AnyF l)) fps0 σ H s (alt (alt R (AnyF l)) fp) fps → True := fun _ => trivial
        -- put one
        have I := G.iv
        have g : Gr (Wf (alt (alt R (AnyF l)) fp) fps) H (Wf (alt R (AnyF l)) (fset fps i fp)) H := gr_sub fun a z => by
          rcases wf_fset z with z | z | ⟨j, _, z⟩
          · exact .inl (.inl z)
          · exact .inl (.inr z)
          · exact .inr ⟨j, z⟩
        have nfp : ∀ a, fp a → ¬ alt R (AnyF l) a := fun a z y => by
          rcases y with y | y
          · exact nR a (by rw [anyF_cons]; exact .inl z) y
          · exact ap.1 a z y
        have P := I.put (R' := alt R (AnyF l)) (H' := H) (n' := s.n) (i := i) (by rw [I.len]; exact q.2.1) (fun _ z => .inl z) g (fun _ _ _ _ => rfl) (fun _ _ => rfl) I.tab (Nat.le_refl _) (h.keep g (fun _ _ => rfl) (Nat.le_refl _)) nfp (fun j a _ z y => I.disR j a y (.inr z)) (fun z => (q.1 z).elim)
        refine puts_go is vs rs l (σ.set i (some v)) (putO s i o) _ Q ⟨P, G.kp, G.gr.trans g, G.bo, G.le, fun _ z => .inl z⟩ ?_ ap.2 (fun a z => nR a (by rw [anyF_cons]; exact .inr z)) q.2.2 |>.imp fun s' => .imp fun fps' h => ⟨h.1, h.2.1, by simp [h.2.2]⟩
        -- the rest are things: their values do not hang on the slots
        have mono := hr.keep (n := s.n) (m := s.n) g (fun _ _ => rfl) (Nat.le_refl _)
        clear hr
        revert mono q
        generalize hid (Wf (alt R (AnyF l)) (fset fps i fp)) H = F'
        intro q mono
        have key : ∀ {is : List Nat} {rs : List Rs} {s2 : S} {vs : List V} {l : List Ad}, puts is rs s2 Q → RAts K F' H s.n σ vs rs l → RAts K F' H s.n (σ.set i (some v)) vs rs l := fun {is rs} => by
          induction rs generalizing is with
          | nil =>
            intro s2 vs l hp hq
            cases hq
            exact .nil
          | cons r rs ih =>
            intro s2 vs l hp hq
            cases is with
            | nil => cases r <;> exact hp.elim
            | cons j js =>
              cases r with
              | slot _ => exact hp.elim
              | val o2 =>
                cases hq with
                | cons h1 h2 =>
                  cases h1 with
                  | val h1 => exact .cons (.val h1) (ih hp.2.2 h2)
        exact key q.2.2 mono
  | [], _, _ :: _, _, _, _, _, _, _, h, _, _, q => q.elim
  | _ :: _, _, [], _, _, _, _, _, _, h, _, _, q => q.elim
  | _ :: _, _, .slot _ :: _, _, _, _, _, _, _, h, _, _, q => q.elim
  | _ :: _, [], _ :: _, _, _, _, _, _, _, h, _, _, _ => nomatch h
  | [], _ :: _, [], _, _, _, _, _, _, h, _, _, _ => nomatch h
def mPar (is : List Nat) (m : MA) : MS := fun s k => m s (fun rs s1 => puts is rs s1 k.nx) k.er
theorem sim_par {i j : Nat} {ta : TA} {m : MA} (h : SimA K T W ta m) : SimS K T W (tPar i j ta) (mPar [i, j] m) := fun σ0 σ H s R fps I D k hm x =>
  h σ0 σ H s R fps I _ k.er hm x.xok _ fun vs H1 s1 rs l fps1 g hr ap nR q => by
    obtain ⟨s2, fps2, G, q2, hl⟩ := puts_go [i, j] vs rs l σ s1 fps1 _ g hr ap nR q
    match vs, hl with
    | [v, w], _ => exact ⟨v, w, rfl, x.nx _ H1 s2 fps2 G q2⟩
/-- the targets' reading: plain names -/
def gNames : List Nat → TGs
  | [] => gNil
  | i :: is => gCons (gName i) (gNames is)
theorem gnames_sets : ∀ (is : List Nat) (vs : List V) (σ : L2.St) (H : Hp) (Q : L2.St → Hp → Prop), vs.length = is.length → Q (sets is vs σ) H → gNames is vs σ H Q
  | [], [], _, _, _, _, q => ⟨rfl, q⟩
  | i :: is, v :: vs, σ, H, Q, hl, q => ⟨v, vs, rfl, gnames_sets is vs _ H Q (by simpa using hl) q⟩
theorem sim_parN {K' : PySem.W.Frag} {n : Nat} {is : List Nat} {gs : TGs} {ta : TA} {m : MA} (h : SimA K T W ta m) (hg : gs = gNames is) (hn : is.length = n) (hK : K' = K) (hz : n ≤ 100000) : SimS K T W (tAsg (tTup ta) (gTup K' n gs)) (mPar is m) := fun σ0 σ H s R fps I D k hm x => by
  subst hK hg
  refine h σ0 σ H s R fps I _ k.er hm x.xok _ fun vs H1 s1 rs l fps1 g hr ap nR q => ?_
  obtain ⟨s2, fps2, G, q2, hl⟩ := puts_go is vs rs l σ s1 fps1 _ g hr ap nR q
  refine ⟨sz_of (by omega), fun p hp => ⟨p, vs, rfl, st_of upd_same, hl.trans hn, gnames_sets is vs σ _ _ hl ?_⟩⟩
  exact x.nx _ _ s2 fps2 (G.trans (go_new G.iv hp)) q2
/-! ### lists of one's own -/
def mFz (m : ME) : ME := fun s Q X => m s (fun r s1 => match frz s1 r with
  | some (d, s2) => Q (.val (.dat d)) s2
  | none => False) X
theorem sim_fz {te : TE} {m : ME} (h : SimE K T W te m) : SimE K T W te (mFz m) := by
  intro σ0 σ H s R fps I Qm Xm hm hx Q hQ
  refine d_sim (sim_d h) σ0 σ H s R fps I Qm Xm ?_ hx Q hQ
  exact hm
def dats : List Rs → Option (List PyData)
  | [] => some []
  | .val (.dat d) :: rs => match dats rs with
    | some ds => some (d :: ds)
    | none => none
  | _ => none
theorem dats_at {F : Hp} {n : Nat} {vs : List V} {rs : List Rs} {l : List Ad} (h : RAts K F H n σ vs rs l) : ∀ {ds : List PyData}, dats rs = some ds → DqAll K F vs ds := by
  induction h with
  | nil => intro ds e; cases e; exact .nil
  | cons h _ ih =>
    rename_i r _ _ rs _ _
    intro ds e
    cases r with
    | slot _ => cases e
    | val o =>
      cases o with
      | dat d =>
        have e' : (match dats rs with
          | some ds => some (d :: ds)
          | none => none) = some ds := e
        cases q : dats rs with
        | none => rw [q] at e'; cases e'
        | some ds1 =>
          rw [q] at e'
          cases e'
          cases h with
          | val h =>
            cases h with
            | dat h _ => exact .cons h (ih q)
      | lst _ => cases e
      | dct _ => cases e
      | st => cases e
      | exc _ => cases e
/-- the list in slot i is written -/
theorem mutL_go {i : Nat} {a : Addr} {vs vs' : List V} {ds ds' : List PyData} (G : Go K T σ0 H0 s0 R fps0 σ H s R fps) (hv : σ[i]? = some (some (.ref a))) (he : s.env[i]? = some (some (.lst ds))) (ha : H a = some (.lst vs))
    (hd : DqAll K (hid (Wf R fps) H) vs' ds') : ∃ fps', Go K T σ0 H0 s0 R fps0 σ (upd H a (.lst vs')) (putO s i (.lst ds')) R fps' ∧ Gr (Wf R fps) H (Wf R fps') (upd H a (.lst vs')) := by
  have I := G.iv
  have hA := I.slotv he hv
  cases hA with
  | lst hA hdA hz =>
    have wa : Wf R fps a := .inr ⟨i, (hz a).mpr rfl⟩
    have nR : ¬ R a := I.disR i a ((hz a).mpr rfl)
    have g : Gr (Wf R fps) H (Wf R (fset fps i (fps i))) (upd H a (.lst vs')) := gr_of (fun b o h n _ => by
      rw [upd_ne (show b ≠ a from fun z => n (z ▸ wa))]
      exact h) (fun b o h n z => by
      rcases wf_fset z with z | z | ⟨j, _, z⟩
      · exact n (.inl z)
      · exact n (.inr ⟨i, z⟩)
      · exact n (.inr ⟨j, z⟩))
    have P := I.put (R' := R) (i := i) (v' := .ref a) (o' := .lst ds') (fp' := fps i) (n' := s.n) (lt_of_slot hv) (fun _ z => z) g (fun j b hj z => upd_ne (show b ≠ a from fun y => hj (I.dis j i a (y ▸ z) ((hz a).mpr rfl))))
      (fun b z => upd_ne (show b ≠ a from fun y => nR (y ▸ z))) (Tabs.lst I.tab ha) (Nat.le_refl _) (.lst upd_same (dps_ex g _ _ hd) hz) (fun b z => I.disR i b z) (fun j b hj z y => hj (I.dis j i b y z)) (fun _ => hv)
    rw [set_same hv] at P
    exact ⟨_, ⟨P, fun b z => (upd_ne (show b ≠ a from fun y => nR (y ▸ z))).trans (G.kp b z), G.gr.trans g, G.bo, G.le, fun _ z => z⟩, g⟩
/-- a list's method: on values rr, on data f (the list's items, the arguments; what then stands in it, the answer) -/
def LSim (K : PySem.W.Frag) (rr : V → List V → Hp → VK → Prop) (f : List PyData → List PyData → (List PyData → PyData → Prop) → Prop) : Prop := ∀ F H a vs ds xs es Qo Q, Ex F H → H a = some (.lst vs) → DqAll K F vs ds → DqAll K F xs es → f ds es Qo →
  (∀ v vs' ds' d', DqAll K F vs' ds' → Dq K F v d' → Qo ds' d' → Q v (upd H a (.lst vs'))) → rr (.ref a) xs H Q
def isLst (s : S) (i : Nat) : Prop := match s.env[i]? with
  | some (some (.lst _)) => True
  | _ => False
def mLM (f : List PyData → List PyData → (List PyData → PyData → Prop) → Prop) (i : Nat) (m : MA) : ME := fun s Q X => isLst s i ∧ m s (fun rs s1 => match dats rs, s1.env[i]? with
  | some es, some (some (.lst ds)) => f ds es fun ds' d' => Q (.val (.dat d')) (putO s1 i (.lst ds'))
  | _, _ => False) X
theorem isLst_yes {i : Nat} (h : isLst s i) : ∃ ds, s.env[i]? = some (some (.lst ds)) := by
  unfold isLst at h
  split at h
  · exact ⟨_, by assumption⟩
  · exact h.elim
theorem sim_lm {K' : PySem.W.Frag} {rr : V → List V → Hp → VK → Prop} {f : List PyData → List PyData → (List PyData → PyData → Prop) → Prop} {ta : TA} {m : MA} {i : Nat} (hr : LSim K rr f) (ha : SimA K T W ta m) (hK : K' = K) : SimE K T W (tBM K' "list" rr (tVar i) ta) (mLM f i m) := by
  subst hK
  intro σ0 σ H s R fps I Qm Xm hm hx Q hQ
  obtain ⟨ds0, e0⟩ := isLst_yes hm.1
  obtain ⟨v, hv, hA0⟩ := I.at_ i _ e0
  cases hA0 with
  | lst hA hd hz =>
    rename_i a vs0
    refine ⟨.ref a, hv, Or.inl ⟨rfl, vs0, sq_of hA⟩, ?_⟩
    refine ha σ0 σ H s R fps I _ Xm hm.2 hx _ fun xs H1 s1 rs l fps1 g hrs ap nR q => ?_
    split at q
    · rename_i es ds q1 q2
      have G0 := g.drop (R2 := R) (fun _ z => z) fun _ z => .inl z
      have hA1 := G0.iv.slotv q2 hv
      cases hA1 with
      | lst hA1 hd1 hz1 =>
        have mo : Gr (Wf (alt R (AnyF l)) fps1) H1 (Wf R fps1) H1 := gr_sub fun a z => z.imp .inl id
        refine hr _ H1 a _ ds xs es _ Q hid_ex hA1 hd1 (dps_ex mo _ _ (dats_at hrs q1)) q fun w vs' ds' d' h1 h2 h3 => ?_
        obtain ⟨fps2, G2, g2⟩ := mutL_go G0 hv q2 hA1 h1
        refine hQ w _ _ (.val (.dat d')) nol fps2 (G2.alt0 fun _ z => z) (.val (.dat ?_ fun _ z => z)) (fun _ z => z.elim) h3
        rw [alt_nol]
        exact dp_ex g2 _ _ h2
    · exact q.elim
end
end Mk

/-! part Mk5 -/
/-! Mk, part 5: loops, comprehensions. -/
namespace Mk
open PySem PySem.Spec PyProof.Rows L2 Evl Lk LamX
abbrev MI : Type := S → (List PyData → S → Prop) → XM → Prop
section
variable (K : PySem.W.Frag) (T : List (Addr × Str)) (W : WX)
/-- J walks the items ds, whatever comes of what is not frozen in F0 -/
def Steady (J : It) (ds : List PyData) (F0 : Hp) : Prop := ∀ σ0 σ H s R fps, Iv K T σ0 σ H s R fps → Ex F0 (hid (Wf R fps) H) → ∀ i,
  (∀ d, ds[i]? = some d → J.go i H ∧ ∀ x H', J.yld i H x H' → Go K T σ0 H s R fps σ H' s R fps ∧ Dq K (hid (Wf R fps) H') x d) ∧ (ds.length ≤ i → J.stop i H)
def SimI (wi : TI) (m : MI) : Prop := ∀ σ0 σ H s R fps, Iv K T σ0 σ H s R fps → ∀ Qm Xm, m s Qm Xm → XOk K T W σ0 σ H s R fps Xm → ∀ Q : It → Hp → Prop,
  (∀ J H' s' ds fps', Go K T σ0 H s R fps σ H' s' R fps' → Steady K T J ds (hid (Wf R fps') H') → Qm ds s' → Q J H') → wi σ H Q
end
/-- over a list or a tuple -/
def iAny (K : PySem.W.Frag) (tl : TE) : TI := fun σ H R => tl σ H fun x H1 => (∃ a, x = .ref a ∧ (∃ xs, SqL K H1 a xs) ∧ R (Itl K a) H1) ∨ (∃ a, x = .ref a ∧ (∃ xs, SqT K H1 a xs) ∧ R (Itt K a) H1) ∨ ∃ z, x = .str z ∧ R (Its z) H1
theorem pi_any {X : Cx} {tg l : Expr} {tl : TE} (hl : PE X l tl) : PI X tg l (iAny X.K tl) := by
  have h1 : ∀ te, PE X l te → PI X tg l (iList X.K te) := fun te h => pi_list h
  refine ⟨fun pins s σ H R I h => ?_⟩
  refine thn (hl.run pins s σ H _ I h) fun v s1 ⟨x, H1, I1, r1, q1⟩ => ?_
  rcases q1 with ⟨a, e, ⟨xs, hq⟩, q⟩ | ⟨a, e, ⟨xs, hq⟩, q⟩ | ⟨z, e, q⟩
  · subst e
    cases r1
    obtain ⟨its, rv, p, hz⟩ := I1.list hq
    refine wpAny_pyIter_list p.isList ?_
    refine ⟨s1.heap.objs.size, [s1.heap.objs.size], _, _, H1, rfl, I1.kept (t' := s1.toks) fun b o e => Heap.get?_push_of_some _ e, turn_list a _, ⟨_, Heap.get?_push_size _ rfl, rfl, rfl⟩, fun b hb => ?_, q⟩
    have e : b = s1.heap.objs.size := by simpa using hb
    subst e
    exact I1.fpOk (Nat.le_refl _) (I1.hok.fresh (Nat.le_refl _))
  · subst e
    cases r1
    obtain ⟨its, rv, p, hz⟩ := I1.tuple hq
    refine wpAny_pyIter_tuple (show s1.heap.IsTuple a its.toArray from p) ?_
    refine ⟨s1.heap.objs.size, [s1.heap.objs.size], _, _, H1, rfl, I1.kept (t' := s1.toks) fun b o e => Heap.get?_push_of_some _ e, turn_tuple a _, ⟨_, Heap.get?_push_size _ rfl, rfl, rfl⟩, fun b hb => ?_, q⟩
    have e : b = s1.heap.objs.size := by simpa using hb
    subst e
    exact I1.fpOk (Nat.le_refl _) (I1.hok.fresh (Nat.le_refl _))
  · subst e
    obtain ⟨t, rfl⟩ := r1
    cases ha : z.cps.all (· < 128)
    · exact wpAny_pyIter_wide ha (pi_one (tk := s1.toks) I1 _ (turn_str _ z t "str_iterator" (.inr rfl)) ⟨_, Heap.get?_push_size _ rfl, rfl, rfl⟩ q)
    · exact wpAny_pyIter_ascii ha (pi_one (tk := s1.toks) I1 _ (turn_str _ z t "str_ascii_iterator" (.inl rfl)) ⟨_, Heap.get?_push_size _ rfl, rfl, rfl⟩ q)
/-- a text's letters -/
def charsOf (z : Str) : List PyData := z.cps.toList.map fun c => .str ⟨#[c]⟩
def itemsOf : PyData → Option (List PyData)
  | .list ds => some ds
  | .tuple ds => some ds
  | .str z => some (charsOf z)
  | _ => none
def mIt (m : ME) : MI := fun s Q X => mD m s (fun d s1 => match itemsOf d with
  | some ds => Q ds s1
  | none => False) X
section
variable {K : PySem.W.Frag} {T : List (Addr × Str)} {W : WX}
theorem steady_l {a : Addr} {xs : List V} {ds : List PyData} {F : Hp} (h : SqL K F a xs) (hd : DqAll K F xs ds) : Steady K T (Itl K a) ds F := by
  intro σ0 σ H s R fps I e i
  have h1 : SqL K H a xs := ex_l (e.trans hid_ex) h
  refine ⟨fun d hi => ?_, fun hi => ⟨xs, h1, by rw [dps_len hd]; exact hi⟩⟩
  obtain ⟨v, hv, dv⟩ := dps_at (i := i) hd hi
  refine ⟨⟨xs, v, h1, hv⟩, fun x H' y => ?_⟩
  obtain ⟨rfl, y⟩ := y
  have ev := y xs h1
  rw [hv] at ev
  cases ev
  exact ⟨Go.refl I, dp_ex e _ _ dv⟩
theorem steady_t {a : Addr} {xs : List V} {ds : List PyData} {F : Hp} (h : SqT K F a xs) (hd : DqAll K F xs ds) : Steady K T (Itt K a) ds F := by
  intro σ0 σ H s R fps I e i
  have h1 : SqT K H a xs := ex_t (e.trans hid_ex) h
  refine ⟨fun d hi => ?_, fun hi => ⟨xs, h1, by rw [dps_len hd]; exact hi⟩⟩
  obtain ⟨v, hv, dv⟩ := dps_at (i := i) hd hi
  refine ⟨⟨xs, v, h1, hv⟩, fun x H' y => ?_⟩
  obtain ⟨rfl, y⟩ := y
  have ev := y xs h1
  rw [hv] at ev
  cases ev
  exact ⟨Go.refl I, dp_ex e _ _ dv⟩
theorem steady_s {z : Str} {F : Hp} : Steady K T (Its z) (charsOf z) F := by
  intro σ0 σ H s R fps I e i
  refine ⟨fun d hi => ?_, fun hi => ?_⟩
  · unfold charsOf at hi
    rw [List.getElem?_map] at hi
    obtain ⟨c, hc, rfl⟩ := Option.map_eq_some_iff.mp hi
    rw [Array.getElem?_toList] at hc
    refine ⟨(Array.getElem?_eq_some_iff.mp hc).1, fun x H' y => ?_⟩
    obtain ⟨rfl, c', hc', rfl⟩ := y
    rw [hc] at hc'
    cases hc'
    exact ⟨Go.refl I, .str _⟩
  · unfold charsOf at hi
    rw [List.length_map, Array.length_toList] at hi
    exact hi
theorem sim_it {K' : PySem.W.Frag} {te : TE} {m : ME} (h : SimE K T W te m) (hK : K' = K) : SimI K T W (iAny K' te) (mIt m) := by
  subst hK
  intro σ0 σ H s R fps I Qm Xm hm hx Q hQ
  refine sim_d h σ0 σ H s R fps I _ Xm hm hx _ fun v H1 s1 d fps1 g hd q => ?_
  cases d with
  | list ds =>
    obtain ⟨a, xs, rfl, hs, hds⟩ := dp_lst hd
    exact .inl ⟨a, rfl, ⟨xs, ex_l hid_ex hs⟩, hQ _ H1 s1 ds fps1 g (steady_l hs hds) q⟩
  | tuple ds =>
    obtain ⟨a, xs, rfl, hs, hds⟩ := dp_tup hd
    exact .inr (.inl ⟨a, rfl, ⟨xs, ex_t hid_ex hs⟩, hQ _ H1 s1 ds fps1 g (steady_t hs hds) q⟩)
  | none => exact q.elim
  | bool _ => exact q.elim
  | int _ => exact q.elim
  | str z =>
    obtain rfl := dp_str hd
    exact .inr (.inr ⟨z, rfl, hQ _ H1 s1 _ fps1 g steady_s q⟩)
  | dict _ => exact q.elim
/-! ### range -/
def intsFrom (lo : Int) (n : Nat) : List PyData := (List.range n).map fun (i : Nat) => .int (lo + (i : Int))
theorem steady_r {lo : Int} {n : Nat} {F : Hp} : Steady K T (Itr lo n) (intsFrom lo n) F := by
  intro σ0 σ H s R fps I e i
  refine ⟨fun d hi => ?_, fun hi => ?_⟩
  · unfold intsFrom at hi
    rw [List.getElem?_map] at hi
    obtain ⟨j, hj, rfl⟩ := Option.map_eq_some_iff.mp hi
    obtain ⟨hl, ej⟩ := List.getElem?_eq_some_iff.mp hj
    rw [List.length_range] at hl
    rw [List.getElem_range] at ej
    subst ej
    refine ⟨hl, fun x H' y => ?_⟩
    obtain ⟨rfl, rfl⟩ := y
    exact ⟨Go.refl I, .int _⟩
  · unfold intsFrom at hi
    rw [List.length_map, List.length_range] at hi
    exact hi
theorem go_nil {σ0 σ : L2.St} {H H1 : Hp} {s s1 : S} {R R1 : Ad} {fps fps1 : Nat → Ad} (g : Go K T σ0 H s R fps σ H1 s1 (alt R R1) fps1) : Go K T σ0 H s R fps σ H1 s1 R fps1 := g.drop (fun _ z => z) fun _ z => .inl z
theorem sim_rng1' {ta : TA} {m : MA} (h : SimA K T W ta m) : SimI K T W (iRng1 ta) (fun s Q X => m s (fun rs s1 => match dats rs with
  | some [.int j] => -(2 ^ 62) ≤ j ∧ j < 2 ^ 62 ∧ Q (intsFrom 0 j.toNat) s1
  | _ => False) X) := by
  intro σ0 σ H s R fps I Qm Xm hm hx Q hQ
  refine h σ0 σ H s R fps I _ Xm hm hx _ fun vs H1 s1 rs l fps1 g hrs ap nR q => ?_
  split at q
  · rename_i j e
    have hd := dats_at hrs e
    obtain _ | ⟨h1, _ | _⟩ := hd
    obtain rfl := dp_int h1
    exact ⟨j, rfl, q.1, q.2.1, hQ _ H1 s1 _ fps1 (go_nil g) steady_r q.2.2⟩
  · exact q.elim
theorem sim_rng2' {ta : TA} {m : MA} (h : SimA K T W ta m) : SimI K T W (iRng2 ta) (fun s Q X => m s (fun rs s1 => match dats rs with
  | some [.int i, .int j] => (-(2 ^ 62) ≤ i ∧ i < 2 ^ 62 ∧ -(2 ^ 62) ≤ j ∧ j < 2 ^ 62) ∧ Q (intsFrom i (j - i).toNat) s1
  | _ => False) X) := by
  intro σ0 σ H s R fps I Qm Xm hm hx Q hQ
  refine h σ0 σ H s R fps I _ Xm hm hx _ fun vs H1 s1 rs l fps1 g hrs ap nR q => ?_
  split at q
  · rename_i i j e
    have hd := dats_at hrs e
    obtain _ | ⟨h1, _ | ⟨h2, _ | _⟩⟩ := hd
    obtain rfl := dp_int h1
    obtain rfl := dp_int h2
    exact ⟨i, j, rfl, q.1, hQ _ H1 s1 _ fps1 (go_nil g) steady_r q.2⟩
  · exact q.elim
/-! ### for -/
def mForL (g : MG) (b : MS) : List PyData → S → SK → Prop
  | [], s, k => k.nx s
  | d :: ds, s, k => g d s fun s1 => b s1 { k with nx := fun s2 => mForL g b ds s2 k, ct := fun s2 => mForL g b ds s2 k, bk := k.nx }
def mFor (i : MI) (g : MG) (b : MS) : MS := fun s k => i s (fun ds s1 => mForL g b ds s1 k) k.er
theorem sim_for {wi : TI} {mi : MI} {tg : TG} {g : MG} {tb : TS} {b : MS} (hi : SimI K T W wi mi) (hg : SimG K T tg g) (hb : SimS K T W tb b) : SimS K T W (tFor wi tg tb) (mFor mi g b) := fun σ0 σ H s R fps I D k hm x => by
  refine hi σ0 σ H s R fps I _ k.er hm x.xok _ fun J H1 s1 ds fps1 g1 st q => ?_
  refine ⟨fun i m σ' H' => m = ds.length - i ∧ i ≤ ds.length ∧ ∃ s' fps', Go K T σ0 H1 s1 R fps1 σ' H' s' R fps' ∧ mForL g b (ds.drop i) s' k, ⟨ds.length, by simp, Nat.zero_le _, s1, fps1, Go.refl g1.iv, q⟩, ?_⟩
  rintro i m σ2 H2 ⟨rfl, hi2, s2, fps2, g2, q2⟩
  obtain ⟨st1, st2⟩ := st σ0 σ2 H2 s2 R fps2 g2.iv g2.gr i
  by_cases hlt : i < ds.length
  · obtain ⟨go, yl⟩ := st1 ds[i] (List.getElem?_eq_getElem hlt)
    rw [List.drop_eq_getElem_cons hlt] at q2
    refine .inr ⟨go, fun σ' H' => ∃ s' fps', Go K T σ0 H1 s1 R fps1 σ' H' s' R fps' ∧ mForL g b (ds.drop (i + 1)) s' k, fun σ' H' z => ⟨ds.length - (i + 1), by omega, rfl, hlt, z⟩, fun v H3 y => ?_⟩
    obtain ⟨g3, hd⟩ := yl v H3 y
    refine hg σ0 σ2 H3 s2 R fps2 g3.iv v _ hd _ q2 _ fun σ4 H4 s4 fps4 g4 q4 => ?_
    have g14 := g2.trans (g3.trans g4)
    exact hb σ0 σ4 H4 s4 R fps4 g4.iv _ _ q4 ⟨fun σ' H' s' fps' g5 z => ⟨s', fps', g14.trans g5, z⟩, fun σ' H' s' v o fp fps' g5 => x.rt σ' H' s' v o fp fps' (g1.trans (g14.trans g5)),
      fun σ' H' s' fps' g5 z => x.nx σ' H' s' fps' (g1.trans (g14.trans g5)) z, fun σ' H' s' fps' g5 z => ⟨s', fps', g14.trans g5, z⟩, fun C σ' H' s' fps' g5 z => x.er C σ' H' s' fps' (g1.trans (g14.trans g5)) z⟩
  · refine .inl ⟨st2 (by omega), ?_⟩
    rw [List.drop_eq_nil_of_le (by omega)] at q2
    exact x.nx σ2 H2 s2 fps2 (g1.trans g2) q2
/-! ### while -/
def mWhN (c : MT) (b : MS) : Nat → S → SK → Prop
  | 0, _, _ => False
  | n + 1, s, k => c s (fun q s1 => if q = true then b s1 { k with nx := fun s2 => mWhN c b n s2 k, ct := fun s2 => mWhN c b n s2 k, bk := k.nx } else k.nx s1) k.er
def mWhile (c : MT) (b : MS) : MS := fun s k => ∃ n, mWhN c b n s k
theorem sim_while {tc : TT} {c : MT} {tb : TS} {b : MS} (hc : SimT K T W tc c) (hb : SimS K T W tb b) : SimS K T W (tWhile tc tb) (mWhile c b) := fun σ0 σ H s R fps I D k hm x => by
  obtain ⟨n, hm⟩ := hm
  refine ⟨fun m σ' H' => ∃ s' fps', Go K T σ0 H s R fps σ' H' s' R fps' ∧ mWhN c b m s' k, ⟨n, s, fps, Go.refl I, hm⟩, ?_⟩
  rintro m σ1 H1 ⟨s1, fps1, g1, q1⟩
  cases m with
  | zero => exact q1.elim
  | succ m =>
    refine hc σ0 σ1 H1 s1 R fps1 g1.iv _ k.er q1 (x.go g1).xok _ fun q H2 s2 fps2 g2 h2 => ?_
    cases q with
    | true =>
      refine ⟨fun σ' H' => ∃ s' fps', Go K T σ0 H s R fps σ' H' s' R fps' ∧ mWhN c b m s' k, fun σ' H' z => ⟨m, Nat.lt_succ_self m, z⟩, ?_⟩
      have g12 := g1.trans g2
      exact hb σ0 σ1 H2 s2 R fps2 g2.iv _ _ h2 ⟨fun σ' H' s' fps' g5 z => ⟨s', fps', g12.trans g5, z⟩, fun σ' H' s' v o fp fps' g5 => x.rt σ' H' s' v o fp fps' (g12.trans g5),
        fun σ' H' s' fps' g5 z => x.nx σ' H' s' fps' (g12.trans g5) z, fun σ' H' s' fps' g5 z => ⟨s', fps', g12.trans g5, z⟩, fun C σ' H' s' fps' g5 z => x.er C σ' H' s' fps' (g12.trans g5) z⟩
    | false => exact x.nx σ1 H2 s2 fps2 (g1.trans g2) h2
end
end Mk

/-! part Mk6 -/
/-! Mk, part 6: comprehensions; defs as contracts, calls. -/
namespace Mk
open PySem PySem.Spec PyProof.Rows L2 Evl Lk LamX
def wipeE : List (Option O) → List Nat → List (Option O)
  | e, [] => e
  | e, v :: vs => (wipeE e vs).set v none
def wipeS (vs : List Nat) (s : S) : S := ⟨wipeE s.env vs, s.n, s.bor⟩
theorem wipeE_len (e : List (Option O)) : ∀ vs, (wipeE e vs).length = e.length
  | [] => rfl
  | v :: vs => by rw [wipeE, List.length_set, wipeE_len e vs]
theorem wipeE_some {e : List (Option O)} {i : Nat} {o : O} : ∀ {vs : List Nat}, (wipeE e vs)[i]? = some (some o) → e[i]? = some (some o) ∧ i ∉ vs
  | [], h => ⟨h, by simp⟩
  | v :: vs, h => by
    rw [wipeE] at h
    by_cases hi : v = i
    · subst hi
      by_cases hv : v < (wipeE e vs).length
      · rw [List.getElem?_set_self hv] at h; cases h
      · rw [List.getElem?_eq_none (by simpa using hv)] at h; cases h
    · rw [List.getElem?_set_ne hi] at h
      obtain ⟨h1, h2⟩ := wipeE_some h
      exact ⟨h1, by simp only [List.mem_cons, not_or]; exact ⟨fun e => hi e.symm, h2⟩⟩
theorem wipeE_out {e : List (Option O)} {i : Nat} : ∀ {vs : List Nat}, i ∉ vs → (wipeE e vs)[i]? = e[i]?
  | [], _ => rfl
  | v :: vs, h => by
    have h1 : v ≠ i := fun z => h (by rw [z]; exact List.mem_cons_self)
    have h2 : i ∉ vs := fun m => h (List.mem_cons_of_mem _ m)
    rw [wipeE, List.getElem?_set_ne h1]
    exact wipeE_out h2
noncomputable def fwipe (fps : Nat → Ad) (vs : List Nat) : Nat → Ad := fun i => open Classical in if i ∈ vs then nol else fps i
theorem fwipe_in {fps : Nat → Ad} {vs : List Nat} {i : Nat} {a : Addr} (h : fwipe fps vs i a) : fps i a ∧ i ∉ vs := by
  unfold fwipe at h
  by_cases q : i ∈ vs
  · rw [if_pos q] at h; exact h.elim
  · rw [if_neg q] at h; exact ⟨h, q⟩
section
variable {K : PySem.W.Frag} {T : List (Addr × Str)} {W : WX} {σ0 σ : L2.St} {H H0 : Hp} {s s0 : S} {R fp : Ad} {fps fps0 : Nat → Ad}
theorem Go.wipe (G : Go K T σ0 H0 s0 R fps0 σ H s (alt R fp) fps) {vs : List Nat} (hb : ∀ v ∈ vs, v ∉ s.bor) : Go K T σ0 H0 s0 R fps0 (L2.wipe σ vs) H (wipeS vs s) (alt R fp) (fwipe fps vs) := by
  have I := G.iv
  have g : Gr (Wf (alt R fp) fps) H (Wf (alt R fp) (fwipe fps vs)) H := gr_sub fun a z => z.imp id fun ⟨i, y⟩ => ⟨i, (fwipe_in y).1⟩
  refine ⟨⟨?_, fun i o e => ?_, fun i h a z => ?_, fun i j a z y => I.dis i j a (fwipe_in z).1 (fwipe_in y).1, fun i a z => I.disR i a (fwipe_in z).1, I.liv, I.tab, fun i hi => ?_⟩, G.kp, G.gr.trans g, G.bo, G.le, G.sb⟩
  · rw [L2.wipe_length]
    show _ = (wipeE s.env vs).length
    rw [wipeE_len]
    exact I.len
  · obtain ⟨e1, ni⟩ := wipeE_some e
    obtain ⟨v, h1, h2⟩ := I.at_ i o e1
    refine ⟨v, by rw [wipe_out ni]; exact h1, ?_⟩
    have ef : fwipe fps vs i = fps i := if_neg ni
    rw [ef]
    exact h2.keep g (fun _ _ => rfl) (Nat.le_refl _)
  · obtain ⟨z, ni⟩ := fwipe_in z
    exact I.emp i (fun o e => h o (by
      show (wipeE s.env vs)[i]? = _
      rw [wipeE_out ni]; exact e)) a z
  · have ni : i ∉ vs := fun z => hb i z hi
    rw [wipe_out ni]
    exact I.bor i hi
theorem Go.unwipe {vs : List Nat} (G : Go K T σ0 H0 s0 R fps0 (L2.wipe σ vs) H s (alt R fp) fps) (hb : ∀ v ∈ vs, v ∉ s.bor) : Go K T σ0 H0 s0 R fps0 σ H s (alt R fp) fps := by
  have I := G.iv
  refine ⟨⟨by rw [← I.len, L2.wipe_length], fun i o e => ?_, I.emp, I.dis, I.disR, I.liv, I.tab, fun i hi => ?_⟩, G.kp, G.gr, G.bo, G.le, G.sb⟩
  · obtain ⟨v, h1, h2⟩ := I.at_ i o e
    exact ⟨v, (L2.wipe_some h1).1, h2⟩
  · have h := I.bor i hi
    rw [wipe_out (fun z => hb i z hi)] at h
    exact h
theorem mutR_go {D : Addr} {vs vs' : List V} (G : Go K T σ0 H0 s0 R fps0 σ H s (alt R fp) fps) (hD : H D = some (.lst vs)) (zD : fp D) (nR : ¬ R D) :
    Go K T σ0 H0 s0 R fps0 σ (upd H D (.lst vs')) s (alt R fp) fps ∧ Gr (Wf (alt R fp) fps) H (Wf (alt R fp) fps) (upd H D (.lst vs')) := by
  have I := G.iv
  have g : Gr (Wf (alt R fp) fps) H (Wf (alt R fp) fps) (upd H D (.lst vs')) := gr_of (fun b o h n _ => by
    rw [upd_ne (show b ≠ D from fun z => n (.inl (.inr (z ▸ zD))))]
    exact h) (fun _ _ _ n => n)
  refine ⟨⟨I.step g (fun i b q => upd_ne (show b ≠ D from fun z => I.disR i b q (.inr (z ▸ zD)))) I.disR (fun b q => ?_) (Tabs.lst I.tab hD), fun b q => (upd_ne (show b ≠ D from fun z => nR (z ▸ q))).trans (G.kp b q), G.gr.trans g, G.bo, G.le, G.sb⟩, g⟩
  by_cases e : b = D
  · rw [e, upd_same]; exact trivial
  · rw [upd_ne e]; exact I.liv b q
end
/-- a target's reading stores into the slots vs alone -/
def GOnly (g : TG) (vs : List Nat) : Prop := ∀ v σ H Q, g v σ H Q → g v σ H fun σ' H' => L2.wipe σ' vs = L2.wipe σ vs ∧ Q σ' H'
def GsOnly (g : TGs) (vs : List Nat) : Prop := ∀ v σ H Q, g v σ H Q → g v σ H fun σ' H' => L2.wipe σ' vs = L2.wipe σ vs ∧ Q σ' H'
theorem wipe_set {σ : L2.St} {i : Nat} {x : Option V} : ∀ {vs : List Nat}, i ∈ vs → L2.wipe (σ.set i x) vs = L2.wipe σ vs
  | v :: vs, h => by
    unfold L2.wipe
    apply List.ext_getElem?
    intro j
    by_cases e : j = v
    · subst e
      by_cases hv : j < σ.length
      · rw [List.getElem?_set_self (by rw [L2.wipe_length, List.length_set]; exact hv), List.getElem?_set_self (by rw [L2.wipe_length]; exact hv)]
      · rw [List.getElem?_eq_none (by rw [List.length_set, L2.wipe_length, List.length_set]; omega), List.getElem?_eq_none (by rw [List.length_set, L2.wipe_length]; omega)]
    · rw [List.getElem?_set_ne (Ne.symm e), List.getElem?_set_ne (Ne.symm e)]
      by_cases q : i ∈ vs
      · rw [wipe_set q]
      · have ei : i = v := (List.mem_cons.mp h).resolve_right q
        subst ei
        by_cases qj : j ∈ vs
        · have hs : ∀ (τ : L2.St) (ws : List Nat), j ∈ ws → (L2.wipe τ ws)[j]? = if j < τ.length then some none else none := fun τ ws => by
            induction ws with
            | nil => intro z; cases z
            | cons w ws ih =>
              intro z
              unfold L2.wipe
              by_cases ew : w = j
              · subst ew
                by_cases hl : w < τ.length
                · rw [List.getElem?_set_self (by rw [L2.wipe_length]; exact hl), if_pos hl]
                · rw [List.getElem?_eq_none (by rw [List.length_set, L2.wipe_length]; omega), if_neg hl]
              · rw [List.getElem?_set_ne ew]
                exact ih ((List.mem_cons.mp z).resolve_left (Ne.symm ew))
          rw [hs _ _ qj, hs _ _ qj, List.length_set]
        · rw [wipe_out qj, wipe_out qj, List.getElem?_set_ne (Ne.symm e)]
theorem wipe_wipe {σ : L2.St} : ∀ {vs : List Nat}, L2.wipe (L2.wipe σ vs) vs = L2.wipe σ vs := by
  intro vs
  have key : ∀ ws : List Nat, (∀ w ∈ ws, w ∈ vs) → L2.wipe (L2.wipe σ ws) vs = L2.wipe σ vs := by
    intro ws
    induction ws with
    | nil => intro _; rfl
    | cons w ws ih =>
      intro h
      rw [show L2.wipe σ (w :: ws) = (L2.wipe σ ws).set w none from rfl, wipe_set (h w List.mem_cons_self)]
      exact ih fun x hx => h x (List.mem_cons_of_mem _ hx)
  exact key vs fun _ h => h
theorem gonly_n {i : Nat} {vs : List Nat} (h : i ∈ vs) : GOnly (gName i) vs := fun v σ H Q q => ⟨wipe_set h, q⟩
theorem gsonly_nil {vs : List Nat} : GsOnly gNil vs := fun v σ H Q q => ⟨q.1, rfl, q.2⟩
/-- targets' readings are monotone -/
def GMono (g : TG) : Prop := ∀ v σ H (Q Q' : L2.St → Hp → Prop), (∀ σ' H', Q σ' H' → Q' σ' H') → g v σ H Q → g v σ H Q'
def GsMono (g : TGs) : Prop := ∀ v σ H (Q Q' : L2.St → Hp → Prop), (∀ σ' H', Q σ' H' → Q' σ' H') → g v σ H Q → g v σ H Q'
theorem gmono_n {i : Nat} : GMono (gName i) := fun v σ H Q Q' h q => h _ _ q
theorem gsmono_nil : GsMono gNil := fun v σ H Q Q' h q => ⟨q.1, h _ _ q.2⟩
theorem gsmono_cons {g : TG} {gs : TGs} (h : GMono g) (hs : GsMono gs) : GsMono (gCons g gs) := fun v σ H Q Q' i ⟨x, r, e, q⟩ => ⟨x, r, e, h _ _ _ _ _ (fun σ' H' z => hs _ _ _ _ _ i z) q⟩
theorem gmono_t {K : PySem.W.Frag} {n : Nat} {gs : TGs} (hs : GsMono gs) : GMono (gTup K n gs) := fun v σ H Q Q' i ⟨a, xs, e, h1, h2, q⟩ => ⟨a, xs, e, h1, h2, hs _ _ _ _ _ i q⟩
theorem gsonly_cons {g : TG} {gs : TGs} {vs : List Nat} (m : GMono g) (ms : GsMono gs) (h : GOnly g vs) (hs : GsOnly gs vs) : GsOnly (gCons g gs) vs := fun v σ H Q ⟨x, r, e, q⟩ =>
  ⟨x, r, e, m _ _ _ _ _ (fun σ' H' z => ms _ _ _ _ _ (fun σ2 H2 y => ⟨y.1.trans z.1, y.2⟩) (hs _ _ _ _ z.2)) (h _ _ _ _ q)⟩
theorem gonly_t {K : PySem.W.Frag} {n : Nat} {gs : TGs} {vs : List Nat} (hs : GsOnly gs vs) : GOnly (gTup K n gs) vs := fun v σ H Q ⟨a, xs, e, h1, h2, q⟩ => ⟨a, xs, e, h1, h2, hs _ _ _ _ q⟩
def mYes : MT := fun s Q _ => Q true s
def mLcL (g : MG) (t : MT) (e : ME) (vs : List Nat) : List PyData → List PyData → S → (List PyData → S → Prop) → Prop
  | [], acc, s, Q => Q acc s
  | d :: ds, acc, s, Q => g d s fun s1 => t s1 (fun b s2 => if b = true then mD e s2 (fun y s3 => acc.length < 100000 ∧ mLcL g t e vs ds (acc ++ [y]) (wipeS vs s3) Q) (fun _ _ => False) else mLcL g t e vs ds acc (wipeS vs s2) Q) (fun _ _ => False)
def mLc (i : MI) (g : MG) (t : MT) (e : ME) (vs : List Nat) : ME := fun s Q X => i s (fun ds s1 => (∀ v ∈ vs, v ∉ s1.bor) ∧ mLcL g t e vs ds [] (wipeS vs s1) fun acc s2 => Q (.val (.lst acc)) s2) X
section
variable {K : PySem.W.Frag} {T : List (Addr × Str)} {W : WX}
theorem sim_yes : SimT K T W tYes mYes := fun σ0 σ H s R fps I Qm Xm hm hx Q hQ => hQ true H s fps (Go.refl I) hm
theorem sim_lc {wi : TI} {mi : MI} {tg : TG} {g : MG} {tt : TT} {t : MT} {te : TE} {e : ME} {vs : List Nat} (hi : SimI K T W wi mi) (hg : SimG K T tg g) (ho : GOnly tg vs) (hmo : GMono tg) (ht : SimT K T (fun _ _ _ _ => False) tt t) (he : SimE K T (fun _ _ _ _ => False) te e) :
    SimE K T W (tLc wi tg tt te vs) (mLc mi g t e vs) := by
  intro σ0 σ H s R fps I Qm Xm hm hx Q hQ
  refine hi σ0 σ H s R fps I _ Xm hm hx _ fun J H1 s1 ds fps1 g1 st q => ?_
  obtain ⟨hb, q⟩ := q
  intro D hD
  obtain ⟨fp, g2, hA, hfp⟩ := res_go (v := .ref D) (H' := upd H1 D (.lst [])) (o := .lst []) g1.iv (.lst hD .nil)
  cases hA with
  | lst hA hdA hz =>
    have zD : fp D := (hz D).mpr rfl
    have nR : ¬ R D := fun z => by
      have e := g1.iv.liv D z
      rw [hD] at e; exact e
    have g3 := (g1.trans g2).wipe (vs := vs) hb
    have bo : ∀ {s' : S}, s'.bor = s.bor → ∀ v ∈ vs, v ∉ s'.bor := fun {s'} e v hv => by
      rw [e, ← g1.bo]
      exact hb v hv
    refine ⟨fun i m H' => m = ds.length - i ∧ i ≤ ds.length ∧ ∃ s' fps' acc vsa, Go K T σ0 H s R fps (L2.wipe σ vs) H' s' (alt R fp) fps' ∧ Ex (hid (Wf R fps1) H1) (hid (Wf (alt R fp) fps') H') ∧ H' D = some (.lst vsa) ∧ DqAll K (hid (Wf (alt R fp) fps') H') vsa acc ∧
      mLcL g t e vs (ds.drop i) acc s' (fun acc s2 => Qm (.val (.lst acc)) s2), ⟨ds.length, by simp, Nat.zero_le _, _, _, [], [], g3, ?_, upd_same, .nil, q⟩, ?_⟩
    · exact g2.gr.trans (gr_sub fun a z => z.imp id fun ⟨i, y⟩ => ⟨i, (fwipe_in y).1⟩)
    · rintro i m H2 ⟨rfl, hi2, s2, fps2, acc, vsa, g4, x4, hD4, hacc, q2⟩
      obtain ⟨st1, st2⟩ := st σ0 _ H2 s2 _ fps2 g4.iv x4 i
      by_cases hlt : i < ds.length
      · obtain ⟨go, yl⟩ := st1 ds[i] (List.getElem?_eq_getElem hlt)
        rw [List.drop_eq_getElem_cons hlt] at q2
        refine .inr ⟨go, fun H' => ∃ s' fps' acc vsa, Go K T σ0 H s R fps (L2.wipe σ vs) H' s' (alt R fp) fps' ∧ Ex (hid (Wf R fps1) H1) (hid (Wf (alt R fp) fps') H') ∧ H' D = some (.lst vsa) ∧ DqAll K (hid (Wf (alt R fp) fps') H') vsa acc ∧
          mLcL g t e vs (ds.drop (i + 1)) acc s' (fun acc s2 => Qm (.val (.lst acc)) s2), fun H' z => ⟨ds.length - (i + 1), by omega, rfl, hlt, z⟩, fun v H3 y => ?_⟩
        obtain ⟨g5, hd⟩ := yl v H3 y
        refine hmo _ _ _ (fun σ2 H2 => L2.wipe σ2 vs = L2.wipe (L2.wipe σ vs) vs ∧ (L2.wipe σ2 vs = L2.wipe σ vs → tt σ2 H2 fun b H3 => if b = true then te σ2 H3 fun y H4 => ∃ acc, H4 D = some (.lst acc) ∧ acc.length < sizeLine ∧ ∃ s' fps' acc1 vsa, Go K T σ0 H s R fps (L2.wipe σ vs) (upd H4 D (.lst (acc ++ [y]))) s' (alt R fp) fps' ∧ Ex (hid (Wf R fps1) H1) (hid (Wf (alt R fp) fps') (upd H4 D (.lst (acc ++ [y])))) ∧ (upd H4 D (.lst (acc ++ [y]))) D = some (.lst vsa) ∧ DqAll K (hid (Wf (alt R fp) fps') (upd H4 D (.lst (acc ++ [y])))) vsa acc1 ∧
            mLcL g t e vs (ds.drop (i + 1)) acc1 s' (fun acc s2 => Qm (.val (.lst acc)) s2) else ∃ s' fps' acc1 vsa, Go K T σ0 H s R fps (L2.wipe σ vs) H3 s' (alt R fp) fps' ∧ Ex (hid (Wf R fps1) H1) (hid (Wf (alt R fp) fps') H3) ∧ H3 D = some (.lst vsa) ∧ DqAll K (hid (Wf (alt R fp) fps') H3) vsa acc1 ∧
            mLcL g t e vs (ds.drop (i + 1)) acc1 s' (fun acc s2 => Qm (.val (.lst acc)) s2))) _ (fun σ2 H2 z => ?_) (ho _ _ _ _ (hg σ0 (L2.wipe σ vs) H3 s2 (alt R fp) fps2 g5.iv v _ hd _ q2 _ fun σ6 H6 s6 fps6 g6 q6 hw => ?_))
        · rw [wipe_wipe] at z
          exact ⟨z.1, z.2 z.1⟩
        · have xf : ∀ {σ : L2.St} {H : Hp} {s : S} {R : Ad} {fps : Nat → Ad}, XOk K T (fun _ _ _ _ => False) σ0 σ H s R fps (fun _ _ => False) := fun {σ H s R fps} C H' s' fps' _ z => z
          have D6 : H6 D = some (.lst vsa) := ((g5.trans g6).kp D (.inr zD)).trans hD4
          refine ht σ0 σ6 H6 s6 _ fps6 g6.iv _ _ q6 xf _ fun b H7 s7 fps7 g7 q7 => ?_
          have g57 := (g5.trans g6).trans g7
          have D7 : H7 D = some (.lst vsa) := (g7.kp D (.inr zD)).trans D6
          cases b with
          | true =>
            refine sim_d he σ0 σ6 H7 s7 _ fps7 g7.iv _ _ q7 xf _ fun w H8 s8 y fps8 g8 hy q8 => ?_
            have g58 := g57.trans g8
            have D8 : H8 D = some (.lst vsa) := (g8.kp D (.inr zD)).trans D7
            have G8 : Go K T σ0 H s R fps σ6 H8 s8 (alt R fp) fps8 := ⟨g8.iv, fun a z => (g58.kp a (.inl z)).trans (g4.kp a z), g4.gr.trans g58.gr, g58.bo.trans g4.bo, Nat.le_trans g4.le g58.le, fun _ z => .inl z⟩
            obtain ⟨G9, m9⟩ := mutR_go (vs' := vsa ++ [w]) G8 D8 zD nR
            have G10 := G9.wipe (vs := vs) (bo G9.bo)
            rw [hw] at G10
            have m10 : Gr (Wf (alt R fp) fps8) H8 (Wf (alt R fp) (fwipe fps8 vs)) (upd H8 D (.lst (vsa ++ [w]))) := m9.trans (gr_sub fun a z => z.imp id fun ⟨i, y⟩ => ⟨i, (fwipe_in y).1⟩)
            have ln : vsa.length = acc.length := dps_len hacc
            exact ⟨vsa, D8, sz_lt (by rw [ln]; exact q8.1), _, _, acc ++ [y], vsa ++ [w], G10, x4.trans (g58.gr.trans m10), upd_same, dps_app (dps_ex m10 _ _ (dps_ex g58.gr _ _ hacc)) (.cons (dp_ex m10 _ _ hy) .nil), q8.2⟩
          | false =>
            have G8 : Go K T σ0 H s R fps σ6 H7 s7 (alt R fp) fps7 := ⟨g7.iv, fun a z => (g57.kp a (.inl z)).trans (g4.kp a z), g4.gr.trans g57.gr, g57.bo.trans g4.bo, Nat.le_trans g4.le g57.le, fun _ z => .inl z⟩
            have G10 := G8.wipe (vs := vs) (bo G8.bo)
            rw [hw] at G10
            have m10 : Gr (Wf (alt R fp) fps7) H7 (Wf (alt R fp) (fwipe fps7 vs)) H7 := gr_sub fun a z => z.imp id fun ⟨i, y⟩ => ⟨i, (fwipe_in y).1⟩
            exact ⟨_, _, acc, vsa, G10, x4.trans (g57.gr.trans m10), D7, dps_ex m10 _ _ (dps_ex g57.gr _ _ hacc), q7⟩
      · refine .inl ⟨st2 (by omega), ?_⟩
        rw [List.drop_eq_nil_of_le (by omega)] at q2
        have bo2 := bo g4.bo
        have g6 := g4.unwipe bo2
        exact hQ (.ref D) H2 s2 _ fp fps2 g6 (.val (.lst hD4 hacc hz)) (fun a z y => nR (by rw [(hz a).mp z] at y; exact y)) q2
end
end Mk

/-! part Mk7 -/
/-! Mk, part 7: defs as contracts, calls. -/
namespace Mk
open PySem PySem.Spec PyProof.Rows L2 Evl Lk LamX
/-- what a def does with things, at so many draws: its answer (or error), its parameters' things, the draws behind it -/
abbrev Den : Type := List O → Nat → (O → List O → Nat → Prop) → (Addr → List O → Nat → Prop) → Prop
def isOwn : O → Bool
  | .dat _ => false
  | .exc _ => false
  | _ => true
def ownsFrom : Nat → List O → List Nat
  | _, [] => []
  | k, o :: os => if isOwn o then k :: ownsFrom (k + 1) os else ownsFrom (k + 1) os
def fins : List O → List (Option O) → Option (List O)
  | [], _ => some []
  | o :: os, e :: es => match (if isOwn o then e else some o), fins os es with
    | some x, some xs => some (x :: xs)
    | _, _ => none
  | _ :: _, [] => none
def spM (K : PySem.W.Frag) (T : List (Addr × Str)) (G : Den) : Sp := fun vs H Q E => ∃ os n R fps Qm Xm, Iv K T (vs.map some) (vs.map some) H ⟨os.map some, n, []⟩ R fps ∧ G os n Qm Xm ∧
  (∀ v H' o os' n' fp fps', Go K T (vs.map some) H ⟨os.map some, n, []⟩ R fps (vs.map some) H' ⟨os'.map some, n', []⟩ (alt R fp) fps' → At K (hid (Wf (alt R fp) fps') H') H' n' v o fp → (∀ a, fp a → ¬ R a) → Qm o os' n' → Q v H') ∧
  (∀ C H' os' n' fps', Go K T (vs.map some) H ⟨os.map some, n, []⟩ R fps (vs.map some) H' ⟨os'.map some, n', []⟩ R fps' → Xm C os' n' → E (.ref C) none H')
/-- the slots at a def's entry -/
def s0Of (N : Nat) (os : List O) (n : Nat) : S := ⟨os.map some ++ List.replicate (N - os.length) none, n, ownsFrom 0 os⟩
def kOf (os : List O) (Qm : O → List O → Nat → Prop) (Xm : Addr → List O → Nat → Prop) : SK where
  nx := fun s => match fins os s.env with
    | some os' => Qm (.dat .none) os' s.n
    | none => False
  rt := fun o s => match fins os s.env with
    | some os' => Qm o os' s.n
    | none => False
  bk := fun _ => False
  ct := fun _ => False
  er := fun C s => match fins os s.env with
    | some os' => Xm C os' s.n
    | none => False
def runD (N : Nat) (b : MS) : Den := fun os n Qm Xm => b (s0Of N os n) (kOf os Qm Xm)
theorem ownsFrom_of : ∀ {os : List O} {k j : Nat} {o : O}, os[j]? = some o → isOwn o = true → k + j ∈ ownsFrom k os
  | o :: os, k, 0, o', h, q => by
    cases h
    rw [ownsFrom, if_pos q]
    exact List.mem_cons_self
  | o :: os, k, j + 1, o', h, q => by
    have ih := ownsFrom_of (os := os) (k := k + 1) (j := j) (o := o') h q
    have e : k + (j + 1) = k + 1 + j := by omega
    rw [ownsFrom, e]
    by_cases r : isOwn o = true
    · rw [if_pos r]; exact List.mem_cons_of_mem _ ih
    · rw [if_neg r]; exact ih
theorem fins_at : ∀ {os : List O} {es : List (Option O)} {os' : List O}, fins os es = some os' → os'.length = os.length ∧ ∀ (j : Nat) (o o' : O), os[j]? = some o → os'[j]? = some o' → if isOwn o then es[j]? = some (some o') else o' = o
  | [], es, os', h => by
    cases h
    exact ⟨rfl, fun j o o' e => by cases e⟩
  | o :: os, [], os', h => by cases h
  | o :: os, e :: es, os', h => by
    rw [fins] at h
    split at h
    · rename_i x xs h1 h2
      cases h
      obtain ⟨l, f⟩ := fins_at h2
      refine ⟨by simp [l], fun j p p' e1 e2 => ?_⟩
      cases j with
      | zero =>
        cases e1; cases e2
        by_cases q : isOwn o = true
        · rw [if_pos q] at h1 ⊢
          rw [h1]; rfl
        · rw [if_neg q] at h1 ⊢
          exact (Option.some.inj h1).symm
      | succ j => exact f j p p' e1 e2
    · cases h
section
variable {K : PySem.W.Frag} {T : List (Addr × Str)} {N : Nat}
theorem start_at {N : List Str} {vs : List V} {i : Nat} {v : V} (h : vs[i]? = some v) : (L2.start N vs)[i]? = some (some v) := by
  unfold L2.start
  have hi := (List.getElem?_eq_some_iff.mp h).1
  rw [List.getElem?_append_left (by simpa using hi), List.getElem?_map, h]
  rfl
theorem map_at {α : Type} {l : List α} {i : Nat} {x : α} : (l.map some)[i]? = some (some x) ↔ l[i]? = some x := by
  rw [List.getElem?_map]
  constructor
  · intro h
    obtain ⟨y, hy, e⟩ := Option.map_eq_some_iff.mp h
    cases e
    exact hy
  · intro h
    rw [h]; rfl
theorem entry_iv {Ns : List Str} {vs : List V} {os : List O} {n : Nat} {H : Hp} {R : Ad} {fps : Nat → Ad} (I : Iv K T (vs.map some) (vs.map some) H ⟨os.map some, n, []⟩ R fps) (hN : vs.length ≤ Ns.length) :
    Iv K T (L2.start Ns vs) (L2.start Ns vs) H (s0Of Ns.length os n) R fps := by
  have l : vs.length = os.length := by
    have := I.len
    simpa using this
  have envs : ∀ i o, (s0Of Ns.length os n).env[i]? = some (some o) → os[i]? = some o := fun i o e => by
    unfold s0Of at e
    by_cases hi : i < os.length
    · rw [List.getElem?_append_left (by simpa using hi)] at e
      exact map_at.mp e
    · rw [List.getElem?_append_right (by simpa using hi), List.getElem?_replicate] at e
      split at e <;> cases e
  refine ⟨?_, fun i o e => ?_, fun i h a z => ?_, I.dis, I.disR, I.liv, I.tab, fun _ _ => rfl⟩
  · unfold L2.start s0Of
    simp [l]
  · obtain ⟨v, h1, h2⟩ := I.at_ i o (map_at.mpr (envs i o e))
    exact ⟨v, start_at (map_at.mp h1), h2⟩
  · refine I.emp i (fun o e => h o ?_) a z
    have e' := map_at.mp e
    unfold s0Of
    rw [List.getElem?_append_left (by simpa using (List.getElem?_eq_some_iff.mp e').1)]
    exact map_at.mpr e'
/-- back from a body: the parameters' things -/
theorem leave_go {Ns : List Str} {vs : List V} {os os' : List O} {n : Nat} {H H' : Hp} {R fp : Ad} {fps fps' : Nat → Ad} {σ' : L2.St} {s' : S} (I : Iv K T (vs.map some) (vs.map some) H ⟨os.map some, n, []⟩ R fps)
    (G : Go K T (L2.start Ns vs) H (s0Of Ns.length os n) R fps σ' H' s' (alt R fp) fps') (e : fins os s'.env = some os') :
    ∃ fps2, Go K T (vs.map some) H ⟨os.map some, n, []⟩ R fps (vs.map some) H' ⟨os'.map some, s'.n, []⟩ (alt R fp) fps2 ∧ Gr (Wf (alt R fp) fps') H' (Wf (alt R fp) fps2) H' := by
  have l : vs.length = os.length := by
    have := I.len
    simpa using this
  obtain ⟨l2, fa⟩ := fins_at e
  have J := G.iv
  let fps2 : Nat → Ad := fun i a => fps' i a ∧ ∃ o, os[i]? = some o ∧ isOwn o = true
  have sub : Gr (Wf (alt R fp) fps') H' (Wf (alt R fp) fps2) H' := gr_sub fun a z => z.imp id fun ⟨i, y⟩ => ⟨i, y.1⟩
  refine ⟨fps2, ⟨⟨by simp [l, l2], fun i o' ei => ?_, fun i h a z => ?_, fun i j a z y => J.dis i j a z.1 y.1, fun i a z => J.disR i a z.1, J.liv, J.tab, fun _ z => nomatch z⟩, G.kp, G.gr.trans sub, rfl, G.le, G.sb⟩, sub⟩
  · have ei' := map_at.mp ei
    have hi : i < os.length := by rw [← l2]; exact (List.getElem?_eq_some_iff.mp ei').1
    have eo : os[i]? = some os[i] := List.getElem?_eq_getElem hi
    have fi := fa i _ o' eo ei'
    obtain ⟨v, hv, hA⟩ := I.at_ i _ (map_at.mpr eo)
    refine ⟨v, hv, ?_⟩
    by_cases q : isOwn os[i] = true
    · rw [if_pos q] at fi
      obtain ⟨w, hw, hB⟩ := J.at_ i o' fi
      have hb : i ∈ s'.bor := by
        rw [G.bo]
        have := ownsFrom_of (k := 0) eo q
        rw [Nat.zero_add] at this
        exact this
      rw [J.bor i hb, start_at (map_at.mp hv)] at hw
      cases hw
      exact (hB.keep sub (fun _ _ => rfl) (Nat.le_refl _)).fpc fun a => ⟨fun z => z.1, fun z => ⟨z, _, eo, q⟩⟩
    · rw [if_neg q] at fi
      subst fi
      have nf : ∀ a, ¬ fps2 i a := fun a ⟨_, o, e1, q1⟩ => by
        rw [eo] at e1
        cases e1
        exact q q1
      generalize os[i] = ob at q hA
      cases hA with
      | dat h z => exact .dat (dp_ex (G.gr.trans sub) _ _ h) nf
      | lst h hd z => exact (q rfl).elim
      | dct h hd z => exact (q rfl).elim
      | st h z => exact (q rfl).elim
      | exc h z => exact .exc ((G.gr.trans sub) _ _ h) nf
  · obtain ⟨_, o, e1, _⟩ := z
    have hi : i < os'.length := by rw [l2]; exact (List.getElem?_eq_some_iff.mp e1).1
    exact h _ (map_at.mpr (List.getElem?_eq_getElem hi))
theorem body_ok {Ns : List Str} {vs : List V} {H : Hp} {Q : VK} {E : XK} {ts : TS} {b : MS} (hN : vs.length ≤ Ns.length) (hb : SimS K T (fun cls d _ H => E cls d H) ts b) (h : spM K T (runD Ns.length b) vs H Q E) :
    ts { nx := fun _ H' => Q .non H', rt := Q } (L2.start Ns vs) H := by
  obtain ⟨os, n, R, fps, Qm, Xm, I, hm, hQ, hE⟩ := h
  refine hb _ _ H _ R fps (entry_iv I hN) _ _ hm ⟨fun σ' H' s' fps' g z => ?_, fun σ' H' s' v o fp fps' g hA nR z => ?_, fun _ _ _ _ _ z => z.elim, fun _ _ _ _ _ z => z.elim, fun C σ' H' s' fps' g z => ?_⟩
  · have z' : (match fins os s'.env with
      | some os' => Qm (.dat .none) os' s'.n
      | none => False) := z
    split at z'
    · rename_i os' e
      obtain ⟨fps2, G2, sub⟩ := leave_go I (g.alt0 (fp := nol) fun _ z => z) e
      exact hQ .non H' _ os' s'.n nol fps2 G2 (.dat .non fun _ z => z) (fun _ z => z.elim) z'
    · exact z'.elim
  · have z' : (match fins os s'.env with
      | some os' => Qm o os' s'.n
      | none => False) := z
    split at z'
    · rename_i os' e
      obtain ⟨fps2, G2, sub⟩ := leave_go I g e
      exact hQ v H' o os' s'.n fp fps2 G2 (hA.keep sub (fun _ _ => rfl) (Nat.le_refl _)) nR z'
    · exact z'.elim
  · have z' : (match fins os s'.env with
      | some os' => Xm C os' s'.n
      | none => False) := z
    split at z'
    · rename_i os' e
      obtain ⟨fps2, G2, sub⟩ := leave_go I (g.alt0 (fp := nol) fun _ z => z) e
      rw [alt_nol] at G2
      exact hE C H' os' s'.n fps2 G2 z'
    · exact z'.elim
end
end Mk

/-! part Mk8 -/
/-! Mk, part 8: calls. -/
namespace Mk
open PySem PySem.Spec PyProof.Rows L2 Evl Lk LamX
def gets (s : S) : List Rs → Option (List O)
  | [] => some []
  | .val o :: rs => match gets s rs with
    | some os => some (o :: os)
    | none => none
  | .slot i :: rs => match s.env[i]?, gets s rs with
    | some (some o), some os => some (o :: os)
    | _, _ => none
def slotsOf : List Rs → List Nat
  | [] => []
  | .val _ :: rs => slotsOf rs
  | .slot i :: rs => i :: slotsOf rs
def backs : List Rs → List O → S → S
  | .slot i :: rs, o :: os, s => backs rs os (putO s i o)
  | .val _ :: rs, _ :: os, s => backs rs os s
  | _, _, s => s
def getF (fps : Nat → Ad) : List Rs → List Ad → List Ad
  | .val _ :: rs, f :: l => f :: getF fps rs l
  | .slot i :: rs, _ :: l => fps i :: getF fps rs l
  | _, _ => []
def ofL (l : List Ad) : Nat → Ad := fun k => (l[k]?).getD nol
def mCall (G : Den) (m : MA) : ME := fun s Q X => m s (fun rs s1 => match gets s1 rs with
  | some os => (slotsOf rs).Nodup ∧ G os s1.n (fun o os' n' => Q (.val o) (backs rs os' ⟨s1.env, n', s1.bor⟩)) (fun C os' n' => X C (backs rs os' ⟨s1.env, n', s1.bor⟩))
  | none => False) X
theorem anyF_getF {fps : Nat → Ad} : ∀ {rs : List Rs} {l : List Ad} {a : Addr}, AnyF (getF fps rs l) a → AnyF l a ∨ ∃ i ∈ slotsOf rs, fps i a
  | [], _, _, ⟨_, h, _⟩ => nomatch h
  | .val _ :: rs, [], _, ⟨_, h, _⟩ => nomatch h
  | .slot _ :: rs, [], _, ⟨_, h, _⟩ => nomatch h
  | .val _ :: rs, f :: l, a, h => by
    rw [getF, anyF_cons] at h
    rw [anyF_cons]
    rcases h with h | h
    · exact .inl (.inl h)
    · exact (anyF_getF h).imp .inr id
  | .slot i :: rs, f :: l, a, h => by
    rw [getF, anyF_cons] at h
    rw [anyF_cons]
    rcases h with h | h
    · exact .inr ⟨i, List.mem_cons_self, h⟩
    · rcases anyF_getF h with h | ⟨j, hj, h⟩
      · exact .inl (.inr h)
      · exact .inr ⟨j, List.mem_cons_of_mem _ hj, h⟩
theorem apart_at : ∀ {l : List Ad}, Apart l → ∀ {i j : Nat} {a : Addr}, ofL l i a → ofL l j a → i = j
  | [], _, i, j, a, h, _ => h.elim
  | f :: l, ap, 0, 0, a, _, _ => rfl
  | f :: l, ap, 0, j + 1, a, h, g => by
    exfalso
    refine ap.1 a h ?_
    have g' : (l[j]?).getD nol a := g
    cases q : l[j]? with
    | none => rw [q] at g'; exact g'.elim
    | some x => rw [q] at g'; exact ⟨x, List.mem_of_getElem? q, g'⟩
  | f :: l, ap, i + 1, 0, a, h, g => by
    exfalso
    refine ap.1 a g ?_
    have g' : (l[i]?).getD nol a := h
    cases q : l[i]? with
    | none => rw [q] at g'; exact g'.elim
    | some x => rw [q] at g'; exact ⟨x, List.mem_of_getElem? q, g'⟩
  | f :: l, ap, i + 1, j + 1, a, h, g => congrArg Nat.succ (apart_at (l := l) ap.2 h g)
theorem ofL_any {l : List Ad} {k : Nat} {a : Addr} (h : ofL l k a) : AnyF l a := by
  have h' : (l[k]?).getD nol a := h
  cases q : l[k]? with
  | none => rw [q] at h'; exact h'.elim
  | some x => rw [q] at h'; exact ⟨x, List.mem_of_getElem? q, h'⟩
theorem any_ofL {l : List Ad} {a : Addr} (h : AnyF l a) : ∃ k, ofL l k a := by
  obtain ⟨f, hf, q⟩ := h
  obtain ⟨k, hk⟩ := List.getElem?_of_mem hf
  exact ⟨k, show (l[k]?).getD nol a by rw [hk]; exact q⟩
section
variable {K : PySem.W.Frag} {T : List (Addr × Str)} {W : WX} {σ0 σ : L2.St} {H H1 H0 : Hp} {s s1 s0 : S} {R R1 fp : Ad} {fps fps1 fps0 : Nat → Ad}
theorem getF_apart (I : Iv K T σ0 σ H s R fps) : ∀ {rs : List Rs} {l : List Ad}, Apart l → (∀ a, AnyF l a → R a) → (slotsOf rs).Nodup → Apart (getF fps rs l)
  | [], _, _, _, _ => trivial
  | .val _ :: rs, [], _, _, _ => trivial
  | .slot _ :: rs, [], _, _, _ => trivial
  | .val _ :: rs, f :: l, ap, hl, nd => by
    refine ⟨fun a z y => ?_, getF_apart I ap.2 (fun a z => hl a (by rw [anyF_cons]; exact .inr z)) nd⟩
    rcases anyF_getF y with y | ⟨i, _, y⟩
    · exact ap.1 a z y
    · exact I.disR i a y (hl a (by rw [anyF_cons]; exact .inl z))
  | .slot i :: rs, f :: l, ap, hl, nd => by
    have nd' : (i :: slotsOf rs).Nodup := nd
    refine ⟨fun a z y => ?_, getF_apart I ap.2 (fun a z => hl a (by rw [anyF_cons]; exact .inr z)) (List.nodup_cons.mp nd').2⟩
    rcases anyF_getF y with y | ⟨j, hj, y⟩
    · exact I.disR i a z (hl a (by rw [anyF_cons]; exact .inr y))
    · have e := I.dis i j a z y
      rw [← e] at hj
      exact (List.nodup_cons.mp nd').1 hj
/-- the things handed over -/
theorem gets_at (I : Iv K T σ0 σ H s R fps) : ∀ {vs : List V} {rs : List Rs} {l : List Ad} {os : List O}, RAts K (hid (Wf R fps) H) H s.n σ vs rs l → gets s rs = some os →
    os.length = vs.length ∧ rs.length = vs.length ∧ (∀ (k : Nat) (o : O), os[k]? = some o → ∃ v, vs[k]? = some v ∧ At K (hid (Wf R fps) H) H s.n v o (ofL (getF fps rs l) k)) ∧
    (∀ (k i : Nat), rs[k]? = some (Rs.slot i) → ∃ v, vs[k]? = some v ∧ σ[i]? = some (some v) ∧ ∃ o, s.env[i]? = some (some o))
  | _, _, _, os, .nil, e => by
    cases e
    exact ⟨rfl, rfl, (fun k o h => by cases h), fun k i h => by cases h⟩
  | _, .val o :: rs, _, os, .cons (v := v) (fp := f) (vs := vs) (l := l) h hr, e => by
    have e' : (match gets s rs with | some os => some (o :: os) | none => none) = some os := e
    cases q : gets s rs with
    | none => rw [q] at e'; cases e'
    | some os1 =>
      rw [q] at e'
      cases e'
      obtain ⟨h1, h2, h3, h4⟩ := gets_at I hr q
      refine ⟨by simp [h1], by simp [h2], fun k p hp => ?_, fun k i hk => ?_⟩
      · cases k with
        | zero =>
          cases hp
          cases h with
          | val h => exact ⟨v, rfl, h⟩
        | succ k => exact h3 k p hp
      · cases k with
        | zero => cases hk
        | succ k => exact h4 k i hk
  | _, .slot i :: rs, _, os, .cons (v := v) (fp := f) (vs := vs) (l := l) h hr, e => by
    have e' : (match s.env[i]?, gets s rs with
      | some (some o), some os => some (o :: os)
      | _, _ => none) = some os := e
    cases q1 : s.env[i]? with
    | none => rw [q1] at e'; cases e'
    | some x =>
      cases x with
      | none => rw [q1] at e'; cases e'
      | some o =>
        cases q : gets s rs with
        | none => rw [q1, q] at e'; cases e'
        | some os1 =>
          rw [q1, q] at e'
          cases e'
          obtain ⟨h1, h2, h3, h4⟩ := gets_at I hr q
          cases h with
          | slot h hz =>
            refine ⟨by simp [h1], by simp [h2], fun k p hp => ?_, fun k j hk => ?_⟩
            · cases k with
              | zero =>
                cases hp
                exact ⟨v, rfl, I.slotv q1 h⟩
              | succ k => exact h3 k p hp
            · cases k with
              | zero =>
                cases hk
                exact ⟨v, rfl, h, o, q1⟩
              | succ k => exact h4 k j hk
theorem backs_len : ∀ (rs : List Rs) (os : List O) (s : S), (backs rs os s).env.length = s.env.length ∧ (backs rs os s).n = s.n ∧ (backs rs os s).bor = s.bor
  | [], _, _ => ⟨rfl, rfl, rfl⟩
  | .val _ :: rs, [], _ => ⟨rfl, rfl, rfl⟩
  | .slot _ :: rs, [], _ => ⟨rfl, rfl, rfl⟩
  | .val _ :: rs, _ :: os, s => backs_len rs os s
  | .slot i :: rs, o :: os, s => by
    obtain ⟨h1, h2, h3⟩ := backs_len rs os (putO s i o)
    exact ⟨h1.trans (by simp [putO]), h2, h3⟩
theorem backs_out : ∀ {rs : List Rs} {os : List O} {s : S} {i : Nat}, i ∉ slotsOf rs → (backs rs os s).env[i]? = s.env[i]?
  | [], _, _, _, _ => rfl
  | .val _ :: rs, [], _, _, _ => rfl
  | .slot _ :: rs, [], _, _, _ => rfl
  | .val _ :: rs, _ :: os, s, i, h => backs_out (rs := rs) h
  | .slot j :: rs, o :: os, s, i, h => by
    have h' : i ∉ j :: slotsOf rs := h
    have h1 : j ≠ i := fun e => h' (by rw [e]; exact List.mem_cons_self)
    have ih := backs_out (rs := rs) (os := os) (s := putO s j o) (i := i) fun z => h' (List.mem_cons_of_mem _ z)
    show (backs rs os (putO s j o)).env[i]? = _
    rw [ih]
    show (s.env.set j (some o))[i]? = _
    rw [List.getElem?_set_ne h1]
theorem backs_in : ∀ {rs : List Rs} {os : List O} {s : S} {k i : Nat}, (slotsOf rs).Nodup → rs[k]? = some (Rs.slot i) → i < s.env.length → os.length = rs.length → ∃ o, os[k]? = some o ∧ (backs rs os s).env[i]? = some (some o)
  | .val _ :: rs, _ :: os, s, 0, i, _, h, _, _ => by cases h
  | .val _ :: rs, p :: os, s, k + 1, i, nd, h, hi, hl => backs_in (rs := rs) (os := os) (s := s) (k := k) nd h hi (by simpa using hl)
  | .slot j :: rs, o :: os, s, 0, i, nd, h, hi, hl => by
    have ej : j = i := by cases h; rfl
    subst ej
    have nd' : (j :: slotsOf rs).Nodup := nd
    refine ⟨o, rfl, ?_⟩
    show (backs rs os (putO s j o)).env[j]? = _
    rw [backs_out (List.nodup_cons.mp nd').1]
    exact List.getElem?_set_self hi
  | .slot j :: rs, o :: os, s, k + 1, i, nd, h, hi, hl => by
    have nd' : (j :: slotsOf rs).Nodup := nd
    exact backs_in (rs := rs) (os := os) (s := putO s j o) (k := k) (List.nodup_cons.mp nd').2 h (by simpa [putO] using hi) (by simpa using hl)
  | .val _ :: rs, [], _, _, _, _, _, _, hl => by cases hl
  | .slot _ :: rs, [], _, _, _, _, _, _, hl => by cases hl
theorem slotsOf_at : ∀ {rs : List Rs} {i : Nat}, i ∈ slotsOf rs ↔ ∃ k : Nat, rs[k]? = some (Rs.slot i)
  | [], i => Iff.intro (fun h => nomatch h) (fun ⟨k, h⟩ => by cases h)
  | .val o :: rs, i => by
    rw [slotsOf, slotsOf_at]
    constructor
    · rintro ⟨k, h⟩; exact ⟨k + 1, h⟩
    · rintro ⟨k, h⟩
      cases k with
      | zero => cases h
      | succ k => exact ⟨k, h⟩
  | .slot j :: rs, i => by
    rw [slotsOf, List.mem_cons, slotsOf_at]
    constructor
    · rintro (e | ⟨k, h⟩)
      · exact ⟨0, by rw [e]; rfl⟩
      · exact ⟨k + 1, h⟩
    · rintro ⟨k, h⟩
      cases k with
      | zero => cases h; exact .inl rfl
      | succ k => exact .inr ⟨k, h⟩
theorem slots_inj : ∀ {rs : List Rs} {k j i : Nat}, (slotsOf rs).Nodup → rs[k]? = some (Rs.slot i) → rs[j]? = some (Rs.slot i) → k = j
  | .val _ :: rs, 0, _, i, _, h, _ => by cases h
  | .val _ :: rs, k + 1, 0, i, _, _, h => by cases h
  | .val _ :: rs, k + 1, j + 1, i, nd, h, g => congrArg Nat.succ (slots_inj (rs := rs) nd h g)
  | .slot _ :: rs, 0, 0, i, _, _, _ => rfl
  | .slot l :: rs, 0, j + 1, i, nd, h, g => by
    have ej : l = i := by cases h; rfl
    subst ej
    have nd' : (l :: slotsOf rs).Nodup := nd
    exact ((List.nodup_cons.mp nd').1 (slotsOf_at.mpr ⟨j, g⟩)).elim
  | .slot l :: rs, k + 1, 0, i, nd, h, g => by
    have ej : l = i := by cases g; rfl
    subst ej
    have nd' : (l :: slotsOf rs).Nodup := nd
    exact ((List.nodup_cons.mp nd').1 (slotsOf_at.mpr ⟨k, h⟩)).elim
  | .slot _ :: rs, k + 1, j + 1, i, nd, h, g => by
    have nd' : (_ :: slotsOf rs).Nodup := nd
    exact congrArg Nat.succ (slots_inj (rs := rs) (List.nodup_cons.mp nd').2 h g)
/-- into a callee -/
def rCall (R : Ad) (fps : Nat → Ad) (fl : List Ad) : Ad := fun a => Wf R fps a ∧ ¬ AnyF fl a
theorem call_in {vs : List V} {rs : List Rs} {l : List Ad} {os : List O} (I : Iv K T σ0 σ H s (alt R (AnyF l)) fps) (h : RAts K (hid (Wf (alt R (AnyF l)) fps) H) H s.n σ vs rs l) (e : gets s rs = some os) (ap : Apart l) (nd : (slotsOf rs).Nodup) :
    Iv K T (vs.map some) (vs.map some) H ⟨os.map some, s.n, []⟩ (rCall (alt R (AnyF l)) fps (getF fps rs l)) (ofL (getF fps rs l)) ∧ Wf (rCall (alt R (AnyF l)) fps (getF fps rs l)) (ofL (getF fps rs l)) = Wf (alt R (AnyF l)) fps := by
  obtain ⟨h1, h2, h3, h4⟩ := gets_at I h e
  have apF := getF_apart I ap (fun a z => .inr z) nd
  have anyW : ∀ a, AnyF (getF fps rs l) a → Wf (alt R (AnyF l)) fps a := fun a z => by
    rcases anyF_getF z with z | ⟨i, _, z⟩
    · exact .inl (.inr z)
    · exact .inr ⟨i, z⟩
  have eW : Wf (rCall (alt R (AnyF l)) fps (getF fps rs l)) (ofL (getF fps rs l)) = Wf (alt R (AnyF l)) fps := funext fun a => propext ⟨fun z => by
    rcases z with z | ⟨k, z⟩
    · exact z.1
    · exact anyW a (ofL_any z), fun z => by
    by_cases q : AnyF (getF fps rs l) a
    · exact .inr (any_ofL q)
    · exact .inl ⟨z, q⟩⟩
  refine ⟨⟨by simp [h1], fun k o ek => ?_, fun k hk a z => ?_, fun i j a z y => apart_at apF z y, fun i a z y => y.2 (ofL_any z), fun a z => I.live z.1, I.tab, fun _ z => nomatch z⟩, eW⟩
  · obtain ⟨v, hv, hA⟩ := h3 k o (map_at.mp ek)
    rw [eW]
    exact ⟨v, map_at.mpr hv, hA⟩
  · have hl : (getF fps rs l).length ≤ os.length := by
      have : ∀ (rs : List Rs) (l : List Ad), (getF fps rs l).length ≤ rs.length := fun rs => by
        induction rs with
        | nil => intro l; cases l <;> exact Nat.zero_le _
        | cons r rs ih =>
          intro l
          cases r <;> cases l <;> simp [getF]
          · exact ih _
          · exact ih _
      exact Nat.le_trans (this rs l) (by omega)
    by_cases q : k < os.length
    · exact hk os[k] (map_at.mpr (List.getElem?_eq_getElem q))
    · have z' : ((getF fps rs l)[k]?).getD nol a := z
      rw [List.getElem?_eq_none (by omega)] at z'
      exact z'
/-- back from a callee -/
theorem call_out {vs : List V} {rs : List Rs} {l : List Ad} {os os' : List O} {H' : Hp} {n' : Nat} {fpc : Nat → Ad} (G0 : Go K T σ0 H0 s0 R fps0 σ H s (alt R (AnyF l)) fps) (h : RAts K (hid (Wf (alt R (AnyF l)) fps) H) H s.n σ vs rs l) (nR : ∀ a, AnyF l a → ¬ R a)
    (e : gets s rs = some os) (ap : Apart l) (nd : (slotsOf rs).Nodup)
    (g : Go K T (vs.map some) H ⟨os.map some, s.n, []⟩ (rCall (alt R (AnyF l)) fps (getF fps rs l)) (ofL (getF fps rs l)) (vs.map some) H' ⟨os'.map some, n', []⟩ (alt (rCall (alt R (AnyF l)) fps (getF fps rs l)) fp) fpc) (nfp : ∀ a, fp a → ¬ rCall (alt R (AnyF l)) fps (getF fps rs l) a) :
    ∃ fps2, Go K T σ0 H0 s0 R fps0 σ H' (backs rs os' ⟨s.env, n', s.bor⟩) (alt R fp) fps2 ∧ Gr (Wf (alt (rCall (alt R (AnyF l)) fps (getF fps rs l)) fp) fpc) H' (Wf (alt R fp) fps2) H' ∧ ∀ a, fp a → ¬ R a := by
  have I := G0.iv
  obtain ⟨h1, h2, h3, h4⟩ := gets_at I h e
  obtain ⟨I1, eW⟩ := call_in I h e ap nd
  have J := g.iv
  have ol : os'.length = vs.length := by
    have := J.len
    simpa using this.symm
  have rsub : ∀ a, R a → rCall (alt R (AnyF l)) fps (getF fps rs l) a := fun a z => ⟨.inl (.inl z), fun y => by
    rcases anyF_getF y with y | ⟨i, _, y⟩
    · exact nR a y z
    · exact I.disR i a y (.inl z)⟩
  have fsub : ∀ i a, i ∉ slotsOf rs → fps i a → rCall (alt R (AnyF l)) fps (getF fps rs l) a := fun i a hi z => ⟨.inr ⟨i, z⟩, fun y => by
    rcases anyF_getF y with y | ⟨j, hj, y⟩
    · exact I.disR i a z (.inr y)
    · rw [I.dis i j a z y] at hi
      exact hi hj⟩
  have nfR : ∀ a, fp a → ¬ R a := fun a z y => nfp a z (rsub a y)
  let fps2 : Nat → Ad := fun i a => (∃ k : Nat, rs[k]? = some (Rs.slot i) ∧ fpc k a) ∨ (i ∉ slotsOf rs ∧ fps i a)
  have sub : ∀ a, Wf (alt R fp) fps2 a → Wf (alt (rCall (alt R (AnyF l)) fps (getF fps rs l)) fp) fpc a := fun a z => by
    rcases z with (z | z) | ⟨i, ⟨k, _, z⟩ | ⟨hi, z⟩⟩
    · exact .inl (.inl (rsub a z))
    · exact .inl (.inr z)
    · exact .inr ⟨k, z⟩
    · exact .inl (.inl (fsub i a hi z))
  have gs : Gr (Wf (alt (rCall (alt R (AnyF l)) fps (getF fps rs l)) fp) fpc) H' (Wf (alt R fp) fps2) H' := gr_sub sub
  have gr1 : Gr (Wf (alt R (AnyF l)) fps) H (Wf (alt R fp) fps2) H' := by
    have := g.gr
    rw [eW] at this
    exact this.trans gs
  obtain ⟨b1, b2, b3⟩ := backs_len rs os' ⟨s.env, n', s.bor⟩
  refine ⟨fps2, ⟨⟨?_, fun i o ei => ?_, fun i hi a z => ?_, fun i j a z y => ?_, fun i a z y => ?_, fun a z => ?_, J.tab, fun i hi => ?_⟩, fun a z => (g.kp a (rsub a z)).trans (G0.kp a z), G0.gr.trans gr1, b3.trans G0.bo, ?_, fun _ z => .inl z⟩, gs, nfR⟩
  · rw [b1]; exact I.len
  · rw [b2]
    by_cases hi : i ∈ slotsOf rs
    · obtain ⟨k, hk⟩ := slotsOf_at.mp hi
      obtain ⟨v, hv, hσ, o0, ho0⟩ := h4 k i hk
      obtain ⟨o', ho', hb⟩ := backs_in (s := ⟨s.env, n', s.bor⟩) nd hk (List.getElem?_eq_some_iff.mp ho0).1 (ol.trans h2.symm)
      rw [hb] at ei
      cases ei
      obtain ⟨w, hw, hA⟩ := J.at_ k o (map_at.mpr ho')
      have ew := map_at.mp hw
      rw [hv] at ew
      cases ew
      refine ⟨v, hσ, (hA.keep gs (fun _ _ => rfl) (Nat.le_refl _)).fpc fun a => ⟨fun z => ?_, fun z => .inl ⟨k, hk, z⟩⟩⟩
      rcases z with ⟨j, hj, z⟩ | ⟨z, _⟩
      · rw [slots_inj nd hk hj]; exact z
      · exact (z hi).elim
    · rw [backs_out hi] at ei
      obtain ⟨v, hv, hA⟩ := I.at_ i o ei
      refine ⟨v, hv, (hA.keep gr1 (fun a z => g.kp a (fsub i a hi z)) g.le).fpc fun a => ⟨fun z => ?_, fun z => .inr ⟨hi, z⟩⟩⟩
      rcases z with ⟨j, hj, _⟩ | ⟨_, z⟩
      · exact (hi (slotsOf_at.mpr ⟨j, hj⟩)).elim
      · exact z
  · rcases z with ⟨k, hk, z⟩ | ⟨hn, z⟩
    · obtain ⟨v, hv, hσ, o0, ho0⟩ := h4 k i hk
      obtain ⟨o', ho', hb⟩ := backs_in (s := ⟨s.env, n', s.bor⟩) nd hk (List.getElem?_eq_some_iff.mp ho0).1 (ol.trans h2.symm)
      exact hi o' hb
    · exact I.emp i (fun o e => hi o (by rw [backs_out hn]; exact e)) a z
  · rcases z with ⟨k, hk, z⟩ | ⟨hn, z⟩
    · rcases y with ⟨k', hk', y⟩ | ⟨hn', y⟩
      · have ek := J.dis k k' a z y
        rw [ek, hk'] at hk
        cases hk; rfl
      · exact (J.disR k a z (.inl (fsub j a hn' y))).elim
    · rcases y with ⟨k', hk', y⟩ | ⟨hn', y⟩
      · exact (J.disR k' a y (.inl (fsub i a hn z))).elim
      · exact I.dis i j a z y
  · rcases z with ⟨k, hk, z⟩ | ⟨hn, z⟩
    · rcases y with y | y
      · exact J.disR k a z (.inl (rsub a y))
      · exact J.disR k a z (.inr y)
    · rcases y with y | y
      · exact I.disR i a z (.inl y)
      · exact nfp a y (fsub i a hn z)
  · rcases z with z | z
    · exact J.liv a (.inl (rsub a z))
    · exact J.liv a (.inr z)
  · rw [b3] at hi
    exact I.bor i hi
  · rw [b2]
    exact Nat.le_trans G0.le g.le
/-- a call of a def by its contract -/
theorem sim_call {G : Den} {ta : TA} {m : MA} (ha : SimA K T W ta m) : SimE K T W (tCallS (spM K T G) (fun σ cls d H => W cls d σ H) ta) (mCall G m) := by
  intro σ0 σ H s R fps I Qm Xm hm hx Q hQ
  refine ha σ0 σ H s R fps I _ Xm hm hx _ fun vs H1 s1 rs l fps1 g hrs ap nR q => ?_
  split at q
  · rename_i os e
    obtain ⟨nd, q⟩ := q
    obtain ⟨I1, eW⟩ := call_in g.iv hrs e ap nd
    refine ⟨os, s1.n, _, _, _, _, I1, q, fun v H2 o os' n' fp fpc g2 hA nfp z => ?_, fun C H2 os' n' fpc g2 z => ?_⟩
    · obtain ⟨fps2, g3, gs, nf⟩ := call_out g hrs nR e ap nd g2 nfp
      obtain ⟨b1, b2, b3⟩ := backs_len rs os' ⟨s1.env, n', s1.bor⟩
      refine hQ v H2 _ (.val o) fp fps2 g3 (.val ?_) nf z
      rw [b2]
      exact hA.keep gs (fun _ _ => rfl) (Nat.le_refl _)
    · obtain ⟨fps2, g3, gs, nf⟩ := call_out (fp := nol) g hrs nR e ap nd (g2.alt0 fun _ z => z) (fun _ z => z.elim)
      rw [alt_nol] at g3
      exact hx C H2 _ fps2 g3 z
  · exact q.elim
/-- .. that raises nothing here -/
theorem sim_call0 {G : Den} {ta : TA} {m : MA} (ha : SimA K T W ta m) : SimE K T W (tCall (spM K T G) [] E0 ta) (fun s Q X => mCall G m s Q fun _ _ => False) := by
  intro σ0 σ H s R fps I Qm Xm hm hx Q hQ
  refine ha σ0 σ H s R fps I _ (fun _ _ => False) hm (fun _ _ _ _ _ z => z.elim) _ fun vs H1 s1 rs l fps1 g hrs ap nR q => ?_
  split at q
  · rename_i os e
    obtain ⟨nd, q⟩ := q
    obtain ⟨I1, eW⟩ := call_in g.iv hrs e ap nd
    rw [List.append_nil]
    refine ⟨os, s1.n, _, _, _, _, I1, q, fun v H2 o os' n' fp fpc g2 hA nfp z => ?_, fun C H2 os' n' fpc g2 z => z.elim⟩
    obtain ⟨fps2, g3, gs, nf⟩ := call_out g hrs nR e ap nd g2 nfp
    obtain ⟨b1, b2, b3⟩ := backs_len rs os' ⟨s1.env, n', s1.bor⟩
    refine hQ v H2 _ (.val o) fp fps2 g3 (.val ?_) nf z
    rw [b2]
    exact hA.keep gs (fun _ _ => rfl) (Nat.le_refl _)
  · exact q.elim
end
end Mk

/-! part Mk9 -/
/-! Mk, part 9: operations. -/
namespace Mk
open PySem PySem.Spec PyProof.Rows L2 Evl Lk LamX
abbrev FO : Type := (O → Prop) → Prop
def lift1 (r : V → Hp → VK → Prop) : List V → Hp → VK → Prop := fun xs H Q => match xs with
  | [x] => r x H Q
  | _ => False
def lift2 (r : R2) : List V → Hp → VK → Prop := fun xs H Q => match xs with
  | [x, y] => r x y H Q
  | _ => False
def fl1 (f : PyData → FO) : List PyData → FO := fun ds Q => match ds with
  | [d] => f d Q
  | _ => False
def fl2 (f : PyData → PyData → FO) : List PyData → FO := fun ds Q => match ds with
  | [d, e] => f d e Q
  | _ => False
def PS1 (K : PySem.W.Frag) (r : V → Hp → VK → Prop) (f : PyData → FO) : Prop := ∀ F H x d Qo Q, Ex F H → VAt K F H x d → f d Qo → (∀ v H' o, Res K F H v H' o → Qo o → Q v H') → r x H Q
def PS2 (K : PySem.W.Frag) (r : R2) (f : PyData → PyData → FO) : Prop := ∀ F H x y d e Qo Q, Ex F H → VAt K F H x d → VAt K F H y e → f d e Qo → (∀ v H' o, Res K F H v H' o → Qo o → Q v H') → r x y H Q
section
variable {K : PySem.W.Frag}
theorem psim1 {r : V → Hp → VK → Prop} {f : PyData → FO} (h : PS1 K r f) : PSim K (lift1 r) (fl1 f) := fun F H vs ds Qo Q e hv hf k => by
  cases hv with
  | nil => exact hf.elim
  | cons h1 h2 =>
    cases h2 with
    | nil => exact h F H _ _ Qo Q e h1 hf k
    | cons _ _ => exact hf.elim
theorem psim2 {r : R2} {f : PyData → PyData → FO} (h : PS2 K r f) : PSim K (lift2 r) (fl2 f) := fun F H vs ds Qo Q e hv hf k => by
  cases hv with
  | nil => exact hf.elim
  | cons h1 h2 =>
    cases h2 with
    | nil => exact hf.elim
    | cons h2 h3 =>
      cases h3 with
      | nil => exact h F H _ _ _ _ Qo Q e h1 h2 hf k
      | cons _ _ => exact hf.elim
end
def mOp (f : PyData → PyData → FO) (a b : ME) : ME := mCB (fl2 f) (mCons a (mCons b mNil))
def mUn (f : PyData → FO) (a : ME) : ME := mCB (fl1 f) (mCons a mNil)
section
variable {K : PySem.W.Frag} {T : List (Addr × Str)} {W : WX}
theorem sim_op {r : R2} {f : PyData → PyData → FO} {ta tb : TE} {a b : ME} (h : PS2 K r f) (ha : SimE K T W ta a) (hb : SimE K T W tb b) : SimE K T W (tOp r ta tb) (mOp f a b) :=
  (sim_cb (psim2 h) (sim_cons ha (sim_cons hb sim_nil)) : SimE K T W (tCB (lift2 r) (tCons ta (tCons tb tNil))) (mOp f a b))
theorem sim_un {r : V → Hp → VK → Prop} {f : PyData → FO} {ta : TE} {a : ME} (h : PS1 K r f) (ha : SimE K T W ta a) : SimE K T W (tUn r ta) (mUn f a) :=
  (sim_cb (psim1 h) (sim_cons ha sim_nil) : SimE K T W (tCB (lift1 r) (tCons ta tNil)) (mUn f a))
end
/-! ### either rule -/
def orR (r q : R2) : R2 := fun x y H Q => r x y H Q ∨ q x y H Q
theorem opOr {X : Cx} {f : Value → Value → Sem Value} {r q : R2} (a : OpR X f r) (b : OpR X f q) : OpR X f (orR r q) := fun pins s σ H x y v u Q I rx ry h => h.elim (a pins s σ H x y v u Q I rx ry) (b pins s σ H x y v u Q I rx ry)
def orC (r q : List V → Hp → VK → Prop) : List V → Hp → VK → Prop := fun xs H Q => r xs H Q ∨ q xs H Q
theorem callOr {X : Cx} {f : Value} {r q : List V → Hp → VK → Prop} (a : CallR X f r) (b : CallR X f q) : CallR X f (orC r q) := fun pins s σ H xs us Q I rx h => h.elim (a pins s σ H xs us Q I rx) (b pins s σ H xs us Q I rx)
def orS (r q : V → Option Int → Option Int → Hp → VK → Prop) : V → Option Int → Option Int → Hp → VK → Prop := fun x lo hi H Q => r x lo hi H Q ∨ q x lo hi H Q
theorem slOr {X : Cx} {r q : V → Option Int → Option Int → Hp → VK → Prop} (a : SlR X r) (b : SlR X q) : SlR X (orS r q) := fun pins s σ H x v vl vu lo hi sl Q I rx hs pl pu h =>
  h.elim (a pins s σ H x v vl vu lo hi sl Q I rx hs pl pu) (b pins s σ H x v vl vu lo hi sl Q I rx hs pl pu)
/-! ### l + m, whatever lists -/
def rCatL (K : PySem.W.Frag) : R2 := fun x y H Q => ∃ l b xs zs, x = .ref l ∧ y = .ref b ∧ SqL K H l xs ∧ SqL K H b zs ∧ xs.length + zs.length ≤ sizeLine ∧ ∀ p, H p = none → Q (.ref p) (upd H p (.lst (xs ++ zs)))
theorem op_catL {X : Cx} : OpR X (binaryOp .Add) (rCatL X.K) := by
  rintro pins s σ H x y v u Q I rx ry ⟨l, b, xs, zs, rfl, rfl, h1, h2, hz, q⟩
  cases rx
  cases ry
  obtain ⟨is, r1, p1, _⟩ := I.list h1
  obtain ⟨js, r2, p2, _⟩ := I.list h2
  obtain ⟨⟨c1, d1, t1, l1⟩, e1, rfl, n1, rfl⟩ := p1.isList
  obtain ⟨⟨c2, d2, t2, l2⟩, e2, rfl, n2, rfl⟩ := p2.isList
  have z1 := r1.length
  have z2 := r2.length
  refine concat_meets ⟨_, e1, rfl⟩ ⟨_, e2, rfl⟩ noFill_list_add seq_list_add PySem.F.slot_list_add PySem.F.entry_list_add (PySem.F.args_list_add_2 _ _)
    (list_addW l b is.toArray js.toArray n1 n2 d1 d2 l1 l2 (by rw [List.size_toArray, List.size_toArray, ← z1, ← z2]; exact hz)) ⟨e1, e2, ?_⟩
  have ea : is.toArray ++ js.toArray = (is ++ js).toArray := by simp
  rw [ea]
  exact ⟨.ref _, _, I.lnew (t' := s.toks) (r1.append r2) (by rw [List.length_append]; exact hz), rfl, q _ I.fresh⟩
/-! ### + -/
def fAdd : PyData → PyData → FO
  | .int a, .int b, Q => Q (.dat (.int (a + b)))
  | .str a, .str b, Q => a.length + b.length ≤ 100000 ∧ Q (.dat (.str (a ++ b)))
  | .list xs, .list ys, Q => xs.length + ys.length ≤ 100000 ∧ Q (.lst (xs ++ ys))
  | .tuple xs, .tuple ys, Q => xs.length + ys.length ≤ 100000 ∧ Q (.dat (.tuple (xs ++ ys)))
  | _, _, _ => False
def rAddS : R2 := fun x y H Q => ∃ i j, x = .str i ∧ y = .str j ∧ i.length + j.length ≤ sizeLine ∧ Q (.str (i ++ j)) H
def rAdd4 (K : PySem.W.Frag) : R2 := orR (rI0 fun i j => .int (i + j)) (orR rAddS (orR (rCatL K) (rCatA K)))
section
variable {K : PySem.W.Frag}
theorem ps_add : PS2 K (rAdd4 K) fAdd := by
  intro F H x y d e Qo Q ex hx hy hf k
  cases d <;> cases e <;> first
    | exact hf.elim
    | skip
  · obtain rfl := hx.int
    obtain rfl := hy.int
    exact .inl ⟨_, _, rfl, rfl, k _ _ _ (.dat (.int _)) hf⟩
  · obtain rfl := hx.str
    obtain rfl := hy.str
    exact .inr (.inl ⟨_, _, rfl, rfl, sz_of hf.1, k _ _ _ (.dat (.str _)) hf.2⟩)
  · obtain ⟨a, xs, rfl, h1, h2⟩ := hx.list ex
    obtain ⟨b, ys, rfl, h3, h4⟩ := hy.list ex
    refine .inr (.inr (.inl ⟨a, b, xs, ys, rfl, rfl, h1, h3, sz_of (by rw [dps_len h2, dps_len h4]; exact hf.1), fun p hp => k _ _ _ (.lst hp (dps_app h2 h4)) hf.2⟩))
  · rename_i ds es
    obtain ⟨a, xs, rfl, h1, h2⟩ := hx.tuple ex
    obtain ⟨b, ys, rfl, h3, h4⟩ := hy.tuple ex
    refine .inr (.inr (.inr ⟨a, b, xs, ys, rfl, rfl, h1, h3, sz_of (by rw [dps_len h2, dps_len h4]; exact hf.1), fun z => ?_, fun _ z => ?_, fun _ _ p hp => k _ _ _ (.tup hp (dps_app h2 h4)) hf.2⟩))
    · subst z
      cases h2
      cases hy with
      | dq hy => exact k _ _ _ (.dat hy) hf.2
    · subst z
      cases h4
      cases hx with
      | dq hx =>
        have hf2 : Qo (.dat (.tuple (ds ++ []))) := hf.2
        rw [List.append_nil] at hf2
        exact k _ _ _ (.dat hx) hf2
end
/-! ### ints -/
def fI2 (C : Int → Int → Prop) (g : Int → Int → Int) : PyData → PyData → FO
  | .int a, .int b, Q => C a b ∧ Q (.dat (.int (g a b)))
  | _, _, _ => False
def fI0 (g : Int → Int → Int) : PyData → PyData → FO
  | .int a, .int b, Q => Q (.dat (.int (g a b)))
  | _, _, _ => False
def fNeg : PyData → FO
  | .int a, Q => Q (.dat (.int (-a)))
  | _, _ => False
section
variable {K : PySem.W.Frag}
theorem ps_I2 {C : Int → Int → Prop} {g : Int → Int → Int} : PS2 K (rI C fun i j => .int (g i j)) (fI2 C g) := by
  intro F H x y d e Qo Q ex hx hy hf k
  cases d <;> cases e <;> first
    | exact hf.elim
    | skip
  obtain rfl := hx.int
  obtain rfl := hy.int
  exact ⟨_, _, rfl, rfl, hf.1, k _ _ _ (.dat (.int _)) hf.2⟩
theorem ps_I0 {g : Int → Int → Int} : PS2 K (rI0 fun i j => .int (g i j)) (fI0 g) := by
  intro F H x y d e Qo Q ex hx hy hf k
  cases d <;> cases e <;> first
    | exact hf.elim
    | skip
  obtain rfl := hx.int
  obtain rfl := hy.int
  exact ⟨_, _, rfl, rfl, k _ _ _ (.dat (.int _)) hf⟩
theorem ps_neg : PS1 K (rU fun i => .int (-i)) fNeg := by
  intro F H x d Qo Q ex hx hf k
  cases d <;> first
    | exact hf.elim
    | skip
  obtain rfl := hx.int
  exact ⟨_, rfl, k _ _ _ (.dat (.int _)) hf⟩
end
def fSub : PyData → PyData → FO := fI0 fun a b => a - b
def fFdiv : PyData → PyData → FO := fI2 CDivW fun a b => a / b
def fMod : PyData → PyData → FO := fI2 (fun _ b => 0 < b) fun a b => a % b
def fPow : PyData → PyData → FO := fI2 CPow fun a b => a ^ b.toNat
/-- products: one factor below 2^64, or both together below a million bits; a tuple so many times -/
def CMulA (i j : Int) : Prop := CMul i j ∨ CMulW i j
def fMul : PyData → PyData → FO
  | .int a, .int b, Q => CMulA a b ∧ Q (.dat (.int (a * b)))
  | .tuple xs, .int k, Q => xs ≠ [] ∧ 2 ≤ k ∧ k ≤ 1000 ∧ xs.length ≤ 1000 ∧ Q (.dat (.tuple (List.replicate k.toNat xs).flatten))
  | _, _, _ => False
def rMul3 (K : PySem.W.Frag) : R2 := orR (rI CMul fun i j => .int (i * j)) (orR (rI CMulW fun i j => .int (i * j)) (rRepT K))
theorem dps_rep {K : PySem.W.Frag} {F : Hp} {xs : List V} {ds : List PyData} (h : DqAll K F xs ds) : ∀ n, DqAll K F (List.replicate n xs).flatten (List.replicate n ds).flatten
  | 0 => .nil
  | n + 1 => by
    rw [List.replicate_succ, List.replicate_succ, List.flatten_cons, List.flatten_cons]
    exact dps_app h (dps_rep h n)
section
variable {K : PySem.W.Frag}
theorem ps_mul : PS2 K (rMul3 K) fMul := by
  intro F H x y d e Qo Q ex hx hy hf k
  cases d <;> cases e <;> first
    | exact hf.elim
    | skip
  · obtain rfl := hx.int
    obtain rfl := hy.int
    rcases hf.1 with h | h
    · exact .inl ⟨_, _, rfl, rfl, h, k _ _ _ (.dat (.int _)) hf.2⟩
    · exact .inr (.inl ⟨_, _, rfl, rfl, h, k _ _ _ (.dat (.int _)) hf.2⟩)
  · obtain rfl := hy.int
    obtain ⟨a, xs, rfl, h1, h2⟩ := hx.tuple ex
    obtain ⟨hn, h3, h4, h5, q⟩ := hf
    refine .inr (.inr ⟨a, _, xs, rfl, rfl, h1, fun z => hn ?_, h3, h4, by rw [dps_len h2]; exact h5, fun p hp => k _ _ _ (.tup hp (dps_rep h2 _)) q⟩)
    subst z
    cases h2
    rfl
end
/-! ### ==, != -/
def eqd (d e : PyData) : Bool := PyData.eqv d e
/-- what may be compared: data of the known shape; any tuple with the empty one -/
def eqOk (d e : PyData) : Prop := (SeqAt.shaped d = true ∧ SeqAt.shaped e = true) ∨ ((∃ ds, d = .tuple ds) ∧ e = .tuple [])
def fEq : PyData → PyData → FO := fun d e Q => eqOk d e ∧ Q (.dat (.bool (eqd d e)))
theorem eqd_nil {ds : List PyData} : eqd (.tuple ds) (.tuple []) = decide (ds.length = 0) := by
  unfold eqd
  cases ds <;> simp [PyData.eqv, PyData.eqvAll]
def fNe : PyData → PyData → FO := fun d e Q => SeqAt.shaped d = true ∧ SeqAt.shaped e = true ∧ Q (.dat (.bool (!eqd d e)))
section
variable {K : PySem.W.Frag}
theorem ps_eq : PS2 K (orR (rEqD K) (rEqNil K)) fEq := fun F H x y d e Qo Q ex hx hy hf k => by
  rcases hf with ⟨⟨h1, h2⟩ | ⟨⟨ds, rfl⟩, rfl⟩, q⟩
  · exact .inl ⟨d, e, sh_dp h1 (hx.full ex), sh_dp h2 (hy.full ex), h1, h2, k _ _ _ (.dat (.bl _)) q⟩
  · obtain ⟨a, xs, rfl, ha, hxs⟩ := hx.tuple ex
    obtain ⟨b, ys, rfl, hb, hys⟩ := hy.tuple ex
    cases hys
    refine .inr ⟨a, b, xs, rfl, rfl, ha, hb, k _ _ _ (.dat (.bl _)) ?_⟩
    rw [eqd_nil, ← dps_len hxs] at q
    exact q
theorem ps_ne : PS2 K (rNeD K) fNe := fun F H x y d e Qo Q ex hx hy hf k => ⟨d, e, sh_dp hf.1 (hx.full ex), sh_dp hf.2.1 (hy.full ex), hf.1, hf.2.1, k _ _ _ (.dat (.bl _)) hf.2.2⟩
end
/-! ### <, <=, >, >= -/
def intsOf? : List PyData → Option (List Int)
  | [] => some []
  | .int i :: ds => match intsOf? ds with
    | some is => some (i :: is)
    | none => none
  | _ :: _ => none
theorem intsOf_some : ∀ {ds : List PyData} {is : List Int}, intsOf? ds = some is → ds = is.map PyData.int
  | [], is, h => by cases h; rfl
  | d :: ds, is, h => by
    cases d with
    | int i =>
      have h' : (match intsOf? ds with | some is => some (i :: is) | none => none) = some is := h
      cases q : intsOf? ds with
      | none => rw [q] at h'; cases h'
      | some js =>
        rw [q] at h'
        cases h'
        rw [intsOf_some q]; rfl
    | none => cases h
    | bool _ => cases h
    | str _ => cases h
    | list _ => cases h
    | tuple _ => cases h
    | dict _ => cases h
def leTup (ns ms : List Int) : Bool := Ob.lexAt (fun j => decide (ns.getD j 0 = ms.getD j 0)) (fun j => decide (ns.getD j 0 ≤ ms.getD j 0)) (decide (ns.length ≤ ms.length)) 0 (min ns.length ms.length)
def fCmp (f : Int → Int → Bool) (g : Str → Str → Bool) : PyData → PyData → FO
  | .int a, .int b, Q => Q (.dat (.bool (f a b)))
  | .str a, .str b, Q => Q (.dat (.bool (g a b)))
  | _, _, _ => False
def fLt : PyData → PyData → FO := fCmp (fun a b => decide (a < b)) fun a b => decide (a.cps.toList < b.cps.toList)
def fGt : PyData → PyData → FO := fCmp (fun a b => decide (b < a)) fun a b => decide (b.cps.toList < a.cps.toList)
def fGe : PyData → PyData → FO := fCmp (fun a b => decide (b ≤ a)) fun a b => !decide (a.cps.toList < b.cps.toList)
def fLe : PyData → PyData → FO
  | .tuple ds, .tuple es, Q => match intsOf? ds, intsOf? es with
    | some ns, some ms => Q (.dat (.bool (leTup ns ms)))
    | _, _ => False
  | d, e, Q => fCmp (fun a b => decide (a ≤ b)) (fun a b => !decide (b.cps.toList < a.cps.toList)) d e Q
def rSS (g : Str → Str → Bool) : R2 := fun x y H Q => ∃ i j, x = .str i ∧ y = .str j ∧ Q (.bl (g i j)) H
section
variable {K : PySem.W.Frag}
theorem ps_cmp {f : Int → Int → Bool} {g : Str → Str → Bool} : PS2 K (orR (rI0 fun i j => .bl (f i j)) (rSS g)) (fCmp f g) := by
  intro F H x y d e Qo Q ex hx hy hf k
  cases d <;> cases e <;> first
    | exact hf.elim
    | skip
  · obtain rfl := hx.int
    obtain rfl := hy.int
    exact .inl ⟨_, _, rfl, rfl, k _ _ _ (.dat (.bl _)) hf⟩
  · obtain rfl := hx.str
    obtain rfl := hy.str
    exact .inr ⟨_, _, rfl, rfl, k _ _ _ (.dat (.bl _)) hf⟩
theorem ps_le : PS2 K (orR (rLeT K) (orR (rI0 fun i j => .bl (decide (i ≤ j))) (rSS fun a b => !decide (b.cps.toList < a.cps.toList)))) fLe := by
  intro F H x y d e Qo Q ex hx hy hf k
  by_cases ht : ∃ ds es, d = .tuple ds ∧ e = .tuple es
  · obtain ⟨ds, es, rfl, rfl⟩ := ht
    have hf' : (match intsOf? ds, intsOf? es with
      | some ns, some ms => Qo (.dat (.bool (leTup ns ms)))
      | _, _ => False) := hf
    split at hf'
    · rename_i ns ms e1 e2
      obtain rfl := intsOf_some e1
      obtain rfl := intsOf_some e2
      obtain ⟨a, xs, rfl, h1, h2⟩ := hx.tuple ex
      obtain ⟨b, ys, rfl, h3, h4⟩ := hy.tuple ex
      obtain rfl := dps_ints_of h2
      obtain rfl := dps_ints_of h4
      exact .inl ⟨a, b, ns, ms, rfl, rfl, h1, h3, k _ _ _ (.dat (.bl _)) hf'⟩
    · exact hf'.elim
  · refine .inr (ps_cmp F H x y d e Qo Q ex hx hy ?_ k)
    unfold fLe at hf
    split at hf
    · exact (ht ⟨_, _, rfl, rfl⟩).elim
    · exact hf
end
/-! ### in, not in -/
def inB (d e : PyData) : Option Bool := match e with
  | .list ds => if SeqAt.shaped d && SeqAt.shaped (.list ds) then some (ds.any fun z => PyData.eqv z d) else none
  | .tuple ds => if SeqAt.shaped d && SeqAt.shaped (.tuple ds) then some (ds.any fun z => PyData.eqv z d) else none
  | .str z => match d with
    | .str ⟨cs⟩ => match cs.toList with
      | [c] => some (decide (c ∈ z.cps.toList))
      | _ => none
    | _ => none
  | _ => none
def fIn : PyData → PyData → FO := fun d e Q => match inB d e with
  | some b => Q (.dat (.bool b))
  | none => False
def fNotIn : PyData → PyData → FO := fun d e Q => match inB d e with
  | some b => Q (.dat (.bool (!b)))
  | none => False
def rIn3 (K : PySem.W.Frag) : R2 := orR (rInD K) (orR (rInDT K false) fun x y H Q => ∃ (c : Nat) (z : Str), x = .str ⟨#[c]⟩ ∧ y = .str z ∧ Q (.bl (decide (c ∈ z.cps.toList))) H)
def rNotIn3 (K : PySem.W.Frag) : R2 := orR (rNotInD K) (orR (rInDT K true) fun x y H Q => ∃ (c : Nat) (z : Str), x = .str ⟨#[c]⟩ ∧ y = .str z ∧ Q (.bl (!decide (c ∈ z.cps.toList))) H)
theorem inB_cases {d e : PyData} {b : Bool} (h : inB d e = some b) :
    (∃ ds, e = .list ds ∧ SeqAt.shaped d = true ∧ SeqAt.shaped e = true ∧ b = ds.any fun z => PyData.eqv z d) ∨ (∃ ds, e = .tuple ds ∧ SeqAt.shaped d = true ∧ SeqAt.shaped e = true ∧ b = ds.any fun z => PyData.eqv z d) ∨
    ∃ c z, d = .str ⟨#[c]⟩ ∧ e = .str z ∧ b = decide (c ∈ z.cps.toList) := by
  unfold inB at h
  split at h
  · rename_i ds
    split at h
    · rename_i q
      rw [Bool.and_eq_true] at q
      exact .inl ⟨ds, rfl, q.1, q.2, (Option.some.inj h).symm⟩
    · cases h
  · rename_i ds
    split at h
    · rename_i q
      rw [Bool.and_eq_true] at q
      exact .inr (.inl ⟨ds, rfl, q.1, q.2, (Option.some.inj h).symm⟩)
    · cases h
  · rename_i z
    split at h
    · rename_i cs
      split at h
      · rename_i c q
        refine .inr (.inr ⟨c, z, ?_, rfl, (Option.some.inj h).symm⟩)
        have e1 : cs = #[c] := by
          apply Array.ext'
          rw [q]
        rw [e1]
      · cases h
    · cases h
  · cases h
section
variable {K : PySem.W.Frag}
theorem ps_in : PS2 K (rIn3 K) fIn := by
  intro F H x y d e Qo Q ex hx hy hf k
  unfold fIn at hf
  split at hf
  · rename_i b q
    have fin := k (.bl b) H _ (.dat (.bl b)) hf
    rcases inB_cases q with ⟨ds, rfl, s1, s2, eb⟩ | ⟨ds, rfl, s1, s2, eb⟩ | ⟨c, z, rfl, rfl, eb⟩
    · exact .inl ⟨d, ds, sh_dp s1 (hx.full ex), sh_dp s2 (hy.full ex), s1, s2, eb ▸ fin⟩
    · exact .inr (.inl ⟨d, ds, sh_dp s1 (hx.full ex), sh_dp s2 (hy.full ex), s1, s2, eb ▸ fin⟩)
    · exact .inr (.inr ⟨c, z, hx.str, hy.str, eb ▸ fin⟩)
  · exact hf.elim
theorem ps_notIn : PS2 K (rNotIn3 K) fNotIn := by
  intro F H x y d e Qo Q ex hx hy hf k
  unfold fNotIn at hf
  split at hf
  · rename_i b q
    have fin := k (.bl (!b)) H _ (.dat (.bl (!b))) hf
    rcases inB_cases q with ⟨ds, rfl, s1, s2, eb⟩ | ⟨ds, rfl, s1, s2, eb⟩ | ⟨c, z, rfl, rfl, eb⟩
    · exact .inl ⟨d, ds, sh_dp s1 (hx.full ex), sh_dp s2 (hy.full ex), s1, s2, eb ▸ fin⟩
    · exact .inr (.inl ⟨d, ds, sh_dp s1 (hx.full ex), sh_dp s2 (hy.full ex), s1, s2, eb ▸ fin⟩)
    · exact .inr (.inr ⟨c, z, hx.str, hy.str, eb ▸ fin⟩)
  · exact hf.elim
end
/-! ### is None, is True -/
def isNone : PyData → Bool
  | .none => true
  | _ => false
theorem VAt.non_iff {K : PySem.W.Frag} {F H : Hp} {x : V} {d : PyData} (h : VAt K F H x d) : decide (x = .non) = isNone d := by
  cases h with
  | dq h => cases h <;> rfl
  | lst h _ => rfl
  | dct0 h => rfl
def fIsN : PyData → PyData → FO
  | d, .none, Q => Q (.dat (.bool (isNone d)))
  | _, _, _ => False
def fNotN : PyData → PyData → FO
  | d, .none, Q => Q (.dat (.bool (!isNone d)))
  | _, _, _ => False
def fIsB : PyData → PyData → FO
  | .bool a, .bool b, Q => Q (.dat (.bool (decide (a = b))))
  | _, _, _ => False
def fNotB : PyData → PyData → FO
  | .bool a, .bool b, Q => Q (.dat (.bool (!decide (a = b))))
  | _, _, _ => False
section
variable {K : PySem.W.Frag}
theorem ps_isN : PS2 K (fun x y H Q => y = .non ∧ Q (.bl (decide (x = .non))) H) fIsN := by
  intro F H x y d e Qo Q ex hx hy hf k
  cases e <;> first
    | exact hf.elim
    | skip
  refine ⟨hy.none, ?_⟩
  rw [hx.non_iff]
  exact k _ _ _ (.dat (.bl _)) hf
theorem ps_notN : PS2 K (fun x y H Q => y = .non ∧ Q (.bl (!decide (x = .non))) H) fNotN := by
  intro F H x y d e Qo Q ex hx hy hf k
  cases e <;> first
    | exact hf.elim
    | skip
  refine ⟨hy.none, ?_⟩
  rw [hx.non_iff]
  exact k _ _ _ (.dat (.bl _)) hf
theorem ps_isB : PS2 K rIsB fIsB := by
  intro F H x y d e Qo Q ex hx hy hf k
  cases d <;> cases e <;> first
    | exact hf.elim
    | skip
  exact ⟨_, _, hx.bool, hy.bool, k _ _ _ (.dat (.bl _)) hf⟩
theorem ps_notB : PS2 K rNotB fNotB := by
  intro F H x y d e Qo Q ex hx hy hf k
  cases d <;> cases e <;> first
    | exact hf.elim
    | skip
  exact ⟨_, _, hx.bool, hy.bool, k _ _ _ (.dat (.bl _)) hf⟩
end
/-! ### items -/
def fIx : PyData → PyData → FO
  | .list ds, .int i, Q => match atI ds i with
    | some d => Q (.dat d)
    | none => False
  | .tuple ds, .int i, Q => match atI ds i with
    | some d => Q (.dat d)
    | none => False
  | .str z, .int i, Q => z.length ≤ 100000 ∧ match atI z.cps.toList i with
    | some c => Q (.dat (.str ⟨#[c]⟩))
    | none => False
  | _, _, _ => False
section
variable {K : PySem.W.Frag}
theorem ps_ix : PS2 K (rIx K) fIx := by
  intro F H x y d e Qo Q ex hx hy hf k
  cases d <;> cases e <;> first
    | exact hf.elim
    | skip
  · rename_i z i
    obtain rfl := hy.int
    obtain rfl := hx.str
    obtain ⟨hz, hf⟩ := hf
    split at hf
    · rename_i c q
      exact .inr (.inr ⟨z, i, c, rfl, rfl, sz_of hz, q, k _ _ _ (.dat (.str _)) hf⟩)
    · exact hf.elim
  · rename_i ds i
    obtain rfl := hy.int
    obtain ⟨a, xs, rfl, h1, h2⟩ := hx.list ex
    have hf' : (match atI ds i with | some d => Qo (.dat d) | none => False) := hf
    split at hf'
    · rename_i d q
      obtain ⟨v, hv, dv⟩ := atI_data h2 q
      exact .inl ⟨a, xs, i, v, rfl, rfl, h1, hv, k _ _ _ (.dat dv) hf'⟩
    · exact hf'.elim
  · rename_i ds i
    obtain rfl := hy.int
    obtain ⟨a, xs, rfl, h1, h2⟩ := hx.tuple ex
    have hf' : (match atI ds i with | some d => Qo (.dat d) | none => False) := hf
    split at hf'
    · rename_i d q
      obtain ⟨v, hv, dv⟩ := atI_data h2 q
      exact .inr (.inl ⟨a, xs, i, v, rfl, rfl, h1, hv, k _ _ _ (.dat dv) hf'⟩)
    · exact hf'.elim
end
/-! ### built-ins -/
def fLen : PyData → FO
  | .list ds, Q => Q (.dat (.int (ds.length : Int)))
  | .tuple ds, Q => Q (.dat (.int (ds.length : Int)))
  | .str z, Q => z.length ≤ 100000 ∧ Q (.dat (.int (z.length : Int)))
  | _, _ => False
def rLen2 (K : PySem.W.Frag) : List V → Hp → VK → Prop := orC (rLenS K) fun xs H Q => ∃ z, xs = [.str z] ∧ z.length ≤ sizeLine ∧ Q (.int z.length) H
section
variable {K : PySem.W.Frag}
theorem ps_len : PSim K (rLen2 K) (fl1 fLen) := by
  intro F H vs ds Qo Q ex hv hf k
  cases hv with
  | nil => exact hf.elim
  | cons h1 h2 =>
    cases h2 with
    | cons _ _ => exact hf.elim
    | nil =>
      rename_i v d
      cases d <;> first
        | exact hf.elim
        | skip
      · obtain rfl := h1.str
        exact .inr ⟨_, rfl, sz_of hf.1, k _ _ _ (.dat (.int _)) hf.2⟩
      · obtain ⟨a, xs, rfl, h3, h4⟩ := h1.list ex
        refine .inl ⟨a, xs, rfl, .inl h3, ?_⟩
        rw [dps_len h4]
        exact k _ _ _ (.dat (.int _)) hf
      · obtain ⟨a, xs, rfl, h3, h4⟩ := h1.tuple ex
        refine .inl ⟨a, xs, rfl, .inr h3, ?_⟩
        rw [dps_len h4]
        exact k _ _ _ (.dat (.int _)) hf
def fIntI : PyData → FO
  | .int i, Q => Q (.dat (.int i))
  | .bool b, Q => Q (.dat (.int (if b then 1 else 0)))
  | _, _ => False
theorem ps_int : PSim K rIntI (fl1 fIntI) := by
  intro F H vs ds Qo Q ex hv hf k
  cases hv with
  | nil => exact hf.elim
  | cons h1 h2 =>
    cases h2 with
    | cons _ _ => exact hf.elim
    | nil =>
      rename_i v d
      cases d <;> first
        | exact hf.elim
        | skip
      · obtain rfl := h1.bool
        exact .inr ⟨_, rfl, k _ _ _ (.dat (.int _)) hf⟩
      · obtain rfl := h1.int
        exact .inl ⟨_, rfl, k _ _ _ (.dat (.int _)) hf⟩
def fMin2 : PyData → PyData → FO
  | .int i, .int j, Q => Q (.dat (.int (if j < i then j else i)))
  | _, _, _ => False
theorem ps_min2 : PSim K rMin (fl2 fMin2) := by
  intro F H vs ds Qo Q ex hv hf k
  cases hv with
  | nil => exact hf.elim
  | cons h1 h2 =>
    cases h2 with
    | nil => exact hf.elim
    | cons h2 h3 =>
      cases h3 with
      | cons _ _ => exact hf.elim
      | nil =>
        rename_i v d w e
        cases d <;> cases e <;> first
          | exact hf.elim
          | skip
        obtain rfl := h1.int
        obtain rfl := h2.int
        exact ⟨_, _, rfl, k _ _ _ (.dat (.int _)) hf⟩
def boolsOf? : List PyData → Option (List Bool)
  | [] => some []
  | .bool i :: ds => match boolsOf? ds with
    | some is => some (i :: is)
    | none => none
  | _ :: _ => none
theorem boolsOf_dq {F : Hp} : ∀ {ds : List PyData} {bs : List Bool} {vs : List V}, boolsOf? ds = some bs → DqAll K F vs ds → vs = bs.map V.bl
  | [], bs, vs, h, hv => by cases h; cases hv; rfl
  | d :: ds, bs, vs, h, hv => by
    cases d with
    | bool i =>
      have h' : (match boolsOf? ds with | some is => some (i :: is) | none => none) = some bs := h
      cases q : boolsOf? ds with
      | none => rw [q] at h'; cases h'
      | some js =>
        rw [q] at h'
        cases h'
        cases hv with
        | cons h1 h2 =>
          cases h1
          rw [boolsOf_dq q h2]; rfl
    | none => cases h
    | int _ => cases h
    | str _ => cases h
    | list _ => cases h
    | tuple _ => cases h
    | dict _ => cases h
def fAll : PyData → FO
  | .list ds, Q => match boolsOf? ds with
    | some bs => Q (.dat (.bool (bs.all id)))
    | none => False
  | _, _ => False
theorem ps_all : PSim K (L2.rAll K) (fl1 fAll) := by
  intro F H vs ds Qo Q ex hv hf k
  cases hv with
  | nil => exact hf.elim
  | cons h1 h2 =>
    cases h2 with
    | cons _ _ => exact hf.elim
    | nil =>
      rename_i v d
      cases d <;> first
        | exact hf.elim
        | skip
      rename_i ds
      have hf' : (match boolsOf? ds with | some bs => Qo (.dat (.bool (bs.all id))) | none => False) := hf
      split at hf'
      · rename_i bs e
        obtain ⟨a, xs, rfl, h3, h4⟩ := h1.list ex
        obtain rfl := boolsOf_dq e h4
        exact ⟨a, bs, rfl, h3, k _ _ _ (.dat (.bl _)) hf'⟩
      · exact hf'.elim
def fSum : PyData → FO
  | .list ds, Q => match intsOf? ds with
    | some ns => Q (.dat (.int ns.sum))
    | none => False
  | _, _ => False
theorem ps_sum : PSim K (L2.rSum K) (fl1 fSum) := by
  intro F H vs ds Qo Q ex hv hf k
  cases hv with
  | nil => exact hf.elim
  | cons h1 h2 =>
    cases h2 with
    | cons _ _ => exact hf.elim
    | nil =>
      rename_i v d
      cases d <;> first
        | exact hf.elim
        | skip
      rename_i ds
      have hf' : (match intsOf? ds with | some ns => Qo (.dat (.int ns.sum)) | none => False) := hf
      split at hf'
      · rename_i ns e
        obtain ⟨a, xs, rfl, h3, h4⟩ := h1.list ex
        obtain rfl := intsOf_some e
        obtain rfl := dps_ints_of h4
        exact ⟨a, ns, rfl, h3, k _ _ _ (.dat (.int _)) hf'⟩
      · exact hf'.elim
/-- tuple(x), x a list or a tuple -/
def fTuple : PyData → FO
  | .list ds, Q => Q (.dat (.tuple ds))
  | .tuple ds, Q => Q (.dat (.tuple ds))
  | _, _ => False
theorem ps_tuple : PS1 K (kTup K) fTuple := by
  intro F H x d Qo Q ex hx hf k
  cases d <;> first
    | exact hf.elim
    | skip
  · obtain ⟨a, xs, rfl, h1, h2⟩ := hx.list ex
    exact .inl ⟨a, xs, rfl, h1, fun p hp => k _ _ _ (.tup hp h2) hf⟩
  · cases hx with
    | dq hx =>
      obtain ⟨a, xs, rfl, h1, h2⟩ := dp_tup hx
      exact .inr ⟨a, xs, rfl, ex_t ex h1, k _ _ _ (.dat hx) hf⟩
end
end Mk

/-! part MkA -/
/-! Mk, part 10: displays, chains, slices, isinstance, raise, what is caught, dicts. -/
namespace Mk
open PySem PySem.Spec PyProof.Rows L2 Evl Lk LamX
section
variable {K : PySem.W.Frag} {T : List (Addr × Str)} {W : WX}
/-! ### displays -/
def mDis (f : List PyData → O) (m : MA) : ME := fun s Q X => m s (fun rs s1 => match dats rs with
  | some ds => ds.length ≤ 100000 ∧ Q (.val (f ds)) s1
  | none => False) X
theorem out_res {σ0 σ : L2.St} {H H1 H' : Hp} {s s1 : S} {R R1 : Ad} {fps fps1 : Nat → Ad} {Qm : Rs → S → Prop} {Q : VK} {v : V} {o : O} (g : Go K T σ0 H s R fps σ H1 s1 (alt R R1) fps1) (r : Res K (hid (Wf (alt R R1) fps1) H1) H1 v H' o)
    (hQ : ∀ v H' s' r fp fps', Go K T σ0 H s R fps σ H' s' (alt R fp) fps' → RAt K (hid (Wf (alt R fp) fps') H') H' s'.n σ v r fp → (∀ a, fp a → ¬ R a) → Qm r s' → Q v H') (q : Qm (.val o) s1) : Q v H' := by
  obtain ⟨fp, g2, ho, hn⟩ := res_go g.iv r
  have nA : ∀ a, fp a → ¬ R a := fun a z y => by
    have e := g.iv.liv a (.inl y)
    rw [hn a z] at e; exact e
  have g3 := (g.trans g2).drop (R2 := alt R fp) (fun _ z => .inl z) (fun a z => z.imp (fun y => .inl y) id)
  exact hQ v H' s1 (.val o) fp fps1 g3 (.val (ho.keep (gr_sub fun a z => z.imp (fun y => y.imp (fun w => .inl w) id) id) (fun _ _ => rfl) (Nat.le_refl _))) nA q
theorem sim_tup {ta : TA} {m : MA} (h : SimA K T W ta m) : SimE K T W (tTup ta) (mDis (fun ds => .dat (.tuple ds)) m) := by
  intro σ0 σ H s R fps I Qm Xm hm hx Q hQ
  refine h σ0 σ H s R fps I _ Xm hm hx _ fun vs H1 s1 rs l fps1 g hrs ap nR q => ?_
  split at q
  · rename_i ds e
    have hd := dats_at hrs e
    exact ⟨sz_of (by rw [dps_len hd]; exact q.1), fun p hp => out_res g (.tup hp hd) hQ q.2⟩
  · exact q.elim
theorem sim_lst {ta : TA} {m : MA} (h : SimA K T W ta m) : SimE K T W (tLst ta) (mDis (fun ds => .lst ds) m) := by
  intro σ0 σ H s R fps I Qm Xm hm hx Q hQ
  refine h σ0 σ H s R fps I _ Xm hm hx _ fun vs H1 s1 rs l fps1 g hrs ap nR q => ?_
  split at q
  · rename_i ds e
    have hd := dats_at hrs e
    exact ⟨sz_of (by rw [dps_len hd]; exact q.1), fun p hp => out_res g (.lst hp hd) hQ q.2⟩
  · exact q.elim
def mDNew : ME := fun s Q _ => Q (.val (.dct [])) s
theorem sim_dnew : SimE K T W tDNewK mDNew := fun σ0 σ H s R fps I Qm Xm hm hx Q hQ p hp =>
  out_res (R1 := nol) ((Go.refl I).alt0 fun _ z => z) (.dct hp .nil) hQ hm
/-- *e in a display or a call -/
def seqOf : PyData → Option (List PyData)
  | .list ds => some ds
  | .tuple ds => some ds
  | _ => none
def mStar (m : ME) (r : MA) : MA := fun s Q X => mD m s (fun d s1 => match seqOf d with
  | some ds => r s1 (fun rs s2 => Q (ds.map (fun d => .val (.dat d)) ++ rs) s2) X
  | none => False) X
theorem rats_dats {F H : Hp} {n : Nat} {σ : L2.St} : ∀ {vs : List V} {ds : List PyData}, DqAll K F vs ds → RAts K F H n σ vs (ds.map fun d => .val (.dat d)) (ds.map fun _ => nol)
  | _, _, .nil => .nil
  | _, _, .cons h r => .cons (.val (.dat h fun _ z => z)) (rats_dats r)
theorem rats_app {F H : Hp} {n : Nat} {σ : L2.St} {vs ws : List V} {rs qs : List Rs} {l k : List Ad} (a : RAts K F H n σ vs rs l) (b : RAts K F H n σ ws qs k) : RAts K F H n σ (vs ++ ws) (rs ++ qs) (l ++ k) := by
  induction a with
  | nil => exact b
  | cons h _ ih => exact .cons h ih
theorem anyF_nols {α : Type} {ds : List α} {l : List Ad} : AnyF ((ds.map fun _ => nol) ++ l) = AnyF l := by
  induction ds with
  | nil => rfl
  | cons d ds ih =>
    rw [List.map_cons, List.cons_append, anyF_cons, ih]
    exact funext fun a => propext ⟨fun z => z.elim (fun y => y.elim) id, .inr⟩
theorem apart_nols {α : Type} {ds : List α} {l : List Ad} (h : Apart l) : Apart ((ds.map fun _ => nol) ++ l) := by
  induction ds with
  | nil => exact h
  | cons d ds ih => exact ⟨fun a z => z.elim, ih⟩
theorem sim_star {K' : PySem.W.Frag} {te : TE} {tr : TA} {m : ME} {r : MA} (h : SimE K T W te m) (hr : SimA K T W tr r) (hK : K' = K) : SimA K T W (StX.tStar K' te tr) (mStar m r) := by
  subst hK
  intro σ0 σ H s R fps I Qm Xm hm hx Q hQ
  refine sim_d h σ0 σ H s R fps I _ Xm hm hx _ fun v H1 s1 d fps1 g hd q => ?_
  have fin : ∀ (a : Addr) (xs : List V) (ds : List PyData), DqAll K' (hid (Wf R fps1) H1) xs ds → r s1 (fun rs s2 => Qm (ds.map (fun d => .val (.dat d)) ++ rs) s2) Xm → tr σ H1 fun ys H2 => Q (xs ++ ys) H2 := fun a xs ds hds q =>
    hr σ0 σ H1 s1 R fps1 g.iv _ Xm q (hx.go g) _ fun vs H2 s2 rs l fps2 g2 hrs ap nR z => by
      have g3 := g.trans g2
      have e : AnyF l = AnyF ((ds.map fun _ => nol) ++ l) := anyF_nols.symm
      have g2g := g2.gr
      rw [e] at g3 hrs nR g2g
      exact hQ (xs ++ vs) H2 s2 _ ((ds.map fun _ => nol) ++ l) fps2 g3 (rats_app (rats_dats (dps_ex g2g _ _ hds)) hrs) (apart_nols ap) nR z
  cases d with
  | list ds =>
    obtain ⟨a, xs, rfl, h1, h2⟩ := dp_lst hd
    exact ⟨a, xs, rfl, .inr (ex_l hid_ex h1), fin a xs ds h2 q⟩
  | tuple ds =>
    obtain ⟨a, xs, rfl, h1, h2⟩ := dp_tup hd
    exact ⟨a, xs, rfl, .inl (ex_t hid_ex h1), fin a xs ds h2 q⟩
  | none => exact q.elim
  | bool _ => exact q.elim
  | int _ => exact q.elim
  | str _ => exact q.elim
  | dict _ => exact q.elim
/-! ### a < b < c -/
def bOf (o : O) (Q : Bool → Prop) : Prop := match o with
  | .dat (.bool b) => Q b
  | _ => False
def mChain (f f' : PyData → PyData → FO) (a b c : MD) : ME := fun s Q X => a s (fun d s1 => b s1 (fun e s2 => f d e fun o => bOf o fun k => if k = true then c s2 (fun z s3 => f' e z fun o2 => bOf o2 fun k2 => Q (.val (.dat (.bool k2))) s3) X else Q (.val (.dat (.bool false))) s2) X) X
theorem res_b {F H H' : Hp} {v : V} {o : O} {Q : Bool → Prop} (r : Res K F H v H' o) (h : bOf o Q) : ∃ b, v = .bl b ∧ H' = H ∧ Q b := by
  cases r with
  | dat hd =>
    cases hd with
    | bl b => exact ⟨b, rfl, rfl, h⟩
    | _ => exact h.elim
  | tup _ _ => exact h.elim
  | lst _ _ => exact h.elim
  | dct _ _ => exact h.elim
theorem sim_chain {r r' : R2} {f f' : PyData → PyData → FO} {ta tb tc : TE} {a b c : MD} (hr : PS2 K r f) (hr' : PS2 K r' f') (ha : SimD K T W ta a) (hb : SimD K T W tb b) (hc : SimD K T W tc c) : SimE K T W (tChain r r' ta tb tc) (mChain f f' a b c) := by
  intro σ0 σ H s R fps I Qm Xm hm hx Q hQ
  refine ha σ0 σ H s R fps I _ Xm hm hx _ fun v H1 s1 d fps1 g1 hd q => ?_
  refine hb σ0 σ H1 s1 R fps1 g1.iv _ Xm q (hx.go g1) _ fun w H2 s2 e fps2 g2 he q => ?_
  refine hr _ H2 v w d e _ _ hid_ex (.dq (dp_ex g2.gr _ _ hd)) (.dq he) q fun x H3 o r3 q3 => ?_
  obtain ⟨k, rfl, rfl, q4⟩ := res_b r3 q3
  refine ⟨k, rfl, ?_⟩
  cases k with
  | true =>
    rw [if_pos rfl] at q4
    show tc σ _ _
    refine hc σ0 σ _ s2 R fps2 g2.iv _ Xm q4 (hx.go (g1.trans g2)) _ fun y H4 s4 z fps4 g4 hz q5 => ?_
    refine hr' _ H4 w y e z _ _ hid_ex (.dq (dp_ex g4.gr _ _ he)) (.dq hz) q5 fun x H5 o r5 q6 => ?_
    obtain ⟨k2, rfl, rfl, q7⟩ := res_b r5 q6
    exact out_e ((g1.trans g2).trans g4) (fun _ => .bl k2) hQ q7
  | false =>
    rw [if_neg (by decide)] at q4
    exact out_e (g1.trans g2) (fun _ => .bl false) hQ q4
/-! ### slices -/
abbrev MO : Type := S → (Option Int → S → Prop) → XM → Prop
def mONone : MO := fun s Q _ => Q none s
def mOSome (m : MD) : MO := fun s Q X => m s (fun d s1 => match d with
  | .int i => Q (some i) s1
  | _ => False) X
def cutD (ds : List PyData) (lo hi : Option Int) : List PyData := (ds.drop (HT.sIx ds.length 0 lo)).take (HT.sIx ds.length ds.length hi - HT.sIx ds.length 0 lo)
def fSl (d : PyData) (lo hi : Option Int) : FO := fun Q => match d with
  | .list ds => Q (.lst (cutD ds lo hi))
  | .tuple ds => Q (.dat (.tuple (cutD ds lo hi)))
  | .str z => z.length ≤ 100000 ∧ Q (.dat (.str (cutS z lo hi)))
  | _ => False
def rSl3 (K : PySem.W.Frag) : V → Option Int → Option Int → Hp → VK → Prop := orS (rSlL K) (orS (rSlA K) rSlS)
theorem dps_drop {F : Hp} : ∀ {vs : List V} {ds : List PyData} (n : Nat), DqAll K F vs ds → DqAll K F (vs.drop n) (ds.drop n)
  | _, _, 0, h => h
  | _, _, _ + 1, .nil => .nil
  | _, _, n + 1, .cons _ r => dps_drop n r
theorem dps_take {F : Hp} : ∀ {vs : List V} {ds : List PyData} (n : Nat), DqAll K F vs ds → DqAll K F (vs.take n) (ds.take n)
  | _, _, 0, _ => .nil
  | _, _, _ + 1, .nil => .nil
  | _, _, n + 1, .cons h r => .cons h (dps_take n r)
theorem dps_cut {F : Hp} {vs : List V} {ds : List PyData} {lo hi : Option Int} (h : DqAll K F vs ds) : DqAll K F (cutV vs lo hi) (cutD ds lo hi) := by
  unfold cutV cutD
  rw [dps_len h]
  exact dps_take _ (dps_drop _ h)
theorem cut_whole {ds : List PyData} {lo hi : Option Int} (h : HT.sIx ds.length 0 lo = 0 ∧ HT.sIx ds.length ds.length hi = ds.length) : cutD ds lo hi = ds := by
  unfold cutD
  rw [h.1, h.2]
  simp
theorem ps_sl {F H : Hp} {x : V} {d : PyData} {lo hi : Option Int} {Qo : O → Prop} {Q : VK} (ex : Ex F H) (hx : VAt K F H x d) (hf : fSl d lo hi Qo) (k : ∀ v H' o, Res K F H v H' o → Qo o → Q v H') : rSl3 K x lo hi H Q := by
  cases d with
  | list ds =>
    obtain ⟨a, xs, rfl, h1, h2⟩ := hx.list ex
    exact .inl ⟨a, xs, rfl, h1, fun p hp => k _ _ _ (.lst hp (dps_cut h2)) hf⟩
  | tuple ds =>
    cases hx with
    | dq hx =>
      obtain ⟨a, xs, rfl, h1, h2⟩ := dp_tup hx
      have e := dps_len h2
      refine .inr (.inl ⟨a, xs, rfl, ex_t ex h1, fun z => ?_, fun _ p hp => k _ _ _ (.tup hp (dps_cut h2)) hf⟩)
      rw [e] at z
      have hf' : Qo (.dat (.tuple (cutD ds lo hi))) := hf
      rw [cut_whole z] at hf'
      exact k _ _ _ (.dat hx) hf'
  | str z =>
    obtain rfl := hx.str
    exact .inr (.inr ⟨z, rfl, sz_of hf.1, k _ _ _ (.dat (.str _)) hf.2⟩)
  | none => exact hf.elim
  | bool _ => exact hf.elim
  | int _ => exact hf.elim
  | dict _ => exact hf.elim
end
section
variable (K : PySem.W.Frag) (T : List (Addr × Str)) (W : WX)
def SimO (to : TO) (m : MO) : Prop := ∀ σ0 σ H s R fps, Iv K T σ0 σ H s R fps → ∀ Qm Xm, m s Qm Xm → XOk K T W σ0 σ H s R fps Xm → ∀ Q : Option Int → Hp → Prop,
  (∀ o H' s' fps', Go K T σ0 H s R fps σ H' s' R fps' → Qm o s' → Q o H') → to σ H Q
end
section
variable {K : PySem.W.Frag} {T : List (Addr × Str)} {W : WX}
theorem sim_onone : SimO K T W tNoPart mONone := fun σ0 σ H s R fps I Qm Xm hm hx Q hQ => hQ none H s fps (Go.refl I) hm
theorem sim_osome {te : TE} {m : MD} (h : SimD K T W te m) : SimO K T W (tPart te) (mOSome m) := fun σ0 σ H s R fps I Qm Xm hm hx Q hQ =>
  h σ0 σ H s R fps I _ Xm hm hx _ fun v H1 s1 d fps1 g hd q => by
    split at q
    · rename_i i
      obtain rfl := dp_int hd
      exact ⟨i, rfl, hQ _ H1 s1 fps1 g q⟩
    · exact q.elim
def mSl (m : ME) (lo hi : MO) : ME := fun s Q X => m s (fun r s1 => lo s1 (fun l s2 => hi s2 (fun h s3 => match rd s3 r with
  | some d => fSl d l h fun o => Q (.val o) s3
  | none => False) X) X) X
theorem sim_sl {te : TE} {tl th : TO} {m : ME} {lo hi : MO} {K' : PySem.W.Frag} (h : SimE K T W te m) (hl : SimO K T W tl lo) (hh : SimO K T W th hi) (hK : K' = K) : SimE K T W (tSl (rSl3 K') te tl th) (mSl m lo hi) := by
  subst hK
  intro σ0 σ H s R fps I Qm Xm hm hx Q hQ
  refine h σ0 σ H s R fps I _ Xm hm hx _ fun v H1 s1 r fp fps1 g1 hr nR q => ?_
  refine hl σ0 σ H1 s1 _ fps1 g1.iv _ Xm q (hx.go g1) _ fun l H2 s2 fps2 g2 q => ?_
  refine hh σ0 σ H2 s2 _ fps2 g2.iv _ Xm q (hx.go (g1.trans g2)) _ fun u H3 s3 fps3 g3 q => ?_
  have g23 := g2.trans g3
  have hr3 := hr.keep g23.gr (fun a z => g23.kp a (.inr z)) g23.le
  split at q
  · rename_i d e
    exact ps_sl hid_ex (rd_at g3.iv hr3 e) q fun v H' o r z => out_res (g1.trans g23) r hQ z
  · exact q.elim
/-! ### isinstance -/
def mIsi (f : PyData → Bool) (m : ME) : ME := fun s Q X => m s (fun r s1 => match rd s1 r with
  | some d => Q (.val (.dat (.bool (f d)))) s1
  | none => False) X
theorem sim_isi {K' : PySem.W.Frag} {n : String} {f : PyData → Bool} {te : TE} {m : ME} (h : SimE K T W te m) (hf : ∀ d, kitB (tyN d) n = some (f d)) (hK : K' = K) : SimE K T W (tCB (rIsi K') (tCons te (tCons (tC (.ty n)) tNil))) (mIsi f m) := by
  subst hK
  intro σ0 σ H s R fps I Qm Xm hm hx Q hQ
  refine h σ0 σ H s R fps I _ Xm hm hx _ fun v H1 s1 r fp fps1 g1 hr nR q => ?_
  split at q
  · rename_i d e
    have hv := (rd_at g1.iv hr e).full hid_ex
    exact ⟨v, .ty n, .type (tyN d), .type n, f d, rfl, .ty n, dp_ty hv, kit_ty (hf d), out_e (g1.drop (fun _ z => z) fun _ z => .inl z) (fun _ => .bl _) hQ q⟩
  · exact q.elim
/-- isinstance(e, C), e what was caught or None -/
def mIsE (K : PySem.W.Frag) (C : Addr) (m : ME) : ME := fun s Q X => m s (fun r s1 => match r with
  | .val (.exc D) => ExcC K D ∧ ∃ b, PySem.W.kitOne K (.ref D) (.ref C) = some b ∧ Q (.val (.dat (.bool b))) s1
  | .val (.dat .none) => ∃ b, PySem.W.kitOne K (.type "NoneType") (.ref C) = some b ∧ Q (.val (.dat (.bool b))) s1
  | _ => False) X
theorem sim_isE {K' : PySem.W.Frag} {C : Addr} {te : TE} {m : ME} (h : SimE K T W te m) (hC : ClsV (.ref C) (.ref C)) (hK : K' = K) : SimE K T W (tCB (orC (rIsEV K') (rIsi K')) (tCons te (tCons (tC (.ref C)) tNil))) (mIsE K C m) := by
  subst hK
  intro σ0 σ H s R fps I Qm Xm hm hx Q hQ
  refine h σ0 σ H s R fps I _ Xm hm hx _ fun v H1 s1 r fp fps1 g1 hr nR q => ?_
  have g2 := g1.drop (R2 := R) (fun _ z => z) fun _ z => .inl z
  split at q
  · rename_i D
    obtain ⟨e, b, e2, q⟩ := q
    cases hr with
    | val hr =>
      cases hr with
      | exc hr _ => exact .inl ⟨_, D, .ref C, .ref C, b, rfl, hid_ex _ _ hr, e, hC, e2, out_e g2 (fun _ => .bl _) hQ q⟩
  · obtain ⟨b, e2, q⟩ := q
    cases hr with
    | val hr =>
      cases hr with
      | dat hr _ =>
        cases dp_none hr
        exact .inr ⟨.non, .ref C, .type "NoneType", .ref C, b, rfl, hC, .base .non, e2, out_e g2 (fun _ => .bl _) hQ q⟩
  · exact q.elim
/-! ### raise -/
def mRaise (C : Addr) : MS := fun s k => k.er C s
theorem sim_raise {C : Addr} : SimS K T W (fun _ σ H => W (.ref C) none σ H) (mRaise C) := fun σ0 σ H s R fps I D k hm x => x.er C σ H s fps (Go.refl I) hm
/-! ### what is caught -/
def mCaught (K : PySem.W.Frag) (CS : Addr) (m : ME) : ME := fun s Q _ => m s (fun _ s1 => Q (.val (.dat .none)) s1) (fun C s1 => PySem.W.exmOne K (.ref C) (.ref CS) = some true ∧ Q (.val (.exc C)) s1)
theorem sim_caught {K' : PySem.W.Frag} {T' : List (Addr × Str)} {CS : Addr} {G : Den} {ta : TA} {m : MA} (h : ∀ W, SimA K T W ta m) (hK : K' = K) (hT : T' = T) : SimE K T W (tCg T' K' CS (spM K T G) ta) (mCaught K CS (mCall G m)) := by
  subst hK hT
  intro σ0 σ H s R fps I Qm Xm hm hx Q hQ
  refine ⟨I.tab, fun H1 e1 t1 => ?_⟩
  have g0 : Gr (Wf R fps) H (Wf R fps) H1 := gr_of (fun a o h _ t => e1 a o h t) fun _ _ _ n => n
  have lv : ∀ a, Mut (H a) → H1 a = H a := fun a z => by
    cases q : H a with
    | none => rw [q] at z; exact z.elim
    | some o => exact e1 a o q fun ps y => by rw [q, y] at z; exact z
  have G0 : Go K' T' σ0 H s R fps σ H1 s R fps := ⟨I.step g0 (fun i a z => lv a (I.live (.inr ⟨i, z⟩))) I.disR (fun a z => by rw [lv a (I.liv a z)]; exact I.liv a z) t1, fun a z => lv a (I.liv a z), g0, rfl, Nat.le_refl _, fun _ z => z⟩
  refine (sim_call (W := fun cls d _ H' => ∃ b, PySem.W.exmOne K' cls (.ref CS) = some b ∧ (b = true → ∀ a, H' a = none → Q (.ref a) (upd H' a (ExV cls d a))) ∧ (b = false → False)) (G := G) (h _) σ0 σ H1 s R fps G0.iv _ _ hm (fun C H2 s2 fps2 g2 z => ?_) (fun _ H2 => Q .non H2) fun v H2 s2 r fp fps2 g2 hr nR z => ?_ :)
  · obtain ⟨e, z⟩ := z
    refine ⟨true, e, fun _ a ha => ?_, fun y => nomatch y⟩
    have g3 := (G0.trans g2).trans (go_new (o := ExV (.ref C) none a) g2.iv ha)
    refine hQ (.ref a) _ s2 (.val (.exc C)) nol fps2 (g3.alt0 fun _ z => z) (.val (.exc ?_ fun _ z => z)) (fun _ z => z.elim) z
    rw [alt_nol]
    exact hid_some.mpr ⟨upd_same, g2.iv.fresh ha, fun _ z => nomatch z⟩
  · exact out_e ((G0.trans g2).drop (fun _ z => z) fun _ z => .inl z) (fun _ => .non) hQ z
/-! ### dicts of one's own -/
def keyOf : PyData → Option Key
  | .int i => some (.inl i)
  | .str s => some (.inr s)
  | _ => none
theorem keyOf_kV {F H : Hp} {v : V} {d : PyData} {k : Key} (h : VAt K F H v d) (e : keyOf d = some k) : v = kV k := by
  cases d with
  | int i => cases e; exact h.int
  | str s => cases e; exact h.str
  | none => cases e
  | bool _ => cases e
  | list _ => cases e
  | tuple _ => cases e
  | dict _ => cases e
/-- the pair of a key, the dict with another value -/
def getK (kvs : List (Key × PyData)) (k : Key) : Option PyData := (kvs.find? fun kv => decide (kv.1 = k)).map (·.2)
theorem getK_at {F : Hp} {kv : List (Key × V)} {kvs : List (Key × PyData)} {k : Key} (h : KvAll K F kv kvs) : match getK kvs k with
    | some d => ∃ v, valV kv k = some v ∧ Dq K F v d
    | none => valV kv k = none := by
  induction h with
  | nil => rfl
  | cons h hr ih =>
    rename_i k1 v d kv kvs
    unfold getK valV at ih ⊢
    by_cases e : k1 = k
    · subst e
      simp only [List.find?_cons, decide_true, Option.map_some]
      exact ⟨v, rfl, h⟩
    · simp only [List.find?_cons, decide_eq_false e]
      exact ih
/-- kvs with v at k -/
def putD (kvs : List (Key × PyData)) (k : Key) (v : PyData) : List (Key × PyData) :=
  if kvs.any (fun kv => decide (kv.1 = k)) then kvs.map (fun kv => if kv.1 = k then (kv.1, v) else kv) else kvs ++ [(k, v)]
theorem kv_app {F : Hp} {a b : List (Key × V)} {c d : List (Key × PyData)} (h : KvAll K F a c) (g : KvAll K F b d) : KvAll K F (a ++ b) (c ++ d) := by
  induction h with
  | nil => exact g
  | cons h _ ih => exact .cons h ih
theorem kv_len {F : Hp} {kv : List (Key × V)} {kvs : List (Key × PyData)} (h : KvAll K F kv kvs) : kv.length = kvs.length := by
  induction h with
  | nil => rfl
  | cons _ _ ih => exact congrArg Nat.succ ih
def dctOf (s : S) : Rs → Option (List (Key × PyData))
  | .val (.dct kvs) => some kvs
  | .slot i => match s.env[i]? with
    | some (some (.dct kvs)) => some kvs
    | _ => none
  | _ => none
theorem dctOf_at {σ0 σ : L2.St} {H : Hp} {s : S} {R : Ad} {fps : Nat → Ad} {n : Nat} {v : V} {r : Rs} {fp : Ad} {kvs : List (Key × PyData)} (I : Iv K T σ0 σ H s R fps) (h : RAt K (hid (Wf R fps) H) H n σ v r fp) (e : dctOf s r = some kvs) :
    ∃ a kv, v = .ref a ∧ H a = some (.dK kv) ∧ KvAll K (hid (Wf R fps) H) kv kvs := by
  cases h with
  | val h =>
    cases h with
    | dct h hd _ => cases e; exact ⟨_, _, rfl, h, hd⟩
    | dat _ _ => cases e
    | lst _ _ _ => cases e
    | st _ _ => cases e
    | exc _ _ => cases e
  | slot h hz =>
    rename_i i
    have e' : (match s.env[i]? with
      | some (some (.dct kvs)) => some kvs
      | _ => none) = some kvs := e
    cases q : s.env[i]? with
    | none => rw [q] at e'; cases e'
    | some x =>
      cases x with
      | none => rw [q] at e'; cases e'
      | some o =>
        have hA := I.slotv q h
        cases hA with
        | dct h3 hd _ => rw [q] at e'; cases e'; exact ⟨_, _, rfl, h3, hd⟩
        | dat _ _ => rw [q] at e'; cases e'
        | lst _ _ _ => rw [q] at e'; cases e'
        | st _ _ => rw [q] at e'; cases e'
        | exc _ _ => rw [q] at e'; cases e'
def mGet2 (m : ME) (mk mx : MD) : ME := fun s Q X => m s (fun r s1 => (∃ kvs, dctOf s1 r = some kvs) ∧ mk s1 (fun k s2 => mx s2 (fun z s3 => match dctOf s3 r, keyOf k with
  | some kvs, some k => Q (.val (.dat ((getK kvs k).getD z))) s3
  | _, _ => False) X) X) X
theorem sim_get2 {td ty tx : TE} {m : ME} {mk mx : MD} (h : SimE K T W td m) (hk : SimD K T W ty mk) (hz : SimD K T W tx mx) : SimE K T W (tDGet2 td ty tx) (mGet2 m mk mx) := by
  intro σ0 σ H s R fps I Qm Xm hm hx Q hQ
  refine h σ0 σ H s R fps I _ Xm hm hx _ fun v H1 s1 r fp fps1 g1 hr nR q => ?_
  obtain ⟨⟨kvs0, e0⟩, q⟩ := q
  obtain ⟨a, kv0, rfl, ha, _⟩ := dctOf_at g1.iv hr e0
  refine ⟨a, rfl, .inl ⟨kv0, .inl ha⟩, ?_⟩
  refine hk σ0 σ H1 s1 _ fps1 g1.iv _ Xm q (hx.go g1) _ fun y H2 s2 k fps2 g2 hy q => ?_
  refine hz σ0 σ H2 s2 _ fps2 g2.iv _ Xm q (hx.go (g1.trans g2)) _ fun z H3 s3 d fps3 g3 hd q => ?_
  have g23 := g2.trans g3
  have hr3 := hr.keep g23.gr (fun a z => g23.kp a (.inr z)) g23.le
  split at q
  · rename_i kvs k' e1 e2
    obtain ⟨a', kv, ea, ha3, hkv⟩ := dctOf_at g3.iv hr3 e1
    cases ea
    have hg := getK_at (k := k') hkv
    obtain rfl := keyOf_kV (.dq hy : VAt K _ H2 y k) e2
    refine ⟨valV kv k', DGet.k ha3, ?_⟩
    cases eg : getK kvs k' with
    | none =>
      rw [eg] at hg q
      have hg' : valV kv k' = none := hg
      rw [hg']
      exact out_res (g1.trans g23) (.dat hd) hQ q
    | some d' =>
      rw [eg] at hg q
      obtain ⟨v', hv', dv'⟩ := hg
      rw [hv']
      exact out_res (g1.trans g23) (.dat dv') hQ q
  · exact q.elim
/-- d[k] = v, d in slot i -/
theorem mutD_go {σ0 σ : L2.St} {H H0 : Hp} {s s0 : S} {R : Ad} {fps fps0 : Nat → Ad} {i : Nat} {a : Addr} {kv' : List (Key × V)} {kvs kvs' : List (Key × PyData)} (G : Go K T σ0 H0 s0 R fps0 σ H s R fps) (hv : σ[i]? = some (some (.ref a))) (he : s.env[i]? = some (some (.dct kvs)))
    (hd : KvAll K (hid (Wf R fps) H) kv' kvs') : ∃ fps', Go K T σ0 H0 s0 R fps0 σ (upd H a (.dK kv')) (putO s i (.dct kvs')) R fps' := by
  have I := G.iv
  have hA := I.slotv he hv
  cases hA with
  | dct hA hdA hz =>
    have wa : Wf R fps a := .inr ⟨i, (hz a).mpr rfl⟩
    have nR : ¬ R a := I.disR i a ((hz a).mpr rfl)
    have g : Gr (Wf R fps) H (Wf R (fset fps i (fps i))) (upd H a (.dK kv')) := gr_of (fun b o h n _ => by
      rw [upd_ne (show b ≠ a from fun z => n (z ▸ wa))]
      exact h) (fun b o h n z => by
      rcases wf_fset z with z | z | ⟨j, _, z⟩
      · exact n (.inl z)
      · exact n (.inr ⟨i, z⟩)
      · exact n (.inr ⟨j, z⟩))
    have tb : Tabs T (upd H a (.dK kv')) := fun r hr => by
      obtain ⟨ps, h1, h2, h3⟩ := I.tab r hr
      have ne : ∀ b u, H b = some u → (∀ kvs, u ≠ .dK kvs) → upd H a (.dK kv') b = some u := fun b u h n => by
        rw [upd_ne]
        · exact h
        · rintro rfl
          exact n _ (Option.some.inj (h.symm.trans hA))
      refine ⟨ps, ne _ _ h1 (fun _ z => nomatch z), h2, fun pos cv hc => ?_⟩
      obtain ⟨c, e1, e2⟩ := h3 pos cv hc
      exact ⟨c, e1, ne _ _ e2 codeO_nd.1⟩
    have P := I.put (R' := R) (i := i) (v' := .ref a) (o' := .dct kvs') (fp' := fps i) (n' := s.n) (lt_of_slot hv) (fun _ z => z) g (fun j b hj z => upd_ne (show b ≠ a from fun y => hj (I.dis j i a (y ▸ z) ((hz a).mpr rfl))))
      (fun b z => upd_ne (show b ≠ a from fun y => nR (y ▸ z))) tb (Nat.le_refl _) (.dct upd_same (kv_ex g hd) hz) (fun b z => I.disR i b z) (fun j b hj z y => hj (I.dis j i b y z)) (fun _ => hv)
    rw [set_same hv] at P
    exact ⟨_, P, fun b z => (upd_ne (show b ≠ a from fun y => nR (y ▸ z))).trans (G.kp b z), G.gr.trans g, G.bo, G.le, fun _ z => z⟩
theorem put_at {F : Hp} {kv : List (Key × V)} {kvs : List (Key × PyData)} {k : Key} {v : V} {d : PyData} (h : KvAll K F kv kvs) (hv : Dq K F v d) : KvAll K F (putK kv k v) (putD kvs k d) := by
  have ha : kv.any (fun kv => decide (kv.1 = k)) = kvs.any (fun kv => decide (kv.1 = k)) := by
    induction h with
    | nil => rfl
    | cons _ _ ih => rw [List.any_cons, List.any_cons, ih]
  unfold putK putD
  rw [ha]
  have hm : KvAll K F (kv.map fun kv => if kv.1 = k then (kv.1, v) else kv) (kvs.map fun kv => if kv.1 = k then (kv.1, d) else kv) := by
    clear ha
    induction h with
    | nil => exact .nil
    | cons h hr ih =>
      rename_i k1 _ _ _ _
      rw [List.map_cons, List.map_cons]
      by_cases e : k1 = k
      · subst e
        simp only [if_true]
        exact .cons hv ih
      · simp only [e, if_false]
        exact .cons h ih
  split
  · exact hm
  · exact kv_app h (.cons hv .nil)
def isDct (s : S) (i : Nat) : Prop := match s.env[i]? with
  | some (some (.dct _)) => True
  | _ => False
def mDPut (i : Nat) (mk mv : MD) : MS := fun s k => mv s (fun d s1 => isDct s1 i ∧ mk s1 (fun y s2 => match s2.env[i]?, keyOf y with
  | some (some (.dct kvs)), some key => kvs.length < 100000 ∧ k.nx (putO s2 i (.dct (putD kvs key d)))
  | _, _ => False) k.er) k.er
theorem sim_dput {ty tv : TE} {i : Nat} {mk mv : MD} (hk : SimD K T W ty mk) (hv : SimD K T W tv mv) : SimS K T W (sDPut (tVar i) ty tv) (mDPut i mk mv) := fun σ0 σ H s R fps I D k hm x => by
  refine hv σ0 σ H s R fps I _ k.er hm x.xok _ fun v H1 s1 d fps1 g1 hd q => ?_
  obtain ⟨i1, q⟩ := q
  unfold isDct at i1
  split at i1
  · rename_i kvs0 e0
    obtain ⟨v0, hv0, hA0⟩ := g1.iv.at_ i _ e0
    cases hA0 with
    | dct hA hd0 hz =>
      refine ⟨_, hv0, ?_⟩
      refine hk σ0 σ H1 s1 R fps1 g1.iv _ k.er q (x.go g1).xok _ fun y H2 s2 ky fps2 g2 hy q => ?_
      split at q
      · rename_i kvs key e1 e2
        have hA2 := g2.iv.slotv e1 hv0
        cases hA2 with
        | dct hA2 hd2 hz2 =>
          obtain rfl := keyOf_kV (.dq hy : VAt K _ H2 y ky) e2
          obtain ⟨fps3, G3⟩ := mutD_go (g1.trans g2) hv0 e1 (put_at (k := key) hd2 (dp_ex g2.gr _ _ hd))
          exact ⟨_, _, rfl, DPut.k (k := key) hA2 (sz_lt (by rw [kv_len hd2]; exact q.1)), x.nx _ _ _ fps3 G3 q.2⟩
      · exact q.elim
  · exact i1.elim
end
end Mk

/-! part MkB -/
/-! Mk, part 11: the text's constructs, each with its reading and what it does. -/
namespace Mk
open PySem PySem.Spec PyProof.Rows L2 Evl Lk LamX
section
variable (X : Cx) (K : PySem.W.Frag) (T : List (Addr × Str)) (W : WX)
structure QE (e : Expr) (te : TE) (m : ME) : Prop where
  p : PE X e te
  s : SimE K T W te m
structure QT (e : Expr) (te : TT) (m : MT) : Prop where
  p : PT X e te
  s : SimT K T W te m
structure QW (e : Expr) (te : TT) (m : MT) : Prop where
  p : PW X e te
  s : SimT K T W te m
structure QA (es : List Expr) (ta : TA) (m : MA) : Prop where
  p : PA X es ta
  s : SimA K T W ta m
structure QK (ks : List Keyword) (ta : TA) (m : MA) : Prop where
  p : PK X ks ta
  s : SimA K T W ta m
structure QO (e : Option Expr) (to : TO) (m : MO) : Prop where
  p : PO X e to
  s : SimO K T W to m
structure QS (st : Stmt) (ts : TS) (m : MS) : Prop where
  p : PS X st ts
  s : SimS K T W ts m
structure QB (st : List Stmt) (ts : TS) (m : MS) : Prop where
  p : PSs X st ts
  s : SimS K T W ts m
structure QG (e : Expr) (tg : TG) (m : MG) : Prop where
  p : PG X e tg
  s : SimG K T tg m
  o : GMono tg
structure QGs (es : List Expr) (tg : TGs) (m : MGs) : Prop where
  p : PGs X es tg
  s : SimGs K T tg m
  o : GsMono tg
structure QI (tg iter : Expr) (wi : TI) (m : MI) : Prop where
  p : PI X tg iter wi
  s : SimI K T W wi m
end
section
variable {X : Cx} {K : PySem.W.Frag} {T : List (Addr × Str)} {W : WX} {a b c e : Expr} {es : List Expr} {ta tb tc te : TE} {ma mb mc me : ME} {pos : Pos} {tA tB' : TT} {mA mB' : MT} {rest : List Expr} {tr : TA} {mr : MA}
/-! ### values -/
theorem e_v (i : Nat) {x : Str} (hN : X.N[i]? = some x := by rfl) (hv : Vis X.env.scope x := by first | exact Or.inl rfl | exact Or.inr (Or.inl rfl) | exact Or.inr (Or.inr rfl)) (hd : (x == ("__debug__" : Str)) = false := by decide)
    (hcd : (x == ("__classdict__" : Str)) = false := by decide) : QE X K T W (.Name x pos) (tVar i) (mVar i) := ⟨pe_var hN hv hd hcd, sim_var⟩
theorem e_int {i : Int} {j} : QE X K T W (.Constant (.int i) j pos) (tC (.int i)) (mC (.int i)) := ⟨pe_int, sim_c fun _ => .int i⟩
theorem e_bl {b : Bool} {j} : QE X K T W (.Constant (.bool b) j pos) (tC (.bl b)) (mC (.bool b)) := ⟨pe_bl, sim_c fun _ => .bl b⟩
theorem e_non {j} : QE X K T W (.Constant .none j pos) (tC .non) (mC .none) := ⟨pe_non, sim_c fun _ => .non⟩
theorem e_str {x : Str} {j} : QE X K T W (.Constant (.str x) j pos) (tC (.str x)) (mC (.str x)) := ⟨pe_str, sim_c fun _ => .str x⟩
/-- a constant of the module -/
structure Cn (K : PySem.W.Frag) (mg : Str → Option Value) (x : Str) (v : V) (d : PyData) : Prop where
  g : ∃ u, mg x = some u ∧ RelV v u
  d : ∀ F, Dq K F v d
theorem pe_gc {x : Str} {v : V} (hg : Gl X x) (h : ∃ u, X.mg x = some u ∧ RelV v u) (hd : (x == ("__debug__" : Str)) = false := by decide) : PE X (.Name x pos) (tC v) := by
  obtain ⟨u, hm, r⟩ := h
  exact pe_glob hg hm r hd
theorem e_gl {x : Str} {v : V} {d : PyData} (hg : Gl X x) (h : Cn K X.mg x v d) (hd : (x == ("__debug__" : Str)) = false := by decide) : QE X K T W (.Name x pos) (tC v) (mC d) := ⟨pe_gc hg h.g hd, sim_c h.d⟩
/-! ### operations -/
theorem e_add (ha : QE X K T W a ta ma) (hb : QE X K T W b tb mb) (hK : X.K = K := by rfl) : QE X K T W (.BinOp a .Add b pos) (tOp (rAdd4 K) ta tb) (mOp fAdd ma mb) := by
  subst hK
  exact ⟨pe_op (opOr op_add (opOr op_add_str (opOr op_catL op_catA))) ha.p hb.p, sim_op ps_add ha.s hb.s⟩
theorem e_sub (ha : QE X K T W a ta ma) (hb : QE X K T W b tb mb) : QE X K T W (.BinOp a .Sub b pos) (tOp (rI0 fun i j => .int (i - j)) ta tb) (mOp fSub ma mb) := ⟨pe_op op_sub ha.p hb.p, sim_op ps_I0 ha.s hb.s⟩
theorem e_mul (ha : QE X K T W a ta ma) (hb : QE X K T W b tb mb) (hK : X.K = K := by rfl) : QE X K T W (.BinOp a .Mult b pos) (tOp (rMul3 K) ta tb) (mOp fMul ma mb) := by
  subst hK
  exact ⟨pe_op (opOr op_mul (opOr op_mulW op_repT)) ha.p hb.p, sim_op ps_mul ha.s hb.s⟩
theorem e_fdiv (ha : QE X K T W a ta ma) (hb : QE X K T W b tb mb) : QE X K T W (.BinOp a .FloorDiv b pos) (tOp (rI CDivW fun i j => .int (i / j)) ta tb) (mOp fFdiv ma mb) := ⟨pe_op op_fdivW ha.p hb.p, sim_op ps_I2 ha.s hb.s⟩
theorem e_mod (ha : QE X K T W a ta ma) (hb : QE X K T W b tb mb) : QE X K T W (.BinOp a .Mod b pos) (tOp (rI (fun _ j => 0 < j) fun i j => .int (i % j)) ta tb) (mOp fMod ma mb) := ⟨pe_op op_mod ha.p hb.p, sim_op ps_I2 ha.s hb.s⟩
theorem e_pow (ha : QE X K T W a ta ma) (hb : QE X K T W b tb mb) : QE X K T W (.BinOp a .Pow b pos) (tOp (rI CPow fun i j => .int (i ^ j.toNat)) ta tb) (mOp fPow ma mb) := ⟨pe_op op_pow ha.p hb.p, sim_op ps_I2 ha.s hb.s⟩
theorem e_neg (ha : QE X K T W a ta ma) : QE X K T W (.UnaryOp .USub a pos) (tUn (rU fun i => .int (-i)) ta) (mUn fNeg ma) := ⟨pe_un un_neg ha.p, sim_un ps_neg ha.s⟩
/-- a comparison: what its operator does -/
structure Cm (X : Cx) (K : PySem.W.Frag) (op : CmpOp) (r : R2) (f : PyData → PyData → FO) : Prop where
  o : OpR X (compareOp op) r
  s : PS2 K r f
theorem c_eq (hu : X.A.units + 64 < cLine) (hK : X.K = K := by rfl) : Cm X K .Eq (orR (rEqD K) (rEqNil K)) fEq := by subst hK; exact ⟨opOr (op_eqD hu) (op_eqNil (by omega)), ps_eq⟩
theorem c_ne (hu : X.A.units + 64 < cLine) (hK : X.K = K := by rfl) : Cm X K .NotEq (rNeD K) fNe := by subst hK; exact ⟨op_neD hu, ps_ne⟩
theorem c_lt : Cm X K .Lt (orR (rI0 fun i j => .bl (decide (i < j))) (rSS fun a b => decide (a.cps.toList < b.cps.toList))) fLt := ⟨opOr op_lt op_lt_str, ps_cmp⟩
theorem c_gt : Cm X K .Gt (orR (rI0 fun i j => .bl (decide (j < i))) (rSS fun a b => decide (b.cps.toList < a.cps.toList))) fGt := ⟨opOr op_gt op_gt_str, ps_cmp⟩
theorem c_ge : Cm X K .GtE (orR (rI0 fun i j => .bl (decide (j ≤ i))) (rSS fun a b => !decide (a.cps.toList < b.cps.toList))) fGe := ⟨opOr op_ge op_ge_str, ps_cmp⟩
theorem c_le (hu : X.A.units < cLine) (hK : X.K = K := by rfl) : Cm X K .LtE (orR (rLeT K) (orR (rI0 fun i j => .bl (decide (i ≤ j))) (rSS fun a b => !decide (b.cps.toList < a.cps.toList)))) fLe := by
  subst hK; exact ⟨opOr (op_leT hu) (opOr op_le op_le_str), ps_le⟩
theorem c_in (hu : X.A.units + 65 < cLine) (hK : X.K = K := by rfl) : Cm X K .In (rIn3 K) fIn := by subst hK; exact ⟨opOr (op_inD hu) (opOr (op_inDT hu) op_in_sign), ps_in⟩
theorem c_notIn (hu : X.A.units + 65 < cLine) (hK : X.K = K := by rfl) : Cm X K .NotIn (rNotIn3 K) fNotIn := by subst hK; exact ⟨opOr (op_notInD hu) (opOr (op_notInDT hu) op_notIn_sign), ps_notIn⟩
theorem c_isN : Cm X K .Is (fun x y H Q => y = .non ∧ Q (.bl (decide (x = .non))) H) fIsN := ⟨op_isN, ps_isN⟩
theorem c_notN : Cm X K .IsNot (fun x y H Q => y = .non ∧ Q (.bl (!decide (x = .non))) H) fNotN := ⟨op_notN, ps_notN⟩
theorem c_isB : Cm X K .Is rIsB fIsB := ⟨op_isBl, ps_isB⟩
theorem c_notB : Cm X K .IsNot rNotB fNotB := ⟨op_notBl, ps_notB⟩
theorem e_cmp {op : CmpOp} {r : R2} {f : PyData → PyData → FO} (h : Cm X K op r f) (ha : QE X K T W a ta ma) (hb : QE X K T W b tb mb) (hm : behindInMarks op b = false) : QE X K T W (.Compare a [op] [b] pos) (tOp r ta tb) (mOp f ma mb) := ⟨pe_cmpR h.o ha.p hb.p hm, sim_op h.s ha.s hb.s⟩
theorem t_cmp {op : CmpOp} {r : R2} {f : PyData → PyData → FO} (h : Cm X K op r f) (ha : QE X K T W a ta ma) (hb : QE X K T W b tb mb) (hm : behindInMarks op b = false) : QT X K T W (.Compare a [op] [b] pos) (tTest (tOp r ta tb)) (mB (mOp f ma mb)) := ⟨pt_cmpR h.o ha.p hb.p hm, sim_test (sim_op h.s ha.s hb.s)⟩
theorem e_chain {op op' : CmpOp} {r r' : R2} {f f' : PyData → PyData → FO} (h : Cm X K op r f) (h' : Cm X K op' r' f') (ha : QE X K T W a ta ma) (hb : QE X K T W b tb mb) (hc : QE X K T W c tc mc) (hm : lastMarks [op, op'] [b, c] = false := by with_unfolding_all rfl) :
    QE X K T W (.Compare a [op, op'] [b, c] pos) (tChain r r' ta tb tc) (mChain f f' (mD ma) (mD mb) (mD mc)) := ⟨pe_chain h.o h'.o ha.p hb.p hc.p hm, sim_chain h.s h'.s (sim_d ha.s) (sim_d hb.s) (sim_d hc.s)⟩
theorem t_chain {op op' : CmpOp} {r r' : R2} {f f' : PyData → PyData → FO} (h : Cm X K op r f) (h' : Cm X K op' r' f') (ha : QE X K T W a ta ma) (hb : QE X K T W b tb mb) (hc : QE X K T W c tc mc) (hm : lastMarks [op, op'] [b, c] = false := by with_unfolding_all rfl) :
    QT X K T W (.Compare a [op, op'] [b, c] pos) (tTest (tChain r r' ta tb tc)) (mB (mChain f f' (mD ma) (mD mb) (mD mc))) := ⟨pt_chain h.o h'.o ha.p hb.p hc.p hm, sim_test (sim_chain h.s h'.s (sim_d ha.s) (sim_d hb.s) (sim_d hc.s))⟩
/-! ### tests -/
theorem t_val (ha : QE X K T W a ta ma) (he : ∀ whole, isTrue a X.env whole = (do let v ← whole; standAt a.pos; holding [v] (truthy v)) := by intro _; rfl) : QT X K T W a (tB ta) (mB ma) := ⟨pt_val ha.p he, sim_b ha.s⟩
theorem t_not (ha : QT X K T W a tA mA) : QT X K T W (.UnaryOp .Not a pos) (tNot tA) (mNot mA) := ⟨pt_not ha.p, sim_not ha.s⟩
theorem w_and1 (ha : QT X K T W a tA mA) : QW X K T W (.BoolOp .And [a] pos) tA mA := ⟨pw_and1 ha.p, ha.s⟩
theorem w_or1 (ha : QT X K T W a tA mA) : QW X K T W (.BoolOp .Or [a] pos) tA mA := ⟨pw_or1 ha.p, ha.s⟩
theorem w_and (ha : QT X K T W a tA mA) (hb : QW X K T W (.BoolOp .And (b :: rest) pos) tB' mB') : QW X K T W (.BoolOp .And (a :: b :: rest) pos) (tAnd tA tB') (mAnd mA mB') := ⟨pw_and ha.p hb.p, sim_and ha.s hb.s⟩
theorem w_or (ha : QT X K T W a tA mA) (hb : QW X K T W (.BoolOp .Or (b :: rest) pos) tB' mB') : QW X K T W (.BoolOp .Or (a :: b :: rest) pos) (tOr tA tB') (mOr mA mB') := ⟨pw_or ha.p hb.p, sim_or ha.s hb.s⟩
theorem t_w (h : QW X K T W a tA mA) : QT X K T W a tA mA := ⟨h.p.pt, h.s⟩
theorem e_one {op} (ha : QE X K T W a ta ma) : QE X K T W (.BoolOp op [a] pos) ta ma := ⟨pe_one ha.p, ha.s⟩
theorem e_and (ha : QE X K T W a ta ma) (hb : QE X K T W (.BoolOp .And (b :: rest) pos) tb mb) : QE X K T W (.BoolOp .And (a :: b :: rest) pos) (tAndV ta tb) (mAndV (mB ma) mb) := ⟨pe_and ha.p hb.p, sim_andV ha.s hb.s⟩
theorem e_or (ha : QE X K T W a ta ma) (hb : QE X K T W (.BoolOp .Or (b :: rest) pos) tb mb) : QE X K T W (.BoolOp .Or (a :: b :: rest) pos) (tOrV ta tb) (mOrV (mB ma) mb) := ⟨pe_or ha.p hb.p, sim_orV ha.s hb.s⟩
theorem e_not (ha : QE X K T W a ta ma) : QE X K T W (.UnaryOp .Not a pos) (tNotV ta) (mNotV (mB ma)) := ⟨pe_not ha.p, sim_notV ha.s⟩
theorem e_if (hc : QT X K T W c tA mA) (ha : QE X K T W a ta ma) (hb : QE X K T W b tb mb) : QE X K T W (.IfExp c a b pos) (tIf tA ta tb) (mIfE mA ma mb) := ⟨pe_ifExp hc.p ha.p hb.p, sim_ifE hc.s ha.s hb.s⟩
/-! ### arguments, displays -/
theorem a_nil : QA X K T W [] tNil mNil := ⟨pa_nil, sim_nil⟩
theorem a_cons (ha : QE X K T W e te me) (hr : QA X K T W es tr mr) (hs : starEach (e :: es) X.env = (false, eval e X.env) :: starEach es X.env := by rfl) : QA X K T W (e :: es) (tCons te tr) (mCons me mr) := ⟨pa_cons ha.p hr.p hs, sim_cons ha.s hr.s⟩
/-- .. frozen -/
theorem f_cons (ha : QE X K T W e te me) (hr : QA X K T W es tr mr) (hs : starEach (e :: es) X.env = (false, eval e X.env) :: starEach es X.env := by rfl) : QA X K T W (e :: es) (tCons te tr) (mCons (mFz me) mr) := ⟨pa_cons ha.p hr.p hs, sim_cons (sim_fz ha.s) hr.s⟩
/-- .. moved -/
theorem m_cons (ha : QE X K T W e te me) (hr : QA X K T W es tr mr) (hs : starEach (e :: es) X.env = (false, eval e X.env) :: starEach es X.env := by rfl) : QA X K T W (e :: es) (tCons te tr) (mCons (mMv me) mr) := ⟨pa_cons ha.p hr.p hs, sim_cons (sim_mv ha.s) hr.s⟩
theorem f_star (ha : QE X K T W e te me) (hr : QA X K T W es tr mr) (hK : X.K = K := by rfl) (hs : starEach (.Starred e pos :: es) X.env = (true, eval e X.env) :: starEach es X.env := by rfl) : QA X K T W (.Starred e pos :: es) (StX.tStar K te tr) (mStar me mr) := by
  subst hK; exact ⟨StX.pa_star ha.p hr.p hs, sim_star ha.s hr.s rfl⟩
theorem e_tup {x1} (h : QA X K T W es tr mr) : QE X K T W (.Tuple es x1 pos) (tTup tr) (mDis (fun ds => .dat (.tuple ds)) mr) := ⟨pe_tup h.p, sim_tup h.s⟩
theorem e_lst (h : QA X K T W es tr mr) : QE X K T W (.List es pos) (tLst tr) (mDis (fun ds => .lst ds) mr) := ⟨pe_lst h.p, sim_lst h.s⟩
theorem e_dnew : QE X K T W (.Dict [] [] pos) tDNewK mDNew := ⟨pe_dnewK, sim_dnew⟩
/-! ### items, slices -/
theorem e_ix (ha : QE X K T W a ta ma) (hb : QE X K T W b tb mb) (hs : PlainIx b) (hK : X.K = K := by rfl) : QE X K T W (.Subscript a b pos) (tOp (rIx K) ta tb) (mOp fIx ma mb) := by
  subst hK; exact ⟨pe_ix ix_seq ha.p hb.p hs, sim_op ps_ix ha.s hb.s⟩
theorem o_none : QO X K T W none tNoPart mONone := ⟨po_none, sim_onone⟩
theorem o_some (h : QE X K T W e te me) : QO X K T W (some e) (tPart te) (mOSome (mD me)) := ⟨po_some h.p, sim_osome (sim_d h.s)⟩
theorem e_sl {lo hi : Option Expr} {tl th : TO} {ml mh : MO} {p2 : Pos} (he : QE X K T W e te me) (hl : QO X K T W lo tl ml) (hh : QO X K T W hi th mh) (hK : X.K = K := by rfl) : QE X K T W (.Subscript e (.Slice lo hi none p2) pos) (tSl (rSl3 K) te tl th) (mSl me ml mh) := by
  subst hK; exact ⟨pe_slice (slOr sl_list (slOr sl_tupA sl_str)) he.p hl.p hh.p, sim_sl he.s hl.s hh.s rfl⟩
/-! ### calls of built-ins -/
theorem e_cb {id : String} {x : Str} {p : Pos} {r : List V → Hp → VK → Prop} {f : List PyData → FO} (hc : CallR X (.builtin id) r) (hf : PSim K r f) (hg : Gl X x) (hm : X.mg x = none) (hv : bootBuiltins x = some (.builtin id)) (ha : QA X K T W (e :: es) tr mr)
    (hn : x ≠ "__name__" := by decide) (hdb : (x == ("__debug__" : Str)) = false := by decide) (he : starEach (e :: es) X.env = (false, eval e X.env) :: starEach es X.env := by rfl) (hpl : (backTo pos (starEach es X.env)).any (·.1) = false := by rfl) :
    QE X K T W (.Call (.Name x p) (e :: es) [] pos) (tCB r tr) (mCB f mr) := ⟨pe_callB hc hg hm hv ha.p hn hdb he hpl, sim_cb hf ha.s⟩
theorem e_cty {t : String} {x : Str} {p : Pos} {r : List V → Hp → VK → Prop} {f : List PyData → FO} (hc : CallR X (.type t) r) (hf : PSim K r f) (hg : Gl X x) (hm : X.mg x = none) (hv : bootBuiltins x = some (.type t)) (ha : QA X K T W (e :: es) tr mr)
    (hn : x ≠ "__name__" := by decide) (hdb : (x == ("__debug__" : Str)) = false := by decide) (he : starEach (e :: es) X.env = (false, eval e X.env) :: starEach es X.env := by rfl) (hpl : (backTo pos (starEach es X.env)).any (·.1) = false := by rfl) :
    QE X K T W (.Call (.Name x p) (e :: es) [] pos) (tCB r tr) (mCB f mr) := ⟨pe_callTy hc hg hm hv ha.p hn hdb he hpl, sim_cb hf ha.s⟩
end
end Mk

/-! part MkC -/
/-! Mk, part 12: calls of defs, comprehensions, statements, defs. -/
namespace Mk
open PySem PySem.Spec PyProof.Rows L2 Evl Lk LamX
section
variable {X : Cx} {K : PySem.W.Frag} {T : List (Addr × Str)} {W : WX} {a b c e : Expr} {es : List Expr} {ta tb tc te : TE} {ma mb mc me : ME} {pos : Pos} {tA tB' : TT} {mA mB' : MT} {rest : List Stmt} {tr : TA} {mr : MA} {st : Stmt} {ts us : TS} {ms ns : MS} {sts stt : List Stmt}
/-! ### calls of defs -/
/-- the def x of the module does G -/
abbrev Cd (P : Program) (w : World) (K : PySem.W.Frag) (mg : Str → Option Value) (base : Heap) (T : List (Addr × Str)) (k : Nat) (x : Str) (G : Den) : Prop := Cl P w K mg base (L2.CX P w) k x (spM K T G)
abbrev Cdk (P : Program) (w : World) (K : PySem.W.Frag) (mg : Str → Option Value) (base : Heap) (T : List (Addr × Str)) (k : Nat) (x : Str) (ks : List Str) (G : Den) : Prop := Cw P w K mg base (L2.CX P w) k x ks (spM K T G)
section
variable {k j : Nat} {x : Str} {G : Den} {p : Pos}
/-- .. that may raise -/
theorem e_call (tk : Takes X W) (h : Cd X.prog X.w X.K X.mg X.base T k x G) (hr : Room j X.A) (hk : k ≤ j) (hg : Gl X x) (ha : QA X K T W (e :: es) tr mr) (hK : X.K = K := by rfl)
    (hdb : (x == ("__debug__" : Str)) = false := by decide) (he : starEach (e :: es) X.env = (false, eval e X.env) :: starEach es X.env := by rfl) (hpl : (backTo pos (starEach es X.env)).any (·.1) = false := by rfl) :
    QE X K T W (.Call (.Name x p) (e :: es) [] pos) (tCallS (spM K T G) (fun σ cls d H => W cls d σ H) tr) (mCall G mr) := by
  subst hK
  exact ⟨pe_kR tk h hr hk hg ha.p hdb he hpl, sim_call ha.s⟩
/-- .. that does not raise here -/
theorem e_call0 (h : Cd X.prog X.w X.K X.mg X.base T k x G) (hr : Room j X.A) (hk : k ≤ j) (hg : Gl X x) (ha : QA X K T W (e :: es) tr mr) (hK : X.K = K := by rfl)
    (hdb : (x == ("__debug__" : Str)) = false := by decide) (he : starEach (e :: es) X.env = (false, eval e X.env) :: starEach es X.env := by rfl) (hpl : (backTo pos (starEach es X.env)).any (·.1) = false := by rfl) :
    QE X K T W (.Call (.Name x p) (e :: es) [] pos) (tCall (spM K T G) [] E0 tr) (fun s Q X => mCall G mr s Q fun _ _ => False) := by
  subst hK
  exact ⟨pe_kX h hr hk hg ha.p hdb he hpl, sim_call0 ha.s⟩
theorem k_nil : QK X K T W [] tNil mNil := ⟨pk_nil, sim_nil⟩
theorem k_cons {nm : Option Str} {kpos : Pos} {kws : List Keyword} (ha : QE X K T W e te me) (hr : QK X K T W kws tr mr) : QK X K T W (⟨nm, e, kpos⟩ :: kws) (tCons te tr) (mCons me mr) := ⟨pk_cons ha.p hr.p, sim_cons ha.s hr.s⟩
/-- f(k = v, ..), in the parameters' order -/
theorem e_kw0 {kws : List Keyword} {ks : List Str} (h : Cdk X.prog X.w X.K X.mg X.base T k x ks G) (hr : Room j X.A) (hk : k ≤ j) (hg : Gl X x) (hkw : QK X K T W kws tr mr) (hK : X.K = K := by rfl)
    (hall : (backToKw pos (keywordEach kws X.env)).all (·.1.isSome) = true := by rfl) (hks : (backToKw pos (keywordEach kws X.env)).filterMap (·.1) = ks := by rfl) (hdb : (x == ("__debug__" : Str)) = false := by decide)
    (hpl : ((backTo pos (starEach [] X.env)).any (·.1) || (backToKw pos (keywordEach kws X.env)).any (·.1.isNone)) = false := by rfl) :
    QE X K T W (.Call (.Name x p) [] kws pos) (tCallK (spM K T G) (fun vs zs => vs ++ zs) E0 tNil tr) (fun s Q X => mCall G mr s Q fun _ _ => False) := by
  subst hK
  refine ⟨pe_kwX h hr hk hg hkw.p hall hks hdb hpl, ?_⟩
  have q := sim_call0 (W := W) (G := G) hkw.s
  intro σ0 σ H s R fps I Qm Xm hm hx Q hQ
  have q2 := q σ0 σ H s R fps I Qm Xm hm hx Q hQ
  have e : (fun (vs : List V) (H1 : Hp) => spM X.K T G (vs ++ []) H1 Q E0) = fun vs H1 => spM X.K T G ([] ++ vs) H1 Q E0 := by
    funext vs H1
    rw [List.append_nil, List.nil_append]
  have q3 : tr σ H fun vs H1 => spM X.K T G (vs ++ []) H1 Q E0 := q2
  rw [e] at q3
  exact q3
end
/-! ### isinstance -/
theorem e_isi {y : Str} {n : String} {f : PyData → Bool} {p q : Pos} (hf : ∀ d, kitB (tyN d) n = some (f d)) (hg : Gl X "isinstance") (hm : X.mg "isinstance" = none) (hg2 : Gl X y) (hm2 : X.mg y = none) (hv2 : bootBuiltins y = some (.type n)) (ha : QE X K T W e te me) (hK : X.K = K := by rfl)
    (hn2 : y ≠ "__name__" := by decide) (hd2 : (y == ("__debug__" : Str)) = false := by decide)
    (he : starEach [e, .Name y q] X.env = (false, eval e X.env) :: starEach [.Name y q] X.env := by rfl) (he2 : starEach [.Name y q] X.env = (false, eval (.Name y q) X.env) :: starEach [] X.env := by rfl) (hpl : (backTo pos (starEach [.Name y q] X.env)).any (·.1) = false := by rfl) :
    QE X K T W (.Call (.Name "isinstance" p) [e, .Name y q] [] pos) (tCB (rIsi K) (tCons te (tCons (tC (.ty n)) tNil))) (mIsi f me) := by
  subst hK
  exact ⟨pe_callB call_isi hg hm (by decide +kernel) (pa_cons ha.p (pa_cons (pe_bltn (v := .ty n) hg2 hm2 hv2 rfl hn2 hd2) pa_nil he2) he) (by decide) (by decide) he hpl, sim_isi ha.s hf rfl⟩
theorem e_isE {y : Str} {C : Addr} {p q : Pos} (hg : Gl X "isinstance") (hm : X.mg "isinstance" = none) (hg2 : Gl X y) (hm2 : X.mg y = some (.ref C)) (ha : QE X K T W e te me) (hC : ClsV (.ref C) (.ref C)) (hK : X.K = K := by rfl) (hd2 : (y == ("__debug__" : Str)) = false := by decide)
    (he : starEach [e, .Name y q] X.env = (false, eval e X.env) :: starEach [.Name y q] X.env := by rfl) (he2 : starEach [.Name y q] X.env = (false, eval (.Name y q) X.env) :: starEach [] X.env := by rfl) (hpl : (backTo pos (starEach [.Name y q] X.env)).any (·.1) = false := by rfl) :
    QE X K T W (.Call (.Name "isinstance" p) [e, .Name y q] [] pos) (tCB (orC (rIsEV K) (rIsi K)) (tCons te (tCons (tC (.ref C)) tNil))) (mIsE K C me) := by
  subst hK
  exact ⟨pe_callB (callOr call_isEV call_isi) hg hm (by decide +kernel) (pa_cons ha.p (pa_cons (pe_gc hg2 ⟨_, hm2, rfl⟩ hd2) pa_nil he2) he) (by decide) (by decide) he hpl, sim_isE ha.s hC rfl⟩
/-! ### tuple(x), list(x) -/
theorem e_tuple {p : Pos} (hg : Gl X "tuple") (hm : X.mg "tuple" = none) (ha : QE X K T W a ta ma) (hK : X.K = K := by rfl) (na : starEach [a] X.env = (false, eval a X.env) :: starEach [] X.env := by rfl) :
    QE X K T W (.Call (.Name "tuple" p) [a] [] pos) (tThen ta (kTup K)) (mUn fTuple ma) := by
  subst hK
  exact ⟨pe_tupleOf hg hm ha.p na, (sim_un ps_tuple ha.s : SimE X.K T W (tUn (kTup X.K) ta) (mUn fTuple ma))⟩
/-! ### methods of lists -/
theorem ls_append : LSim K rAppend (fun ds es Q => match es with
    | [e] => ds.length < 100000 ∧ Q (ds ++ [e]) .none
    | _ => False) := by
  intro F H a vs ds xs es Qo Q ex ha hd he hf k
  cases he with
  | nil => exact hf.elim
  | cons h1 h2 =>
    cases h2 with
    | cons _ _ => exact hf.elim
    | nil => exact ⟨a, vs, _, rfl, rfl, ha, sz_lt (by rw [dps_len hd]; exact hf.1), k _ _ _ _ (dps_app hd (.cons h1 .nil)) .non hf.2⟩
def fAppend : List PyData → List PyData → (List PyData → PyData → Prop) → Prop := fun ds es Q => match es with
    | [e] => ds.length < 100000 ∧ Q (ds ++ [e]) .none
    | _ => False
theorem e_lm {i : Nat} {x name : Str} {id : String} {r : V → List V → Hp → VK → Prop} {f : List PyData → List PyData → (List PyData → PyData → Prop) → Prop} {xp apos cpos : Pos} (pa : PlainAttrs "list") (slot : Slot "list" name id) (hty : typeOf (.builtin id) = pure (.type "method_descriptor")) (hm : MtR X id r) (hf : LSim K r f)
    (hN : X.N[i]? = some x) (hv : Vis X.env.scope x) (hd : (x == ("__debug__" : Str)) = false) (hcd : (x == ("__classdict__" : Str)) = false) (ha : QA X K T W (e :: es) tr mr) (hK : X.K = K := by rfl)
    (hbase : attributeBase (.Name x xp) name X.env (eval (.Name x xp) X.env) = eval (.Name x xp) X.env := by rfl)
    (hfew : ((backTo cpos (starEach (e :: es) X.env)).all (fun x => !x.1) && (backToKw cpos (keywordEach [] X.env)).all (fun x => x.1.isSome)
      && decide ((e :: es).length + ([] : List Keyword).length + (if ([] : List Keyword).isEmpty then 0 else 1) < 30)) = true := by rfl)
    (hline : (apos.endLine == cpos.line) = true := by rfl) (hs : starEach (e :: es) X.env = (false, eval e X.env) :: starEach es X.env := by rfl) (hplain : (backTo cpos (starEach es X.env)).any (·.1) = false := by rfl) :
    QE X K T W (.Call (.Attribute (.Name x xp) name apos) (e :: es) [] cpos) (tBM K "list" r (tVar i) tr) (mLM f i mr) := by
  subst hK
  exact ⟨pe_bm pa slot hty hm (pe_var hN hv hd hcd) ha.p hbase hfew hline hs hplain, sim_lm hf ha.s rfl⟩
/-! ### dicts -/
theorem e_get2 {f : Expr} {tf : TE} {mf : ME} {apos cpos : Pos} {o : Expr} {to : TE} {mo : ME} (hu : X.A.units + 1 < cLine) (ho : QE X K T W o to mo) (he : QE X K T W e te me) (hf : QE X K T W f tf mf) (m : M2 X o "get" apos e f cpos) :
    QE X K T W (.Call (.Attribute o "get" apos) [e, f] [] cpos) (tDGet2 to te tf) (mGet2 mo (mD me) (mD mf)) := ⟨pe_dget2 hu ho.p he.p hf.p m, sim_get2 ho.s (sim_d he.s) (sim_d hf.s)⟩
/-! ### what is walked -/
theorem i_any {tg : Expr} (h : QE X K T W e te me) (hK : X.K = K := by rfl) : QI X K T W tg e (iAny K te) (mIt me) := by subst hK; exact ⟨pi_any h.p, sim_it h.s rfl⟩
theorem i_rng1 {tg : Expr} {p : Pos} (hg : Gl X "range") (hm : X.mg "range" = none) (ha : QA X K T W [a] tr mr) (hs : starEach [a] X.env = [(false, eval a X.env)] := by rfl) : QI X K T W tg (.Call (.Name "range" p) [a] [] pos) (iRng1 tr) (fun s Q X => mr s (fun rs s1 => match dats rs with
  | some [.int j] => -(2 ^ 62) ≤ j ∧ j < 2 ^ 62 ∧ Q (intsFrom 0 j.toNat) s1
  | _ => False) X) := ⟨pi_range1 hg hm ha.p hs, sim_rng1' ha.s⟩
theorem i_rng2 {tg : Expr} {p : Pos} (hg : Gl X "range") (hm : X.mg "range" = none) (ha : QA X K T W [a, b] tr mr) (hs : starEach [a, b] X.env = [(false, eval a X.env), (false, eval b X.env)] := by rfl) (hs2 : starEach [b] X.env = [(false, eval b X.env)] := by rfl) :
    QI X K T W tg (.Call (.Name "range" p) [a, b] [] pos) (iRng2 tr) (fun s Q X => mr s (fun rs s1 => match dats rs with
  | some [.int i, .int j] => (-(2 ^ 62) ≤ i ∧ i < 2 ^ 62 ∧ -(2 ^ 62) ≤ j ∧ j < 2 ^ 62) ∧ Q (intsFrom i (j - i).toNat) s1
  | _ => False) X) := ⟨pi_range2 hg hm ha.p hs hs2, sim_rng2' ha.s⟩
/-! ### targets -/
theorem g_n {i : Nat} {x : Str} (hN : X.N.Nodup) (hi : X.N[i]? = some x) (hx : Loc X.env.scope x) (hf : X.fn x = true ∨ X.env.scope.names.lookup x = some .local := by first | exact .inl rfl | exact .inr rfl | assumption) : QG X K T (.Name x pos) (gName i) (mgN i) := ⟨pg_name hN hi hx hf, simg_n, gmono_n⟩
theorem gs_nil : QGs X K T [] gNil mgNil := ⟨pgs_nil, simgs_nil, gsmono_nil⟩
theorem gs_cons {tg : TG} {tgs : TGs} {m : MG} {mm : MGs} (h1 : QG X K T e tg m) (h2 : QGs X K T es tgs mm) (hs : (assignEach (e :: es) X.env).map (·.2) = assign e X.env :: (assignEach es X.env).map (·.2) := by rfl) : QGs X K T (e :: es) (gCons tg tgs) (mgCons m mm) := ⟨pgs_cons h1.p h2.p hs, simgs_cons h1.s h2.s, gsmono_cons h1.o h2.o⟩
theorem g_tup {j : Nat} {tgs : TGs} {mm : MGs} {n : Nat} (hc : X.calm = true) (h : QGs X K T es tgs mm) (hK : X.K = K := by rfl) (hn : (assignEach es X.env).length = n := by rfl) (hst : (assignEach es X.env).findIdx? (·.1) = none := by rfl) : QG X K T (.Tuple es j pos) (gTup K n tgs) (mgT n mm) := by
  subst hK; exact ⟨pg_tup hc h.p hn hst, simg_t h.s rfl, gmono_t h.o⟩
/-! ### comprehensions -/
section
variable (X : Cx) (K : PySem.W.Frag) (T : List (Addr × Str)) (W : WX)
structure QTs (ifs : List Expr) (tt : TT) (m : MT) : Prop where
  p : PTs X ifs tt
  s : SimT K T W tt m
end
theorem ts_nil : QTs X K T W [] tYes mYes := ⟨pts_nil, sim_yes⟩
theorem ts_one (h : QT X K T W c tA mA) : QTs X K T W [c] tA mA := ⟨pts_one h.p, h.s⟩
abbrev W0 : WX := fun _ _ _ _ => False
theorem e_lc {elt tg iter : Expr} {ifs : List Expr} {scope : Scope} {own : List (Str × Nat)} {wi : TI} {g : TG} {tt : TT} {mi : MI} {mg : MG} {mt : MT} (hc : X.calm = true) (hN : X.N.Nodup) (hi : QI X K T W tg iter wi mi) (ok : BlkOk X.N X.env.scope scope own)
    (hg : ∀ (s : Shared) (H : Hp) (C : Addr) (cl : List (Str × Addr)) (fp : List Addr), QG (X.blk s H scope (compEnvC scope cl C X.env) fp) K T tg g mg) (ho : GOnly g (own.map (·.2)))
    (ht : ∀ (s : Shared) (H : Hp) (C : Addr) (cl : List (Str × Addr)) (fp : List Addr), QTs (X.blk s H scope (compEnvC scope cl C X.env) fp) K T W0 ifs tt mt)
    (he : ∀ (s : Shared) (H : Hp) (C : Addr) (cl : List (Str × Addr)) (fp : List Addr), QE (X.blk s H scope (compEnvC scope cl C X.env) fp) K T W0 elt te me)
    (hs : ∀ x, foldedSetIterable iter X.env x = pure x := by intro _; rfl) : QE X K T W (.ListComp elt [⟨tg, iter, ifs, 0⟩] scope pos) (tLc wi g tt te (own.map (·.2))) (mLc mi mg mt me (own.map (·.2))) :=
  ⟨pe_lc hc hN hi.p ok (fun s H C cl fp => (hg s H C cl fp).p) (fun s H C cl fp => (ht s H C cl fp).p) (fun s H C cl fp => (he s H C cl fp).p) hs,
    sim_lc hi.s (hg X.s_0 X.H_0 0 [] []).s ho (hg X.s_0 X.H_0 0 [] []).o (ht X.s_0 X.H_0 0 [] []).s (he X.s_0 X.H_0 0 [] []).s⟩
/-! ### statements -/
theorem b_nil : QB X K T W [] tNext mNext := ⟨pss_nil, sim_next⟩
theorem b_cons (h1 : QS X K T W st ts ms) (h2 : QB X K T W sts us ns) : QB X K T W (st :: sts) (tSeq ts us) (mSeq ms ns) := ⟨pss_cons h1.p h2.p, sim_seq h1.s h2.s⟩
theorem b_one (h1 : QS X K T W st ts ms) : QB X K T W [st] ts ms := ⟨pss_one h1.p, h1.s⟩
theorem s_expr (he : QE X K T W e te me) (hs : swapsWith e none pos.line X.env = pure false := by rfl) : QS X K T W (.Expr e pos) (tDrop te) (mDrop me) := ⟨ps_expr he.p hs, sim_drop he.s⟩
theorem s_ret (he : QE X K T W e te me) : QS X K T W (.Return (some e) pos) (tRet te) (mRet me) := ⟨ps_ret he.p, sim_ret he.s⟩
theorem s_if (hc : QT X K T W c tA mA) (h1 : QB X K T W sts ts ms) (h2 : QB X K T W stt us ns) : QS X K T W (.If c sts stt pos) (tIfS tA ts us) (mIf mA ms ns) := ⟨ps_if hc.p h1.p h2.p, sim_if hc.s h1.s h2.s⟩
theorem s_while (hp : PassesOwn (model X.prog X.w) X.A X.env X.xe) (hc : QT X K T W c tA mA) (h1 : QB X K T W sts ts ms) : QS X K T W (.While c sts [] pos) (tWhile tA ts) (mWhile mA ms) := ⟨ps_while hp hc.p h1.p, sim_while hc.s h1.s⟩
theorem s_for {tg iter : Expr} {wi : TI} {mi : MI} {g : TG} {mg : MG} (hp : PassesOwn (model X.prog X.w) X.A X.env X.xe) (hc : X.calm = true) (hi : QI X K T W tg iter wi mi) (hg : QG X K T tg g mg) (h1 : QB X K T W sts ts ms) (hs : ∀ x, foldedSetIterable iter X.env x = pure x := by intro _; rfl) :
    QS X K T W (.For tg iter sts [] pos) (tFor wi g ts) (mFor mi mg ms) := ⟨ps_for hp hc hi.p hg.p h1.p hs, sim_for hi.s hg.s h1.s⟩
theorem s_set {i : Nat} {x : Str} {pos' : Pos} (hN : X.N.Nodup) (hi : X.N[i]? = some x) (hx : Loc X.env.scope x) (he : QE X K T W e te me) (hs : swapsWith e (some (.Name x pos')) pos.line X.env = pure false := by rfl) (hf : X.fn x = true ∨ X.env.scope.names.lookup x = some .local := by first | exact .inl rfl | exact .inr rfl | assumption) :
    QS X K T W (.Assign [.Name x pos'] e pos) (tAsg te (gName i)) (mAsg i me) := ⟨ps_set hN hi hx he.p hs hf, sim_asg he.s⟩
theorem s_setLc {i : Nat} {y : Str} {py : Pos} {elt tg iter : Expr} {ifs : List Expr} {scope : Scope} {own : List (Str × Nat)} {spos : Pos} {wi : TI} {g : TG} {tt : TT} {mi : MI} {mg : MG} {mt : MT} (hc : X.calm = true) (hN : X.N.Nodup) (hy : X.N[i]? = some y) (hyl : X.env.scope.names.lookup y = some .local)
    (hsw : swapsWith (.ListComp elt [⟨tg, iter, ifs, 0⟩] scope pos) (some (.Name y py)) spos.line X.env = pure true) (hi : QI X K T W tg iter wi mi) (ok : BlkOk X.N X.env.scope scope own)
    (hg : ∀ (s : Shared) (H : Hp) (C : Addr) (cl : List (Str × Addr)) (fp : List Addr), QG (X.blk s H scope (compEnvC scope cl C X.env) fp) K T tg g mg) (ho : GOnly g (own.map (·.2)))
    (ht : ∀ (s : Shared) (H : Hp) (C : Addr) (cl : List (Str × Addr)) (fp : List Addr), QTs (X.blk s H scope (compEnvC scope cl C X.env) fp) K T W0 ifs tt mt)
    (he : ∀ (s : Shared) (H : Hp) (C : Addr) (cl : List (Str × Addr)) (fp : List Addr), QE (X.blk s H scope (compEnvC scope cl C X.env) fp) K T W0 elt te me)
    (hs : ∀ x, foldedSetIterable iter X.env x = pure x := by intro _; rfl) : QS X K T W (.Assign [.Name y py] (.ListComp elt [⟨tg, iter, ifs, 0⟩] scope pos) spos) (tAsg (tLc wi g tt te (own.map (·.2))) (gName i)) (mAsg i (mLc mi mg mt me (own.map (·.2)))) :=
  ⟨ps_setLc hc hN hy hyl hsw hi.p ok (fun s H C cl fp => (hg s H C cl fp).p) (fun s H C cl fp => (ht s H C cl fp).p) (fun s H C cl fp => (he s H C cl fp).p) hs,
    sim_asg (sim_lc hi.s (hg X.s_0 X.H_0 0 [] []).s ho (hg X.s_0 X.H_0 0 [] []).o (ht X.s_0 X.H_0 0 [] []).s (he X.s_0 X.H_0 0 [] []).s)⟩
/-- a, b = e -/
theorem s_asgG {tg : Expr} {g : TG} {mg : MG} (he : QE X K T W e te me) (hg : QG X K T tg g mg) (hs : swapsWithSole [tg] e pos.line X.env = pure false := by rfl) (hw : swappedStores [tg] e X.env = pure none := by rfl)
    (h1 : (assignEach [tg] X.env).map (·.2) = [assign tg X.env] := by rfl) : QS X K T W (.Assign [tg] e pos) (tAsg te g) (mAsgG mg (mD me)) := ⟨ps_asg he.p hg.p hs hw h1, sim_asgG (sim_d he.s) hg.s⟩
/-- a, b = x, y -/
theorem s_par {i j : Nat} {x y : Str} {px py pt : Pos} {kt k2 pt2} (hc : X.calm = true) (hN : X.N.Nodup) (hi : X.N[i]? = some x) (hj : X.N[j]? = some y) (hij : i ≠ j)
    (hx : X.env.scope.names.lookup x = some .local) (hy : X.env.scope.names.lookup y = some .local) (ha : QA X K T W [a, b] tr mr)
    (hw : swappedStores [.Tuple [.Name x px, .Name y py] kt pt] (.Tuple [a, b] k2 pt2) X.env = pure (some [x, y]))
    (hs : swapsWithSole [.Tuple [.Name x px, .Name y py] kt pt] (.Tuple [a, b] k2 pt2) pos.line X.env = pure false := by rfl) :
    QS X K T W (.Assign [.Tuple [.Name x px, .Name y py] kt pt] (.Tuple [a, b] k2 pt2) pos) (tPar i j tr) (mPar [i, j] mr) := ⟨ps_par hc hN hi hj hij hx hy ha.p hw hs, sim_par ha.s⟩
end
end Mk

/-! part MkD -/
/-! Mk, part 13: more statements; defs of the text; the draws; what is caught. -/
namespace Mk
open PySem PySem.Spec PyProof.Rows L2 Evl Lk LamX
section
variable {X : Cx} {K : PySem.W.Frag} {T : List (Addr × Str)} {W : WX} {a b c e : Expr} {es : List Expr} {ta tb tc te : TE} {ma mb mc me : ME} {pos : Pos} {tr : TA} {mr : MA}
/-- a, b, .. = x, y, .. by a tuple that nobody keeps -/
theorem s_parN {ts2 : List Expr} {n : Nat} {is : List Nat} {gs : TGs} {mg : MGs} {j1 j2} {pt pt2 : Pos} (hc : X.calm = true) (ha : QA X K T W es tr mr) (hg : QGs X K T ts2 gs mg) (hgs : gs = gNames is) (hn2 : is.length = n) (hz : n ≤ 100000) (hK : X.K = K := by rfl)
    (hn : (assignEach ts2 X.env).length = n := by rfl) (hst : (assignEach ts2 X.env).findIdx? (·.1) = none := by rfl)
    (hs : swapsWithSole [.Tuple ts2 j1 pt] (.Tuple es j2 pt2) pos.line X.env = pure false := by rfl) (hw : swappedStores [.Tuple ts2 j1 pt] (.Tuple es j2 pt2) X.env = pure none := by rfl)
    (h1 : (assignEach [.Tuple ts2 j1 pt] X.env).map (·.2) = [assign (.Tuple ts2 j1 pt) X.env] := by rfl) : QS X K T W (.Assign [.Tuple ts2 j1 pt] (.Tuple es j2 pt2) pos) (tAsg (tTup tr) (gTup K n gs)) (mPar is mr) := by
  subst hK
  exact ⟨ps_asg (pe_tup ha.p) (pg_tup hc hg.p hn hst) hs hw h1, sim_parN ha.s hgs hn2 rfl hz⟩
/-- d[k] = v -/
theorem s_dput {i : Nat} {x : Str} {k v : Expr} {xp pos' : Pos} {tk tv : TE} {mk mv : ME} (hu : X.A.units + 1 < cLine) (hN : X.N[i]? = some x) (hv : Vis X.env.scope x) (hd : (x == ("__debug__" : Str)) = false) (hcd : (x == ("__classdict__" : Str)) = false) (hk : QE X K T W k tk mk) (hx : QE X K T W v tv mv)
    (hs : swapsWith v (some (.Subscript (.Name x xp) k pos')) pos.line X.env = pure false := by rfl) : QS X K T W (.Assign [.Subscript (.Name x xp) k pos'] v pos) (sDPut (tVar i) tk tv) (mDPut i (mD mk) (mD mv)) :=
  ⟨ps_dput hu (pe_var hN hv hd hcd) hk.p hx.p hs, sim_dput (sim_d hk.s) (sim_d hx.s)⟩
/-- x op= e, of ints -/
def mAug (i : Nat) (f : Int → Int → Int) (m : MD) : MS := fun s k => match s.env[i]? with
  | some (some (.dat (.int a))) => m s (fun d s1 => match d with
    | .int b => i ∉ s1.bor ∧ i < s1.env.length ∧ k.nx (putO s1 i (.dat (.int (f a b))))
    | _ => False) k.er
  | _ => False
theorem sim_aug {i : Nat} {f : Int → Int → Int} {m : MD} (h : SimD K T W te m) : SimS K T W (tAug i te (ipI f)) (mAug i f m) := fun σ0 σ H s R fps I D k hm x => by
  unfold mAug at hm
  split at hm
  · rename_i a q
    obtain ⟨v, hv, hA⟩ := I.at_ i _ q
    cases hA with
    | dat hA _ =>
      obtain rfl := dp_int hA
      refine ⟨.int a, hv, h σ0 σ H s R fps I _ k.er hm x.xok _ fun w H1 s1 d fps1 g hd q => ?_⟩
      split at q
      · rename_i b
        obtain rfl := dp_int hd
        obtain ⟨fps3, G3⟩ := put_go (v := .int (f a b)) (o := .dat (.int (f a b))) (fp := nol) (i := i) (g.alt0 fun _ z => z) (.dat (.int _) fun _ z => z) (fun _ z => z.elim) q.2.1 q.1
        exact ⟨a, b, rfl, rfl, x.nx _ H1 _ fps3 G3 q.2.2⟩
      · exact q.elim
  · exact hm.elim
theorem s_aug {i : Nat} {x : Str} {op : Operator} {f : Int → Int → Int} {pos' : Pos} (hN : X.N.Nodup) (hi : X.N[i]? = some x) (hx : Loc X.env.scope x) (he : QE X K T W e te me) (ho : PIp X op (ipI f)) (hf : X.fn x = true ∨ X.env.scope.names.lookup x = some .local := by first | exact .inl rfl | exact .inr rfl | assumption) :
    QS X K T W (.AugAssign (.Name x pos') op e pos) (tAug i te (ipI f)) (mAug i f (mD me)) := ⟨ps_aug hN hi hx he.p ho hf, sim_aug (sim_d he.s)⟩
/-- raise C('..') -/
theorem s_raise {C : Addr} {x m : Str} {j : Nat} {p p2 pos' : Pos} (hc : X.calm = true) (tk : Takes X W) (h : XcT X.K X.mg x C) (hg : Gl X x) (r : Raises X (.ref C)) (hdb : (x == ("__debug__" : Str)) = false := by decide) :
    QS X K T W (.Raise (some (.Call (.Name x p) [.Constant (.str m) j p2] [] pos)) none pos') (fun _ σ H => W (.ref C) none σ H) (mRaise C) :=
  ⟨ps_raise hc tk (pmk_own PySem.F.excBase_ValueError h.ex h.gl h.kp r hg hdb), sim_raise⟩
end
/-! ### defs -/
/-- a def of so many parameters and slots, by its body -/
def runF (p N : Nat) (b : MS) : Den := fun os n Q X => os.length = p ∧ runD N b os n Q X
theorem spM_imp {K : PySem.W.Frag} {T : List (Addr × Str)} {G G' : Den} (h : ∀ os n Q X, G os n Q X → G' os n Q X) {vs : List V} {H : Hp} {Q : VK} {E : XK} (q : spM K T G vs H Q E) : spM K T G' vs H Q E := by
  obtain ⟨os, n, R, fps, Qm, Xm, I, hm, r⟩ := q
  exact ⟨os, n, R, fps, Qm, Xm, I, h _ _ _ _ hm, r⟩
theorem spM_len {K : PySem.W.Frag} {T : List (Addr × Str)} {p N : Nat} {b : MS} {vs : List V} {H : Hp} {Q : VK} {E : XK} (q : spM K T (runF p N b) vs H Q E) : vs.length = p := by
  obtain ⟨os, n, R, fps, Qm, Xm, I, hm, _⟩ := q
  have := I.len
  rw [← hm.1]
  simpa using this
section
variable {P : Program} {w : World} {K : PySem.W.Frag} {mg : Str → Option Value} {base : Heap} {T : List (Addr × Str)} {x qual : Str} {params : Arguments} {body : List Stmt} {scope : Scope} {f : Addr} {fd : FuncData} {N ps : List Str} {k : Nat}
theorem scope_le {N ps : List Str} {scope : Scope} (S : FnScope N ps scope) : ps.length ≤ N.length := by
  have := congrArg List.length S.pre
  rw [List.length_take] at this
  omega
/-- THE RULE for a def, by its body -/
theorem fn_m {b : MS} (D : FunD K x qual params body scope [] [] f fd) (S : FnScope N ps scope)
    (h : ∀ (cdv : Value) (A : Around) (outer : List Env) (s : Shared) (H : Hp) (E : XK), Room k (A.deeper (envOfC qual scope s.heap.objs.size f cdv)) →
      ∃ t, QB (cxOf (L2.CX P w) P w K mg base N qual scope f cdv A outer s H E) K T (fun cls d _ H => E cls d H) body t b) :
    FnOk P w K mg base (L2.CX P w) (k + 1) f fd ps (spM K T (runF ps.length N.length b)) := by
  refine D.ok S (fun vs H Q E q => spM_len q) (fun cdv A outer s H vs Q E hr q => ?_)
  obtain ⟨t, ht⟩ := h cdv A outer s H E hr
  exact ⟨t, ht.p, body_ok (by rw [spM_len q]; exact scope_le S) ht.s (spM_imp (fun _ _ _ _ z => z.2) q)⟩
/-- .. that makes lambdas -/
theorem fn_ml {b : MS} {y : Str} (D : FunD K x qual params body scope [] [] f fd) (hf : f = He.fAd K (y, none)) (S : FnScope N ps scope)
    (h : ∀ (A : Around) (outer : List Env) (s : Shared) (H : Hp) (E : XK), Room k (A.deeper (envOfC qual scope s.heap.objs.size f (.ref (He.codeOf K (y, none))))) →
      ∃ t, QB (cxOf (L2.CX P w) P w K mg base N qual scope f (.ref (He.codeOf K (y, none))) A outer s H E) K T (fun cls d _ H => E cls d H) body t b) :
    FnOk P w K mg base (L2.CX P w) (k + 1) f fd ps (spM K T (runF ps.length N.length b)) := by
  obtain ⟨oc, od, dV, kV, doc, pm, an, cdv, ct, osl, rfl, lk, hcd, _, _⟩ := D.ex
  obtain ⟨c, rfl⟩ := He.codeIn_ref hcd
  have e : He.codeOf K (y, none) = c := He.codeOf_eq (by rw [← hf]; exact lk) rfl
  rw [e] at h
  refine fn_of lk hcd S (fun vs H Q E q => spM_len q) fun A outer s H vs Q E hr q => ?_
  obtain ⟨t, ht⟩ := h A outer s H E hr
  exact ⟨t, ht.p, body_ok (by rw [spM_len q]; exact scope_le S) ht.s (spM_imp (fun _ _ _ _ z => z.2) q)⟩
/-- a def that raises nothing, where one may -/
theorem fnok_cx {sp : Sp} (F : FnOk P w K mg base CX0 k f fd ps sp) : FnOk P w K mg base (L2.CX P w) k f fd ps sp := ⟨F.len, fun A outer s H args us vs Q E hr e0 hb hv hs =>
  codeAny_mono (F.run A outer s H args us vs Q E hr e0 hb hv hs) fun r s' h => by
    cases r with
    | ok fl => cases fl <;> exact h
    | error e => exact h.elim⟩
theorem cw_cx {ks : List Str} {sp : Sp} (c : Cw P w K mg base CX0 k x ks sp) : Cw P w K mg base (L2.CX P w) k x ks sp := by
  obtain ⟨f, fd, ps, F, r⟩ := c.ex
  exact ⟨f, fd, ps, fnok_cx F, r⟩
theorem cw_imp {CX : CXT} {ks : List Str} {sp sp' : Sp} (c : Cw P w K mg base CX k x ks sp) (h : ∀ vs H Q E, sp' vs H Q E → sp vs H Q E) : Cw P w K mg base CX k x ks sp' := by
  obtain ⟨f, fd, ps, F, r⟩ := c.ex
  exact ⟨f, fd, ps, F.imp h, r⟩
end
/-! ### contracts by data -/
section
variable {K : PySem.W.Frag} {T : List (Addr × Str)}
theorem iv_dats {σ0 : L2.St} {H : Hp} {n : Nat} {bo : List Nat} {R : Ad} {fps : Nat → Ad} : ∀ {ds : List PyData} {vs : List V}, Iv K T σ0 (vs.map some) H ⟨(ds.map O.dat).map some, n, bo⟩ R fps → DqAll K (hid (Wf R fps) H) vs ds := by
  intro ds vs I
  have l : vs.length = ds.length := by
    have := I.len
    simpa using this
  have key : ∀ (ds : List PyData) (vs : List V), vs.length = ds.length → (∀ (i : Nat) d, ds[i]? = some d → ∃ v, vs[i]? = some v ∧ Dq K (hid (Wf R fps) H) v d) → DqAll K (hid (Wf R fps) H) vs ds := by
    intro ds
    induction ds with
    | nil =>
      intro vs l _
      have := List.eq_nil_of_length_eq_zero l
      subst this
      exact .nil
    | cons d ds ih =>
      intro vs l h
      match vs, l with
      | v :: vs, l =>
        obtain ⟨w, e, hw⟩ := h 0 d rfl
        cases e
        exact .cons hw (ih vs (by simpa using l) fun i d hd => h (i + 1) d hd)
  refine key ds vs l fun i d hd => ?_
  obtain ⟨v, h1, h2⟩ := I.at_ i (.dat d) (by
    show ((ds.map O.dat).map some)[i]? = _
    rw [List.getElem?_map, List.getElem?_map, hd]; rfl)
  cases h2 with
  | dat h2 _ => exact ⟨v, map_at.mp h1, h2⟩
theorem mut_ex {H H' : Hp} {a : Addr} (e : Ex H H') (m : Mut (H a)) : H' a = H a := by
  cases q : H a with
  | none => rw [q] at m; exact m.elim
  | some o => exact e a o q
/-- the heap goes on by new things alone -/
theorem go_ex {σ0 σ : L2.St} {H H' : Hp} {s : S} {R : Ad} {fps : Nat → Ad} (I : Iv K T σ0 σ H s R fps) (e : Ex H H') : Go K T σ0 H s R fps σ H' s R fps := by
  have g : Gr (Wf R fps) H (Wf R fps) H' := gr_ex e fun _ _ _ n => n
  exact ⟨I.step g (fun i a q => mut_ex e (I.live (.inr ⟨i, q⟩))) I.disR (fun a q => by rw [mut_ex e (I.liv a q)]; exact I.liv a q) (I.tab.ext e), fun a q => mut_ex e (I.liv a q), g, rfl, Nat.le_refl _, fun _ z => z⟩
end
section
variable {P : Program} {w : World} {K : PySem.W.Frag} {mg : Str → Option Value} {base : Heap} {T : List (Addr × Str)} {k : Nat} {x : Str} {R : Rel} {G : Den} {ks : List Str}
end
/-! ### the draws -/
def spMixedA : Sp := fun vs H Q _ => ∃ a g c n, vs = [.ref a] ∧ StA H a g c n ∧ n < far ∧ ∀ x H', Kp a g H H' → StA H' a g c (n + 1) → Q (.int x) H'
def spDrawA : Sp := fun vs H Q _ => ∃ a g c n room, vs = [.ref a, .int room] ∧ StA H a g c n ∧ n < far ∧ 0 < room ∧ room.natAbs.log2 < 9000 ∧ ∀ x H', 0 ≤ x → x < room → Kp a g H H' → StA H' a g c (n + 1) → Q (.int x) H'
def spBegunA (K : PySem.W.Frag) : Sp := fun vs H Q _ => ∃ (l : Addr) (cs : List Int), vs = [.ref l] ∧ SqL K H l (cs.map V.int) ∧ cs.length ≤ 40000 ∧ ∀ a g c H', Ex H H' → StA H' a g c 0 → H a = none → H g = none → H c = none → Q (.ref a) H'
def dDraw : Den := fun os n Q _ => ∃ room, os = [.st, .dat (.int room)] ∧ 0 < room ∧ room.natAbs.log2 < 9000 ∧ n < far ∧ ∀ x, 0 ≤ x → x < room → Q (.dat (.int x)) os (n + 1)
def dBegun : Den := fun os n Q _ => ∃ cs : List Int, os = [.dat (.list (cs.map PyData.int))] ∧ cs.length ≤ 40000 ∧ Q .st os n
section
variable {K : PySem.W.Frag} {T : List (Addr × Str)}
theorem sp_draw {vs : List V} {H : Hp} {Q : VK} {E : XK} (h : spM K T dDraw vs H Q E) : spDrawA vs H Q E := by
  obtain ⟨os, n, R, fps, Qm, Xm, I, ⟨room, rfl, h0, hz, hn, q⟩, hQ, hE⟩ := h
  obtain ⟨v0, e0, A0⟩ := I.at_ 0 .st rfl
  obtain ⟨v1, e1, A1⟩ := I.at_ 1 (.dat (.int room)) rfl
  have l : vs.length = 2 := by
    have := I.len
    simpa using this
  cases A0 with
  | st s0 z0 =>
    rename_i a g c
    cases A1 with
    | dat A1 z1 =>
      obtain rfl := dp_int A1
      have ev : vs = [.ref a, .int room] := by
        match vs, l with
        | [x, y], _ =>
          cases e0; cases e1; rfl
      subst ev
      refine ⟨a, g, c, n, room, rfl, s0, hn, h0, hz, fun x H' x0 x1 kp st => ?_⟩
      have wa : ∀ b, (b = a ∨ b = g) → Wf R fps b := fun b z => .inr ⟨0, (z0 b).mpr (z.elim .inl fun y => .inr (.inl y))⟩
      have keep : ∀ b, b ≠ a → b ≠ g → Mut (H b) → H' b = H b := fun b n1 n2 m => by
        cases q : H b with
        | none => rw [q] at m; exact m.elim
        | some o => exact kp b o q n1 n2
      have g : Gr (Wf R fps) H (Wf R fps) H' := gr_of (fun b o h n _ => kp b o h (fun z => n (wa b (.inl z))) fun z => n (wa b (.inr z))) fun _ _ _ n => n
      have nR : ∀ b, R b → b ≠ a ∧ b ≠ _ := fun b z => ⟨fun y => I.disR 0 b ((z0 b).mpr (.inl y)) z, fun y => I.disR 0 b ((z0 b).mpr (.inr (.inl y))) z⟩
      have f0 : ∀ i b, fps i b → i = 0 := fun i b z => by
        cases i with
        | zero => rfl
        | succ i =>
          cases i with
          | zero => exact (z1 b z).elim
          | succ i => exact (I.emp (i + 2) (fun o e => by cases e) b z).elim
      have tb : Tabs T H' := fun p hp => by
        obtain ⟨gs, cs, r, t, sd, _⟩ := s0
        obtain ⟨ps, t1, t2, t3⟩ := I.tab p hp
        have ne : ∀ b o, H b = some o → (∀ kvs, o ≠ .dK kvs) → (∀ xs, o ≠ .lst xs) → H' b = some o := fun b o h n1 n2 => kp b o h (by
          rintro rfl
          exact n1 _ (Option.some.inj (h.symm.trans sd.hd))) (by
          rintro rfl
          exact n2 _ (Option.some.inj (h.symm.trans sd.hg)))
        refine ⟨ps, ne _ _ t1 (fun _ z => nomatch z) (fun _ z => nomatch z), t2, fun pos cv hc => ?_⟩
        obtain ⟨cc, e1, e2⟩ := t3 pos cv hc
        exact ⟨cc, e1, ne _ _ e2 codeO_nd.1 codeO_nd.2⟩
      refine hQ (.int x) H' _ _ (n + 1) nol fps (Go.alt0 ⟨⟨rfl, fun i o e => ?_, I.emp, I.dis, I.disR, fun b z => ?_, tb, fun _ z => nomatch z⟩, fun b z => keep b (nR b z).1 (nR b z).2 (I.liv b z), g, rfl, Nat.le_succ _, fun _ z => z⟩ fun _ z => z) (.dat (.int _) fun _ z => z) (fun _ z => z.elim) (q x x0 x1)
      · match i, e with
        | 0, e => cases e; exact ⟨_, rfl, .st st z0⟩
        | 1, e => cases e; exact ⟨_, rfl, .dat (.int _) z1⟩
        | _ + 2, e => cases e
      · rw [keep b (nR b z).1 (nR b z).2 (I.liv b z)]
        exact I.liv b z
theorem sp_begun {vs : List V} {H : Hp} {Q : VK} {E : XK} (h : spM K T dBegun vs H Q E) : spBegunA K vs H Q E := by
  obtain ⟨os, n, R, fps, Qm, Xm, I, ⟨cs, rfl, hl, q⟩, hQ, hE⟩ := h
  have hd := iv_dats (ds := [.list (cs.map PyData.int)]) I
  obtain _ | ⟨h1, _ | _⟩ := hd
  obtain ⟨l, xs, rfl, h2, h3⟩ := dp_lst h1
  obtain rfl := dps_ints_of h3
  refine ⟨l, cs, rfl, ex_l hid_ex h2, hl, fun a g c H' ex st na ng nc => ?_⟩
  have G := go_ex I ex
  have fr : ∀ b, (b = a ∨ b = g ∨ b = c) → H b = none := fun b z => by
    rcases z with rfl | rfl | rfl
    · exact na
    · exact ng
    · exact nc
  have nW : ∀ b, (b = a ∨ b = g ∨ b = c) → ¬ Wf R fps b := fun b z => I.fresh (fr b z)
  let fp : Ad := fun b => b = a ∨ b = g ∨ b = c
  have g2 : Gr (Wf R fps) H (Wf (alt R fp) fps) H' := gr_ex ex fun b o h n z => by
    rcases z with (z | z) | z
    · exact n (.inl z)
    · rw [fr b z] at h; cases h
    · exact n (.inr z)
  have stm := st.mono (Nat.zero_le n)
  have hA : At K (hid (Wf (alt R fp) fps) H') H' n (.ref a) .st fp := .st stm fun _ => Iff.rfl
  refine hQ (.ref a) H' .st _ n fp fps ⟨I.step g2 (fun i b z => mut_ex ex (I.live (.inr ⟨i, z⟩))) (fun i b z y => ?_) (fun b z => ?_) (I.tab.ext ex), G.kp, g2, rfl, Nat.le_refl _, fun _ z => .inl z⟩ hA (fun b z y => nW b z (.inl y)) q
  · rcases y with y | y
    · exact I.disR i b z y
    · exact nW b y (.inr ⟨i, z⟩)
  · rcases z with z | z
    · rw [mut_ex ex (I.liv b z)]; exact I.liv b z
    · exact hA.live z
end
end Mk

/-! part MkE -/
/-! Mk, part 14: calls by names in another order, reversed tuples, items stored, dicts read. -/
namespace Mk
open PySem PySem.Spec PyProof.Rows L2 Evl Lk LamX
def mCall0 (G : Den) (m : MA) : ME := fun s Q X => mCall G m s Q fun _ _ => False
def mRng1 (m : MA) : MI := fun s Q X => m s (fun rs s1 => match dats rs with
  | some [.int j] => -(2 ^ 62) ≤ j ∧ j < 2 ^ 62 ∧ Q (intsFrom 0 j.toNat) s1
  | _ => False) X
def mRng2 (m : MA) : MI := fun s Q X => m s (fun rs s1 => match dats rs with
  | some [.int i, .int j] => (-(2 ^ 62) ≤ i ∧ i < 2 ^ 62 ∧ -(2 ^ 62) ≤ j ∧ j < 2 ^ 62) ∧ Q (intsFrom i (j - i).toNat) s1
  | _ => False) X
/-- two parameters, the other way round -/
def swap2 (G : Den) : Den := fun os n Q X => match os with
  | [a, b] => G [b, a] n (fun o os' n' => match os' with
    | [c, d] => Q o [d, c] n'
    | _ => False) (fun C os' n' => match os' with
    | [c, d] => X C [d, c] n'
    | _ => False)
  | _ => False
/-- t[::-1] -/
def fRev : PyData → FO
  | .tuple ds, Q => Q (.dat (.tuple ds.reverse))
  | _, _ => False
section
variable {K : PySem.W.Frag} {T : List (Addr × Str)} {W : WX}
theorem dps_rev {F : Hp} : ∀ {vs : List V} {ds : List PyData}, DqAll K F vs ds → DqAll K F vs.reverse ds.reverse
  | _, _, .nil => .nil
  | _, _, .cons h r => by
    rw [List.reverse_cons, List.reverse_cons]
    exact dps_app (dps_rev r) (.cons h .nil)
end
/-! ### items of a list of one's own -/
def mLPut (i : Nat) (mk mv : MD) : MS := fun s k => mv s (fun d s1 => isLst s1 i ∧ mk s1 (fun y s2 => match s2.env[i]?, y with
  | some (some (.lst ds)), .int j => match ixN ds.length j with
    | some n => k.nx (putO s2 i (.lst (ds.set n d)))
    | none => False
  | _, _ => False) k.er) k.er
theorem dps_set {K : PySem.W.Frag} {F : Hp} : ∀ {vs : List V} {ds : List PyData} (n : Nat) {v : V} {d : PyData}, DqAll K F vs ds → Dq K F v d → DqAll K F (vs.set n v) (ds.set n d)
  | _, _, _, _, _, .nil, _ => .nil
  | _, _, 0, _, _, .cons _ r, h => .cons h r
  | _, _, n + 1, _, _, .cons q r, h => .cons q (dps_set n r h)
section
variable {K : PySem.W.Frag} {T : List (Addr × Str)} {W : WX}
theorem sim_lput {ty tv : TE} {i : Nat} {mk mv : MD} (hk : SimD K T W ty mk) (hv : SimD K T W tv mv) : SimS K T W (tAsg tv (gSub (tVar i) ty rSetL)) (mLPut i mk mv) := fun σ0 σ H s R fps I D k hm x => by
  refine hv σ0 σ H s R fps I _ k.er hm x.xok _ fun v H1 s1 d fps1 g1 hd q => ?_
  obtain ⟨i1, q⟩ := q
  obtain ⟨ds0, e0⟩ := isLst_yes i1
  obtain ⟨v0, hv0, hA0⟩ := g1.iv.at_ i _ e0
  cases hA0 with
  | lst hA hd0 hz =>
    refine ⟨_, hv0, ?_⟩
    refine hk σ0 σ H1 s1 R fps1 g1.iv _ k.er q (x.go g1).xok _ fun y H2 s2 ky fps2 g2 hy q => ?_
    split at q
    · rename_i ds j e1
      split at q
      · rename_i n hn
        obtain rfl := dp_int hy
        have hA2 := g2.iv.slotv e1 hv0
        cases hA2 with
        | lst hA2 hd2 hz2 =>
          obtain ⟨fps3, G3, _⟩ := mutL_go (g1.trans g2) hv0 e1 hA2 (dps_set n hd2 (dp_ex g2.gr _ _ hd))
          exact ⟨_, _, j, n, rfl, rfl, hA2, by rw [dps_len hd2]; exact hn, x.nx _ _ _ fps3 G3 q⟩
      · exact q.elim
    · exact q.elim
/-- d[k] -/
def mGetD (m : ME) (mk : MD) : ME := fun s Q X => m s (fun r s1 => mk s1 (fun k s2 => match dctOf s2 r, keyOf k with
  | some kvs, some k => match getK kvs k with
    | some d => Q (.val (.dat d)) s2
    | none => False
  | _, _ => False) X) X
end
end Mk

/-! part MkF -/
/-! Mk, part 15: packaged rules of parts 14: reversed tuples, items stored, dicts read, names in another order, sorted sets, what is caught. -/
namespace Mk
open PySem PySem.Spec PyProof.Rows L2 Evl Lk LamX
def rRev (K : PySem.W.Frag) : V → Hp → VK → Prop := fun x H1 Q => ∃ a xs, x = .ref a ∧ SqT K H1 a xs ∧ ∀ p, H1 p = none → Q (.ref p) (upd H1 p (.tup xs.reverse))
/-- sorted(set(l)) of whole numbers -/
def fSortSetI : PyData → FO
  | .list ds, Q => ∃ ns : List Int, ds = ns.map PyData.int ∧ ns.length < 64 ∧ ∀ out : List Int, out.Pairwise (· < ·) → (∀ k, k ∈ out ↔ k ∈ ns) → Q (.lst (out.map PyData.int))
  | _, _ => False
def tupI (k : List Int) : PyData := .tuple (k.map PyData.int)
def fSortSetT : PyData → FO
  | .list ds, Q => ∃ (ks : List (List Int)) (d : Nat) (B : Int), ds = ks.map tupI ∧ ks.length < 64 ∧ 1 ≤ d ∧ (∀ k ∈ ks, k.length = d ∧ TS.Bd B k) ∧ ∀ out : List (List Int), (∀ k, k ∈ out ↔ k ∈ ks) → out.Nodup → out.Pairwise (fun x y => TS.code B x ≤ TS.code B y) → Q (.lst (out.map tupI))
  | _, _ => False
def rSortI (K : PySem.W.Frag) : V → Hp → VK → Prop := fun x H1 Q => ∃ (p : Addr) (ns : List Int), x = .ref p ∧ SqL K H1 p (ns.map V.int) ∧ ns.length < 64 ∧ ∀ (out : List Int) (q : Addr), out.Pairwise (· < ·) → (∀ k, k ∈ out ↔ k ∈ ns) → H1 q = none → Q (.ref q) (upd H1 q (.lst (out.map V.int)))
def rSortT (K : PySem.W.Frag) : V → Hp → VK → Prop := fun x H1 Q => ∃ (p : Addr) (ks : List (Addr × List Int)) (d : Nat) (B : Int), x = .ref p ∧ SqL K H1 p (ks.map fun e => V.ref e.1) ∧ (∀ e ∈ ks, SqT K H1 e.1 (e.2.map V.int)) ∧ ks.length < 64 ∧ 1 ≤ d ∧ (∀ e ∈ ks, e.2.length = d ∧ TS.Bd B e.2) ∧
  ∀ (out : List (Addr × List Int)) (q : Addr), (∀ e ∈ out, e ∈ ks) → (∀ e ∈ ks, e.2 ∈ out.map (·.2)) → (out.map (·.2)).Nodup → out.Pairwise (fun y z => TS.code B y.2 ≤ TS.code B z.2) → H1 q = none → Q (.ref q) (upd H1 q (.lst (out.map fun e => V.ref e.1)))
section
variable {K : PySem.W.Frag}
theorem ps_rev : PS1 K (rRev K) fRev := by
  intro F H x d Qo Q ex hx hf k
  cases d <;> first
    | exact hf.elim
    | skip
  cases hx with
  | dq hx =>
    obtain ⟨a, xs, rfl, h1, h2⟩ := dp_tup hx
    exact ⟨a, xs, rfl, ex_t ex h1, fun p hp => k _ _ _ (.tup hp (dps_rev h2)) hf⟩
theorem dpsI {F : Hp} : ∀ (l : List Int), DqAll K F (l.map V.int) (l.map PyData.int)
  | [] => .nil
  | i :: l => .cons (.int i) (dpsI l)
theorem ps_sortI : PS1 K (rSortI K) fSortSetI := by
  intro F H x d Qo Q ex hx hf k
  cases d <;> first
    | exact hf.elim
    | skip
  obtain ⟨ns, rfl, hl, hf⟩ := hf
  obtain ⟨a, xs, rfl, h1, h2⟩ := hx.list ex
  obtain rfl := dps_ints_of h2
  exact ⟨a, ns, rfl, h1, hl, fun out q h3 h4 hq => k _ _ _ (.lst hq (dpsI out)) (hf out h3 h4)⟩
theorem dps_tups {F : Hp} : ∀ {ks : List (List Int)} {vs : List V}, DqAll K F vs (ks.map tupI) → ∃ es : List (Addr × List Int), vs = es.map (fun e => V.ref e.1) ∧ es.map (·.2) = ks ∧ ∀ e ∈ es, SqT K F e.1 (e.2.map V.int)
  | [], _, .nil => ⟨[], rfl, rfl, (fun e he => nomatch he)⟩
  | k :: ks, _, .cons h r => by
    obtain ⟨es, e1, e2, e3⟩ := dps_tups (ks := ks) r
    obtain ⟨a, xs, rfl, hs, hx⟩ := dp_tup h
    obtain rfl := dps_ints_of hx
    exact ⟨(a, k) :: es, by rw [List.map_cons, e1], by rw [List.map_cons, e2], fun e he => by
      rcases List.mem_cons.mp he with rfl | he
      · exact hs
      · exact e3 e he⟩
theorem dps_tups_of {F : Hp} : ∀ (es : List (Addr × List Int)), (∀ e ∈ es, SqT K F e.1 (e.2.map V.int)) → DqAll K F (es.map fun e => V.ref e.1) ((es.map (·.2)).map tupI)
  | [], _ => .nil
  | e :: es, h => .cons (.tup (h e List.mem_cons_self) (dpsI e.2)) (dps_tups_of es fun x hx => h x (List.mem_cons_of_mem _ hx))
theorem ps_sortT : PS1 K (rSortT K) fSortSetT := by
  intro F H x d Qo Q ex hx hf k
  cases d <;> first
    | exact hf.elim
    | skip
  obtain ⟨ks, d, B, rfl, hl, hd, hB, hf⟩ := hf
  obtain ⟨a, xs, rfl, h1, h2⟩ := hx.list ex
  obtain ⟨es, rfl, rfl, h3⟩ := dps_tups h2
  refine ⟨a, es, d, B, rfl, h1, fun e he => ex_t ex (h3 e he), by simpa using hl, hd, fun e he => hB _ (List.mem_map_of_mem he), fun out q g1 g2 g3 g4 hq => k _ _ _ (.lst hq (dps_tups_of out fun e he => h3 e (g1 e he))) (hf _ (fun k => ⟨fun z => ?_, fun z => ?_⟩) g3 (List.pairwise_map.mpr g4))⟩
  · obtain ⟨e, he, rfl⟩ := List.mem_map.mp z
    exact List.mem_map_of_mem (g1 e he)
  · obtain ⟨e, he, rfl⟩ := List.mem_map.mp z
    exact g2 e he
end
section
variable {X : Cx} {K : PySem.W.Frag} {T : List (Addr × Str)} {W : WX} {a b c e o : Expr} {es : List Expr} {ta tb tc te to : TE} {ma mb mc me mo : ME} {pos p1 p2 p3 : Pos} {tr : TA} {mr : MA} {k : Nat}
theorem e_rev (h : QE X K T W e te me) (hK : X.K = K := by rfl) : QE X K T W (.Subscript e (.Slice none none (some (.UnaryOp .USub (.Constant (.int 1) k p1) p2)) p3) pos) (tRevT K te) (mUn fRev me) := by
  subst hK
  exact ⟨pe_revT h.p, (sim_un ps_rev h.s : SimE X.K T W (tUn (rRev X.K) te) (mUn fRev me))⟩
theorem e_sortSetI {p q : Pos} (hc : X.calm = true) (_hu : X.A.units + 64 < cLine) (hg : Gl X "sorted") (hm : X.mg "sorted" = none) (hg2 : Gl X "set") (hm2 : X.mg "set" = none) (ha : QE X K T W a ta ma) (hK : X.K = K := by rfl)
    (na : starEach [a] X.env = (false, eval a X.env) :: starEach [] X.env := by rfl) : QE X K T W (.Call (.Name "sorted" p) [.Call (.Name "set" p2) [a] [] q] [] pos) (tSortI K ta) (mUn fSortSetI ma) := by
  subst hK
  exact ⟨pe_sortI hc hg hm hg2 hm2 ha.p na, (sim_un ps_sortI ha.s : SimE X.K T W (tUn (rSortI X.K) ta) (mUn fSortSetI ma))⟩
theorem e_sortSetT {p q : Pos} (hc : X.calm = true) (hu : X.A.units + 64 < cLine) (hg : Gl X "sorted") (hm : X.mg "sorted" = none) (hg2 : Gl X "set") (hm2 : X.mg "set" = none) (ha : QE X K T W a ta ma) (hK : X.K = K := by rfl)
    (na : starEach [a] X.env = (false, eval a X.env) :: starEach [] X.env := by rfl) : QE X K T W (.Call (.Name "sorted" p) [.Call (.Name "set" p2) [a] [] q] [] pos) (tSortT K ta) (mUn fSortSetT ma) := by
  subst hK
  exact ⟨pe_sortT hc hu hg hm hg2 hm2 ha.p na, (sim_un ps_sortT ha.s : SimE X.K T W (tUn (rSortT X.K) ta) (mUn fSortSetT ma))⟩
/-- l[i] = v -/
theorem s_lput {i : Nat} {x : Str} {k v : Expr} {xp pos' : Pos} {tk tv : TE} {mk mv : ME} (hN : X.N[i]? = some x) (hv : Vis X.env.scope x) (hd : (x == ("__debug__" : Str)) = false) (hcd : (x == ("__classdict__" : Str)) = false) (hk : QE X K T W k tk mk) (hx : QE X K T W v tv mv)
    (ha : ∀ v, assign (.Subscript (.Name x xp) k pos') X.env v = (do
      let ov ← holding [v] (eval (.Name x xp) X.env)
      let iv ← holding [v, ov] (eval k X.env)
      standAt pos'
      holding [v, ov, iv] (setItem ov iv v)
      release [v, ov, iv] []) := by intro _; rfl)
    (hs : swapsWithSole [.Subscript (.Name x xp) k pos'] v pos.line X.env = pure false := by rfl) (hw : swappedStores [.Subscript (.Name x xp) k pos'] v X.env = pure none := by rfl)
    (h1 : (assignEach [.Subscript (.Name x xp) k pos'] X.env).map (·.2) = [assign (.Subscript (.Name x xp) k pos') X.env] := by rfl) : QS X K T W (.Assign [.Subscript (.Name x xp) k pos'] v pos) (tAsg tv (gSub (tVar i) tk rSetL)) (mLPut i (mD mk) (mD mv)) :=
  ⟨ps_asg hx.p (pg_sub (pe_var hN hv hd hcd) hk.p set_list ha) hs hw h1, sim_lput (sim_d hk.s) (sim_d hx.s)⟩
end
section
variable {X : Cx} {K : PySem.W.Frag} {T : List (Addr × Str)} {W : WX} {a b c : Expr} {pos : Pos} {tr : TA} {mr : MA}
theorem sim_par3 {i j l : Nat} {ta : TA} {m : MA} (h : SimA K T W ta m) : SimS K T W (tPar3 i j l ta) (mPar [i, j, l] m) := fun σ0 σ H s R fps I D k hm x =>
  h σ0 σ H s R fps I _ k.er hm x.xok _ fun vs H1 s1 rs fl fps1 g hr ap nR q => by
    obtain ⟨s2, fps2, G, q2, hl⟩ := puts_go [i, j, l] vs rs fl σ s1 fps1 _ g hr ap nR q
    match vs, hl with
    | [v, w, u], _ => exact ⟨v, w, u, rfl, x.nx _ H1 s2 fps2 G q2⟩
/-- a, b, c = x, y, z -/
theorem s_par3 {i j l : Nat} {x y z : Str} {px py pz pt : Pos} {kt k2 pt2} (hc : X.calm = true) (hN : X.N.Nodup) (hi : X.N[i]? = some x) (hj : X.N[j]? = some y) (hl : X.N[l]? = some z) (hij : i ≠ j) (hil : i ≠ l) (hjl : j ≠ l)
    (hx : X.env.scope.names.lookup x = some .local) (hy : X.env.scope.names.lookup y = some .local) (hz : X.env.scope.names.lookup z = some .local) (ha : QA X K T W [a, b, c] tr mr)
    (hw : swappedStores [.Tuple [.Name x px, .Name y py, .Name z pz] kt pt] (.Tuple [a, b, c] k2 pt2) X.env = pure (some [x, y, z]))
    (hs : swapsWithSole [.Tuple [.Name x px, .Name y py, .Name z pz] kt pt] (.Tuple [a, b, c] k2 pt2) pos.line X.env = pure false := by rfl) :
    QS X K T W (.Assign [.Tuple [.Name x px, .Name y py, .Name z pz] kt pt] (.Tuple [a, b, c] k2 pt2) pos) (tPar3 i j l tr) (mPar [i, j, l] mr) := ⟨ps_par3 hc hN hi hj hl hij hil hjl hx hy hz ha.p hw hs, sim_par3 ha.s⟩
end
/-! ### two names, the other way round -/
def sw (f : Nat → Ad) : Nat → Ad
  | 0 => f 1
  | 1 => f 0
  | n + 2 => f (n + 2)
theorem sw_sw (f : Nat → Ad) : sw (sw f) = f := by
  funext i
  match i with
  | 0 => rfl
  | 1 => rfl
  | _ + 2 => rfl
theorem wf_sw {R : Ad} {f : Nat → Ad} : Wf R (sw f) = Wf R f := funext fun a => propext ⟨fun z => z.imp id fun ⟨i, h⟩ => match i, h with
  | 0, h => ⟨1, h⟩
  | 1, h => ⟨0, h⟩
  | i + 2, h => ⟨i + 2, h⟩, fun z => z.imp id fun ⟨i, h⟩ => match i, h with
  | 0, h => ⟨1, h⟩
  | 1, h => ⟨0, h⟩
  | i + 2, h => ⟨i + 2, h⟩⟩
section
variable {K : PySem.W.Frag} {T : List (Addr × Str)} {σ : L2.St} {H H' : Hp} {n n' : Nat} {x y : Option V} {a b : Option O} {R : Ad} {f f' : Nat → Ad}
theorem iv_sw {x0 y0 : Option V} (I : Iv K T [x0, y0] [x, y] H ⟨[a, b], n, []⟩ R f) : Iv K T [y0, x0] [y, x] H ⟨[b, a], n, []⟩ R (sw f) where
  len := rfl
  at_ := fun i o e => by
    rw [wf_sw]
    match i, e with
    | 0, e => exact I.at_ 1 o e
    | 1, e => exact I.at_ 0 o e
  emp := fun i h => by
    match i, h with
    | 0, h => exact I.emp 1 h
    | 1, h => exact I.emp 0 h
    | i + 2, h => exact I.emp (i + 2) h
  dis := fun i j c h g => by
    have q := I.dis
    match i, j, h, g with
    | 0, 0, _, _ => rfl
    | 0, 1, h, g => exact (nomatch q 1 0 c h g)
    | 0, j + 2, h, g => exact (by have := q 1 (j + 2) c h g; omega)
    | 1, 0, h, g => exact (nomatch q 0 1 c h g)
    | 1, 1, _, _ => rfl
    | 1, j + 2, h, g => exact (by have := q 0 (j + 2) c h g; omega)
    | i + 2, 0, h, g => exact (by have := q (i + 2) 1 c h g; omega)
    | i + 2, 1, h, g => exact (by have := q (i + 2) 0 c h g; omega)
    | i + 2, j + 2, h, g => exact q (i + 2) (j + 2) c h g
  disR := fun i c h => by
    match i, h with
    | 0, h => exact I.disR 1 c h
    | 1, h => exact I.disR 0 c h
    | i + 2, h => exact I.disR (i + 2) c h
  liv := I.liv
  tab := I.tab
  bor := fun _ z => nomatch z
theorem go_sw {x0 y0 : Option V} {a' b' : Option O} {R' : Ad} (g : Go K T [x0, y0] H ⟨[a, b], n, []⟩ R f [x, y] H' ⟨[a', b'], n', []⟩ R' f') : Go K T [y0, x0] H ⟨[b, a], n, []⟩ R (sw f) [y, x] H' ⟨[b', a'], n', []⟩ R' (sw f') :=
  ⟨iv_sw g.iv, g.kp, by rw [wf_sw, wf_sw]; exact g.gr, rfl, g.le, g.sb⟩
theorem sp_sw {G : Den} {vs : List V} {Q : VK} {E : XK} (h : spM K T (swap2 G) vs H Q E) : spM K T G vs.reverse H Q E := by
  obtain ⟨os, n, R, fps, Qm, Xm, I, hm, hQ, hE⟩ := h
  unfold swap2 at hm
  split at hm
  · rename_i a b
    have l : vs.length = 2 := by
      have := I.len
      simpa using this
    match vs, l with
    | [v, w], _ =>
      refine ⟨[b, a], n, R, sw fps, _, _, iv_sw I, hm, fun u H' o os' n' fp fps' g ha nR q => ?_, fun C H' os' n' fps' g q => ?_⟩
      · split at q
        · rename_i c d
          have g2 := go_sw g
          rw [sw_sw] at g2
          refine hQ u H' o [d, c] n' fp (sw fps') g2 ?_ nR q
          rw [wf_sw]
          exact ha
        · exact q.elim
      · split at q
        · rename_i c d
          have g2 := go_sw g
          rw [sw_sw] at g2
          exact hE C H' [d, c] n' (sw fps') g2 q
        · exact q.elim
  · exact hm.elim
end
section
variable {K : PySem.W.Frag} {T : List (Addr × Str)} {W : WX}
theorem sim_callP {G : Den} {ta : TA} {m : MA} {B : List V → Hp → VK → Prop} (hB : ∀ vs H Q, spM K T G vs H Q E0 → B vs H Q) (ha : SimA K T W ta m) : SimE K T W (fun σ H Q => ta σ H fun vs H1 => B vs H1 Q) (mCall0 G m) := by
  intro σ0 σ H s R fps I Qm Xm hm hx Q hQ
  refine ha σ0 σ H s R fps I _ (fun _ _ => False) hm (fun _ _ _ _ _ z => z.elim) _ fun vs H1 s1 rs l fps1 g hrs ap nR q => hB _ _ _ ?_
  split at q
  · rename_i os e
    obtain ⟨nd, q⟩ := q
    obtain ⟨I1, eW⟩ := call_in g.iv hrs e ap nd
    refine ⟨os, s1.n, _, _, _, _, I1, q, fun v H2 o os' n' fp fpc g2 hA nfp z => ?_, fun C H2 os' n' fpc g2 z => z.elim⟩
    obtain ⟨fps2, g3, gs, nf⟩ := call_out g hrs nR e ap nd g2 nfp
    obtain ⟨b1, b2, b3⟩ := backs_len rs os' ⟨s1.env, n', s1.bor⟩
    refine hQ v H2 _ (.val o) fp fps2 g3 (.val ?_) nf z
    rw [b2]
    exact hA.keep gs (fun _ _ => rfl) (Nat.le_refl _)
  · exact q.elim
end
/-- .. called so -/
structure Cdv (P : Program) (w : World) (K : PySem.W.Frag) (mg : Str → Option Value) (base : Heap) (T : List (Addr × Str)) (k : Nat) (x : Str) (ks : List Str) (G : Den) : Prop where
  ex : ∃ (f : Addr) (fd : FuncData) (ps : List Str), FnOk P w K mg base (L2.CX P w) k f fd ps (spM K T G) ∧ mg x = some (.ref f) ∧ PySem.W.keepIn K (.ref f) = true ∧ KBinds K fd ps ks (fun us ws => us ++ ws.reverse) (fun vs zs => vs ++ zs.reverse)
section
variable {X : Cx} {K : PySem.W.Frag} {T : List (Addr × Str)} {W : WX} {k j : Nat} {x : Str} {G : Den} {p pos : Pos} {kws : List Keyword} {ks : List Str} {tr : TA} {mr : MA}
theorem e_kw2 (h : Cdv X.prog X.w X.K X.mg X.base T k x ks G) (hr : Room j X.A) (hk : k ≤ j) (hg : Gl X x) (hkw : QK X K T W kws tr mr) (hK : X.K = K := by rfl)
    (hall : (backToKw pos (keywordEach kws X.env)).all (·.1.isSome) = true := by rfl) (hks : (backToKw pos (keywordEach kws X.env)).filterMap (·.1) = ks := by rfl) (hdb : (x == ("__debug__" : Str)) = false := by decide)
    (hpl : ((backTo pos (starEach [] X.env)).any (·.1) || (backToKw pos (keywordEach kws X.env)).any (·.1.isNone)) = false := by rfl) :
    QE X K T W (.Call (.Name x p) [] kws pos) (tCallK (spM K T G) (fun vs zs => vs ++ zs.reverse) E0 tNil tr) (mCall0 (swap2 G) mr) := by
  subst hK
  obtain ⟨f, fd, ps, F, hm, kp, b⟩ := h.ex
  refine ⟨pe_kwOnly F (hr.mono hk) hg hm kp b passL hkw.p hall hks hdb hpl, ?_⟩
  exact sim_callP (B := fun zs H Q => spM X.K T G ([] ++ zs.reverse) H Q E0) (fun vs H Q q => by rw [List.nil_append]; exact sp_sw q) hkw.s
end
end Mk

/-! part MkH -/
/-! Mk, part 20: whether what was caught is None. -/
namespace Mk
open PySem PySem.Spec PyProof.Rows L2 Evl Lk LamX
def mIsNone (neg : Bool) (m : ME) : ME := fun s Q X => m s (fun r s1 => match r with
  | .val (.exc _) => Q (.val (.dat (.bool neg))) s1
  | .val (.dat .none) => Q (.val (.dat (.bool (!neg)))) s1
  | _ => False) X
section
variable {K : PySem.W.Frag} {T : List (Addr × Str)} {W : WX} {X : Cx}
theorem ref_non (a : Addr) : decide (V.ref a = V.non) = false := decide_eq_false fun z => by cases z
theorem sim_notNE {te : TE} {m : ME} (h : SimE K T W te m) : SimE K T W (tOp (fun x y H Q => y = .non ∧ Q (.bl (!decide (x = .non))) H) te (tC .non)) (mIsNone true m) := by
  intro σ0 σ H s R fps I Qm Xm hm hx Q hQ
  refine h σ0 σ H s R fps I _ Xm hm hx _ fun v H1 s1 r fp fps1 g1 hr nR q => ?_
  have g2 := g1.drop (R2 := R) (fun _ z => z) fun _ z => .inl z
  split at q
  · cases hr with
    | val hr =>
      cases hr with
      | exc hr _ =>
        refine ⟨rfl, ?_⟩
        show Q (.bl (!decide (V.ref _ = V.non))) H1
        rw [ref_non]
        exact out_e g2 (fun _ => .bl _) hQ q
  · cases hr with
    | val hr =>
      cases hr with
      | dat hr _ =>
        obtain rfl := dp_none hr
        exact ⟨rfl, out_e g2 (fun _ => .bl _) hQ q⟩
  · exact q.elim
variable {a : Expr} {ta : TE} {ma : ME} {pos p : Pos}
theorem t_notNE {j} (ha : QE X K T W a ta ma) (hm : behindInMarks .IsNot (.Constant .none j p) = false) : QT X K T W (.Compare a [.IsNot] [.Constant .none j p] pos) (tTest (tOp (fun x y H Q => y = .non ∧ Q (.bl (!decide (x = .non))) H) ta (tC .non))) (mB (mIsNone true ma)) := ⟨pt_cmpR op_notN ha.p pe_non hm, sim_test (sim_notNE ha.s)⟩
def noneK (neg : Bool) (r : Rs) (s : S) (P : Rs → S → Prop) : Prop := match r with
  | .val (.exc _) => P (.val (.dat (.bool neg))) s
  | .val (.dat .none) => P (.val (.dat (.bool (!neg)))) s
  | _ => False
theorem x_isNone {neg : Bool} {m : ME} {s : S} {P : Rs → S → Prop} {Y : XM} (h : m s (fun r s1 => noneK neg r s1 P) Y) : mIsNone neg m s P Y := h
theorem x_noneX {neg : Bool} {C : Addr} {s : S} {P : Rs → S → Prop} (h : P (.val (.dat (.bool neg))) s) : noneK neg (.val (.exc C)) s P := h
theorem x_noneN {neg : Bool} {s : S} {P : Rs → S → Prop} (h : P (.val (.dat (.bool (!neg)))) s) : noneK neg (.val (.dat .none)) s P := h
end
end Mk

/-! part MkG -/
/-! Mk, part 16: the head: what the top has written, contracts of defs, the law's call. -/
namespace Mk
open PySem PySem.Spec PyProof.Rows L2 Evl Lk LamX
theorem dps_zip {K : PySem.W.Frag} {F : Hp} : ∀ {vs : List V} {ds : List PyData}, vs.length = ds.length → (∀ p ∈ vs.zip ds, Dq K F p.1 p.2) → DqAll K F vs ds
  | [], [], _, _ => .nil
  | v :: vs, d :: ds, l, h => .cons (h (v, d) List.mem_cons_self) (dps_zip (by simpa using l) fun p hp => h p (List.mem_cons_of_mem _ hp))
theorem datB_ok {K : PySem.W.Frag} : ∀ (n : Nat) {v : V} {d : PyData}, datB K n v d = true → ∀ F, Dq K F v d
  | 0, _, _, h, _ => by cases h
  | n + 1, v, d, h, F => by
    unfold datB at h
    split at h
    · exact .non
    · obtain rfl := eq_of_beq h
      exact .bl _
    · obtain rfl := of_decide_eq_true h
      exact .int _
    · obtain rfl := of_decide_eq_true h
      exact .str _
    · split at h
      · rename_i c od its m sl q
        simp only [Bool.and_eq_true, decide_eq_true_eq] at h
        obtain ⟨rfl, h2, h3, h4, h5⟩ := h
        have hs : SqT K F _ (its.toList.map toV) := .inr ⟨_, its, m, q, rfl, rfl, h2, He.relAll_ok h3⟩
        exact .tup hs (dps_zip (by rw [List.length_map]; exact h4) fun p hp => datB_ok n (List.all_eq_true.mp h5 p hp) F)
      · cases h
    · cases h
theorem excB_ok {K : PySem.W.Frag} {x : Str} (h : excB K x = true) : ExcC K (He.ga K x) := by
  unfold excB at h
  simp only [Bool.and_eq_true, decide_eq_true_eq] at h
  obtain ⟨h1, h2, h3, h4, h5, h6, h7, h8⟩ := h
  exact ⟨He.eqO_ok h1, He.eqO_ok h2, h3, h4, He.eqO_ok h5, He.eqO_ok h6, h7, h8⟩
theorem lam_one {T : List (Addr × Str)} (nd : (T.map (·.1)).Nodup) {a : Addr} {q : Str} (h : (a, q) ∈ T) : ∀ p ∈ T, p.1 = a → p.2 = q := by
  induction T with
  | nil => cases h
  | cons t T ih =>
    rw [List.map_cons, List.nodup_cons] at nd
    intro p hp e
    rcases List.mem_cons.mp h with h' | h'
    · rcases List.mem_cons.mp hp with hp | hp
      · subst hp; rw [← h']
      · exact (nd.1 (by rw [← h']; show a ∈ T.map (·.1); rw [← e]; exact List.mem_map_of_mem (f := fun z : Addr × Str => z.1) hp)).elim
    · rcases List.mem_cons.mp hp with hp | hp
      · subst hp
        exact (nd.1 (by rw [e]; exact List.mem_map_of_mem (f := fun z : Addr × Str => z.1) h')).elim
      · exact ih nd.2 h' p hp e
section
variable {P : Program} {w : World} {K : PySem.W.Frag} {mg : Str → Option Value} {base : Heap} {T : List (Addr × Str)} {CX : CXT} {k : Nat} {x : Str} {sp : Sp} {f : Addr} {fd : FuncData} {ps ks : List Str} {G : Den}
theorem cd_mk (o : FnOk P w K mg base (L2.CX P w) k f fd ps (spM K T G)) (g : mg x = some (.ref f)) (kp : PySem.W.keepIn K (.ref f) = true) (b : L2.Binds K fd ps []) : Cd P w K mg base T k x G := ⟨_, _, _, o, g, kp, b⟩
theorem cdk_mk (o : FnOk P w K mg base (L2.CX P w) k f fd ps (spM K T G)) (g : mg x = some (.ref f)) (kp : PySem.W.keepIn K (.ref f) = true) (b : KBinds K fd ps ks (fun us ws => us ++ ws) (fun vs zs => vs ++ zs)) : Cdk P w K mg base T k x ks G := ⟨_, _, _, o, g, kp, b⟩
theorem cdv_mk (o : FnOk P w K mg base (L2.CX P w) k f fd ps (spM K T G)) (g : mg x = some (.ref f)) (kp : PySem.W.keepIn K (.ref f) = true) (b : KBinds K fd ps ks (fun us ws => us ++ ws.reverse) (fun vs zs => vs ++ zs.reverse)) : Cdv P w K mg base T k x ks G := ⟨_, _, _, o, g, kp, b⟩
theorem ok_never : FnOk P w K mg base CX k f fd ps (spM K T fun _ _ _ _ => False) :=
  ⟨fun vs H Q E h => by obtain ⟨_, _, _, _, _, _, _, z, _⟩ := h; exact z.elim, fun A outer s H args us vs Q E _ _ _ _ h => by obtain ⟨_, _, _, _, _, _, _, z, _⟩ := h; exact z.elim⟩
/-- two parameters, named the other way round -/
theorem kbinds2v {qual p q : Str} {params : Arguments} {body : List Stmt} {scope : Scope} (F : FunD K x qual params body scope [] [] f fd)
    (h0 : ∀ (kV doc pm : Value) (an : Option Addr) (cdv ct u v : Value), bindArgs (PySem.W.fnOf x qual params body scope .none kV doc pm an cdv ct) ⟨[u, v], []⟩ = pure [(p, u), (q, v)])
    (h1 : ∀ (kV doc pm : Value) (an : Option Addr) (cdv ct u v : Value), bindArgs (PySem.W.fnOf x qual params body scope .none kV doc pm an cdv ct) ⟨[u], [(q, v)]⟩ = pure [(p, u), (q, v)])
    (h2 : ∀ (kV doc pm : Value) (an : Option Addr) (cdv ct u v : Value), bindArgs (PySem.W.fnOf x qual params body scope .none kV doc pm an cdv ct) ⟨[], [(q, v), (p, u)]⟩ = pure [(p, u), (q, v)]) :
    KBinds K fd [p, q] [q, p] (fun us ws => us ++ ws.reverse) (fun vs zs => vs ++ zs.reverse) := by
  obtain ⟨oc, od, dV, kV, doc, pm, an, cdv, ct, osl, rfl, lk, hcd, hD, hK⟩ := F.ex
  rcases hD with ⟨_, rfl⟩ | ⟨e, _⟩
  · constructor
    · intro s us ws _ hl
      match us, ws, hl with
      | [], [v, u], _ => exact .of_eq (h2 kV doc pm an cdv ct u v)
      | [u], [v], _ => exact .of_eq (h1 kV doc pm an cdv ct u v)
      | [u, v], [], _ => exact .of_eq (h0 kV doc pm an cdv ct u v)
      | [], [], hl => cases hl
      | [], [_], hl => cases hl
      | [], _ :: _ :: _ :: _, hl => simp at hl
      | [_], [], hl => cases hl
      | [_], _ :: _ :: _, hl => simp at hl
      | [_, _], _ :: _, hl => simp at hl
      | _ :: _ :: _ :: _, _, hl => simp at hl
    · exact fun r q => r.append q.reverse
  · exact absurd rfl e
/-- the law's own call -/
theorem sp_law {H : Hp} {a : Addr} {ns : List Int} (t : Tabs T H) (hl : SqL K H a (ns.map V.int))
    (h : G [.dat (.list (ns.map PyData.int))] 0 (fun o _ _ => o = .dat (.bool true)) (fun _ _ _ => False)) : spM K T G [.ref a] H (fun v _ => v = .bl true) fun _ _ _ => False := by
  have hl2 : SqL K (hid (Wf nol fun _ => nol) H) a (ns.map V.int) := by
    have nW : ∀ b, ¬ Wf nol (fun _ => nol) b := fun b z => z.elim id fun ⟨_, z⟩ => z
    rcases hl with (hl | ⟨o, hl⟩) | hl
    · exact .inl (.inl (hid_some.mpr ⟨hl, nW _, fun _ z => nomatch z⟩))
    · exact .inl (.inr ⟨o, hid_some.mpr ⟨hl, nW _, fun _ z => nomatch z⟩⟩)
    · exact .inr hl
  refine ⟨_, 0, nol, fun _ => nol, _, _, ⟨rfl, fun i o e => ?_, fun _ _ _ z => z, fun _ _ _ z => z.elim, fun _ _ z => z.elim, fun _ z => z.elim, t, fun _ z => nomatch z⟩, h, fun v H' o os' n' fp fps' _ hA _ q => ?_, fun _ _ _ _ _ _ z => z⟩
  · match i, e with
    | 0, e =>
      cases e
      exact ⟨.ref a, rfl, .dat (.lst hl2 (dpsI ns)) fun _ z => z⟩
    | _ + 1, e => cases e
  · subst q
    cases hA with
    | dat h _ => exact dp_bool h
end
end Mk

/-! part Mp -/
/-! Mk, part 17: what the denotations come to, by simp. -/
namespace Mk
open PySem PySem.Spec PyProof.Rows L2 Evl Lk LamX
@[simp] theorem u_runF (p N : Nat) (b : MS) : (runF p N b : Den) = fun os n Q X => os.length = p ∧ runD N b os n Q X := rfl
@[simp] theorem u_runD (N : Nat) (b : MS) : (runD N b : Den) = fun os n Qm Xm => b (s0Of N os n) (kOf os Qm Xm) := rfl
@[simp] theorem u_s0Of (N : Nat) (os : List O) (n : Nat) : (s0Of N os n : S) = (⟨os.map some ++ List.replicate (N - os.length) none, n, ownsFrom 0 os⟩) := rfl
@[simp] theorem u_mRet (m : ME) : (mRet m : MS) = fun s k => m s (fun r s1 => match mov s1 r with
  | some (o, s2) => k.rt o s2
  | none => False) k.er := rfl
@[simp] theorem u_mRetN  : (mRetN  : MS) = fun s k => k.rt (.dat .none) s := rfl
@[simp] theorem u_mAndV (a : MT) (b : ME) : (mAndV a b : ME) = fun s Q X => a s (fun c s1 => if c = true then b s1 Q X else Q (.val (.dat (.bool false))) s1) X := rfl
@[simp] theorem u_mOrV (a : MT) (b : ME) : (mOrV a b : ME) = fun s Q X => a s (fun c s1 => if c = true then Q (.val (.dat (.bool true))) s1 else b s1 Q X) X := rfl
@[simp] theorem u_mB (m : ME) : (mB m : MT) = fun s Q X => m s (fun r s1 => match r with
  | .val (.dat (.bool b)) => Q b s1
  | _ => False) X := rfl
@[simp] theorem u_mIsi (f : PyData → Bool) (m : ME) : (mIsi f m : ME) = fun s Q X => m s (fun r s1 => match rd s1 r with
  | some d => Q (.val (.dat (.bool (f d)))) s1
  | none => False) X := rfl
@[simp] theorem u_mIsE (K : PySem.W.Frag) (C : Addr) (m : ME) : (mIsE K C m : ME) = fun s Q X => m s (fun r s1 => match r with
  | .val (.exc D) => ExcC K D ∧ ∃ b, PySem.W.kitOne K (.ref D) (.ref C) = some b ∧ Q (.val (.dat (.bool b))) s1
  | .val (.dat .none) => ∃ b, PySem.W.kitOne K (.type "NoneType") (.ref C) = some b ∧ Q (.val (.dat (.bool b))) s1
  | _ => False) X := rfl
@[simp] theorem u_mVar (i : Nat) : (mVar i : ME) = fun s Q _ => match s.env[i]? with
  | some (some (.dat d)) => Q (.val (.dat d)) s
  | some (some (.exc C)) => Q (.val (.exc C)) s
  | some (some _) => Q (.slot i) s
  | _ => False := rfl
@[simp] theorem u_mC (d : PyData) : (mC d : ME) = fun s Q _ => Q (.val (.dat d)) s := rfl
@[simp] theorem u_mNotV (a : MT) : (mNotV a : ME) = fun s Q X => a s (fun c s1 => Q (.val (.dat (.bool (!c)))) s1) X := rfl
@[simp] theorem u_mNot (a : MT) : (mNot a : MT) = fun s Q X => a s (fun c s1 => Q (!c) s1) X := rfl
@[simp] theorem u_mAnd (a b : MT) : (mAnd a b : MT) = fun s Q X => a s (fun c s1 => if c = true then b s1 Q X else Q false s1) X := rfl
@[simp] theorem u_mOr (a b : MT) : (mOr a b : MT) = fun s Q X => a s (fun c s1 => if c = true then Q true s1 else b s1 Q X) X := rfl
@[simp] theorem u_mChain (f f' : PyData → PyData → FO) (a b c : MD) : (mChain f f' a b c : ME) = fun s Q X => a s (fun d s1 => b s1 (fun e s2 => f d e fun o => bOf o fun k => if k = true then c s2 (fun z s3 => f' e z fun o2 => bOf o2 fun k2 => Q (.val (.dat (.bool k2))) s3) X else Q (.val (.dat (.bool false))) s2) X) X := rfl
@[simp] theorem u_bOf (o : O) (Q : Bool → Prop) : (bOf o Q : Prop) = (match o with
  | .dat (.bool b) => Q b
  | _ => False) := rfl
@[simp] theorem u_mD (m : ME) : (mD m : MD) = fun s Q X => m s (fun r s1 => match frz s1 r with
  | some (d, s2) => Q d s2
  | none => False) X := rfl
@[simp] theorem u_mOp (f : PyData → PyData → FO) (a b : ME) : (mOp f a b : ME) = (mCB (fl2 f) (mCons a (mCons b mNil))) := rfl
@[simp] theorem u_mUn (f : PyData → FO) (a : ME) : (mUn f a : ME) = (mCB (fl1 f) (mCons a mNil)) := rfl
@[simp] theorem u_mCB (f : List PyData → (O → Prop) → Prop) (m : MA) : (mCB f m : ME) = fun s Q X => m s (fun rs s1 => match rds s1 rs with
  | some ds => f ds fun o => Q (.val o) s1
  | none => False) X := rfl
@[simp] theorem u_mCons (m : ME) (r : MA) : (mCons m r : MA) = fun s Q X => m s (fun x s1 => r s1 (fun xs s2 => Q (x :: xs) s2) X) X := rfl
@[simp] theorem u_mNil  : (mNil  : MA) = fun s Q _ => Q [] s := rfl
@[simp] theorem u_mIfE (c : MT) (a b : ME) : (mIfE c a b : ME) = fun s Q X => c s (fun k s1 => if k = true then a s1 Q X else b s1 Q X) X := rfl
@[simp] theorem u_mIf (c : MT) (a b : MS) : (mIf c a b : MS) = fun s k => c s (fun q s1 => if q = true then a s1 k else b s1 k) k.er := rfl
@[simp] theorem u_mSeq (a b : MS) : (mSeq a b : MS) = fun s k => a s { k with nx := fun s1 => b s1 k } := rfl
@[simp] theorem u_mNext  : (mNext  : MS) = fun s k => k.nx s := rfl
@[simp] theorem u_mDrop (m : ME) : (mDrop m : MS) = fun s k => m s (fun _ s1 => k.nx s1) k.er := rfl
@[simp] theorem u_mAsg (i : Nat) (m : ME) : (mAsg i m : MS) = fun s k => m s (fun r s1 => asg i r s1 k.nx) k.er := rfl
@[simp] theorem u_asg (i : Nat) (r : Rs) (s : S) (Q : S → Prop) : (asg i r s Q : Prop) = (match mov s r with
  | some (o, s2) => i ∉ s2.bor ∧ i < s2.env.length ∧ Q (putO s2 i o)
  | none => False) := rfl
@[simp] theorem u_putO (s : S) (i : Nat) (o : O) : (putO s i o : S) = (⟨s.env.set i (some o), s.n, s.bor⟩) := rfl
@[simp] theorem u_mAsgG (g : MG) (m : MD) : (mAsgG g m : MS) = fun s k => m s (fun d s1 => g d s1 k.nx) k.er := rfl
@[simp] theorem u_mgN (i : Nat) : (mgN i : MG) = fun d s Q => i ∉ s.bor ∧ i < s.env.length ∧ Q (putO s i (.dat d)) := rfl
@[simp] theorem u_mgCons (m : MG) (r : MGs) : (mgCons m r : MGs) = fun ds s Q => match ds with
  | d :: ds => m d s fun s1 => r ds s1 Q
  | [] => False := rfl
@[simp] theorem u_mgNil  : (mgNil  : MGs) = fun ds s Q => ds = [] ∧ Q s := rfl
@[simp] theorem u_mMv (m : ME) : (mMv m : ME) = fun s Q X => m s (fun r s1 => match mov s1 r with
  | some (o, s2) => Q (.val o) s2
  | none => False) X := rfl
@[simp] theorem u_mFz (m : ME) : (mFz m : ME) = fun s Q X => m s (fun r s1 => match frz s1 r with
  | some (d, s2) => Q (.val (.dat d)) s2
  | none => False) X := rfl
@[simp] theorem u_mPar (is : List Nat) (m : MA) : (mPar is m : MS) = fun s k => m s (fun rs s1 => puts is rs s1 k.nx) k.er := rfl
@[simp] theorem u_mDis (f : List PyData → O) (m : MA) : (mDis f m : ME) = fun s Q X => m s (fun rs s1 => match dats rs with
  | some ds => ds.length ≤ 100000 ∧ Q (.val (f ds)) s1
  | none => False) X := rfl
@[simp] theorem u_mRaise (C : Addr) : (mRaise C : MS) = fun s k => k.er C s := rfl
@[simp] theorem u_mCall (G : Den) (m : MA) : (mCall G m : ME) = fun s Q X => m s (fun rs s1 => match gets s1 rs with
  | some os => (slotsOf rs).Nodup ∧ G os s1.n (fun o os' n' => Q (.val o) (backs rs os' ⟨s1.env, n', s1.bor⟩)) (fun C os' n' => X C (backs rs os' ⟨s1.env, n', s1.bor⟩))
  | none => False) X := rfl
@[simp] theorem u_mCall0 (G : Den) (m : MA) : (mCall0 G m : ME) = fun s Q X => mCall G m s Q fun _ _ => False := rfl
@[simp] theorem u_mLM (f : List PyData → List PyData → (List PyData → PyData → Prop) → Prop) (i : Nat) (m : MA) : (mLM f i m : ME) = fun s Q X => isLst s i ∧ m s (fun rs s1 => match dats rs, s1.env[i]? with
  | some es, some (some (.lst ds)) => f ds es fun ds' d' => Q (.val (.dat d')) (putO s1 i (.lst ds'))
  | _, _ => False) X := rfl
@[simp] theorem u_isLst (s : S) (i : Nat) : (isLst s i : Prop) = (match s.env[i]? with
  | some (some (.lst _)) => True
  | _ => False) := rfl
@[simp] theorem u_fAppend  : (fAppend  : List PyData → List PyData → (List PyData → PyData → Prop) → Prop) = fun ds es Q => match es with
    | [e] => ds.length < 100000 ∧ Q (ds ++ [e]) .none
    | _ => False := rfl
@[simp] theorem u_mSl (m : ME) (lo hi : MO) : (mSl m lo hi : ME) = fun s Q X => m s (fun r s1 => lo s1 (fun l s2 => hi s2 (fun h s3 => match rd s3 r with
  | some d => fSl d l h fun o => Q (.val o) s3
  | none => False) X) X) X := rfl
@[simp] theorem u_mONone  : (mONone  : MO) = fun s Q _ => Q none s := rfl
@[simp] theorem u_mOSome (m : MD) : (mOSome m : MO) = fun s Q X => m s (fun d s1 => match d with
  | .int i => Q (some i) s1
  | _ => False) X := rfl
@[simp] theorem u_mStar (m : ME) (r : MA) : (mStar m r : MA) = fun s Q X => mD m s (fun d s1 => match seqOf d with
  | some ds => r s1 (fun rs s2 => Q (ds.map (fun d => .val (.dat d)) ++ rs) s2) X
  | none => False) X := rfl
@[simp] theorem u_mIt (m : ME) : (mIt m : MI) = fun s Q X => mD m s (fun d s1 => match itemsOf d with
  | some ds => Q ds s1
  | none => False) X := rfl
@[simp] theorem u_mFor (i : MI) (g : MG) (b : MS) : (mFor i g b : MS) = fun s k => i s (fun ds s1 => mForL g b ds s1 k) k.er := rfl
@[simp] theorem u_mBreak  : (mBreak  : MS) = fun s k => k.bk s := rfl
@[simp] theorem u_mCont  : (mCont  : MS) = fun s k => k.ct s := rfl
@[simp] theorem u_mAug (i : Nat) (f : Int → Int → Int) (m : MD) : (mAug i f m : MS) = fun s k => match s.env[i]? with
  | some (some (.dat (.int a))) => m s (fun d s1 => match d with
    | .int b => i ∉ s1.bor ∧ i < s1.env.length ∧ k.nx (putO s1 i (.dat (.int (f a b))))
    | _ => False) k.er
  | _ => False := rfl
@[simp] theorem u_fSub  : (fSub  : PyData → PyData → FO) = (fI0 fun a b => a - b) := rfl
@[simp] theorem u_fFdiv  : (fFdiv  : PyData → PyData → FO) = (fI2 CDivW fun a b => a / b) := rfl
@[simp] theorem u_fMod  : (fMod  : PyData → PyData → FO) = (fI2 (fun _ b => 0 < b) fun a b => a % b) := rfl
@[simp] theorem u_fPow  : (fPow  : PyData → PyData → FO) = (fI2 CPow fun a b => a ^ b.toNat) := rfl
@[simp] theorem u_fEq  : (fEq  : PyData → PyData → FO) = fun d e Q => eqOk d e ∧ Q (.dat (.bool (eqd d e))) := rfl
@[simp] theorem u_fNe  : (fNe  : PyData → PyData → FO) = fun d e Q => SeqAt.shaped d = true ∧ SeqAt.shaped e = true ∧ Q (.dat (.bool (!eqd d e))) := rfl
@[simp] theorem u_fLt  : (fLt  : PyData → PyData → FO) = (fCmp (fun a b => decide (a < b)) fun a b => decide (a.cps.toList < b.cps.toList)) := rfl
@[simp] theorem u_fGt  : (fGt  : PyData → PyData → FO) = (fCmp (fun a b => decide (b < a)) fun a b => decide (b.cps.toList < a.cps.toList)) := rfl
@[simp] theorem u_fGe  : (fGe  : PyData → PyData → FO) = (fCmp (fun a b => decide (b ≤ a)) fun a b => !decide (a.cps.toList < b.cps.toList)) := rfl
@[simp] theorem u_mRng1 (m : MA) : (mRng1 m : MI) = fun s Q X => m s (fun rs s1 => match dats rs with
  | some [.int j] => -(2 ^ 62) ≤ j ∧ j < 2 ^ 62 ∧ Q (intsFrom 0 j.toNat) s1
  | _ => False) X := rfl
@[simp] theorem u_mRng2 (m : MA) : (mRng2 m : MI) = fun s Q X => m s (fun rs s1 => match dats rs with
  | some [.int i, .int j] => (-(2 ^ 62) ≤ i ∧ i < 2 ^ 62 ∧ -(2 ^ 62) ≤ j ∧ j < 2 ^ 62) ∧ Q (intsFrom i (j - i).toNat) s1
  | _ => False) X := rfl
@[simp] theorem u_mLPut (i : Nat) (mk mv : MD) : (mLPut i mk mv : MS) = fun s k => mv s (fun d s1 => isLst s1 i ∧ mk s1 (fun y s2 => match s2.env[i]?, y with
  | some (some (.lst ds)), .int j => match ixN ds.length j with
    | some n => k.nx (putO s2 i (.lst (ds.set n d)))
    | none => False
  | _, _ => False) k.er) k.er := rfl
@[simp] theorem u_mDPut (i : Nat) (mk mv : MD) : (mDPut i mk mv : MS) = fun s k => mv s (fun d s1 => isDct s1 i ∧ mk s1 (fun y s2 => match s2.env[i]?, keyOf y with
  | some (some (.dct kvs)), some key => kvs.length < 100000 ∧ k.nx (putO s2 i (.dct (putD kvs key d)))
  | _, _ => False) k.er) k.er := rfl
@[simp] theorem u_mDNew  : (mDNew  : ME) = fun s Q _ => Q (.val (.dct [])) s := rfl
@[simp] theorem u_mGet2 (m : ME) (mk mx : MD) : (mGet2 m mk mx : ME) = fun s Q X => m s (fun r s1 => (∃ kvs, dctOf s1 r = some kvs) ∧ mk s1 (fun k s2 => mx s2 (fun z s3 => match dctOf s3 r, keyOf k with
  | some kvs, some k => Q (.val (.dat ((getK kvs k).getD z))) s3
  | _, _ => False) X) X) X := rfl
@[simp] theorem u_mGetD (m : ME) (mk : MD) : (mGetD m mk : ME) = fun s Q X => m s (fun r s1 => mk s1 (fun k s2 => match dctOf s2 r, keyOf k with
  | some kvs, some k => match getK kvs k with
    | some d => Q (.val (.dat d)) s2
    | none => False
  | _, _ => False) X) X := rfl
@[simp] theorem u_isDct (s : S) (i : Nat) : (isDct s i : Prop) = (match s.env[i]? with
  | some (some (.dct _)) => True
  | _ => False) := rfl
@[simp] theorem u_mYes  : (mYes  : MT) = fun s Q _ => Q true s := rfl
@[simp] theorem u_mLc (i : MI) (g : MG) (t : MT) (e : ME) (vs : List Nat) : (mLc i g t e vs : ME) = fun s Q X => i s (fun ds s1 => (∀ v ∈ vs, v ∉ s1.bor) ∧ mLcL g t e vs ds [] (wipeS vs s1) fun acc s2 => Q (.val (.lst acc)) s2) X := rfl
@[simp] theorem u_wipeS (vs : List Nat) (s : S) : (wipeS vs s : S) = (⟨wipeE s.env vs, s.n, s.bor⟩) := rfl
@[simp] theorem u_mCaught (K : PySem.W.Frag) (CS : Addr) (m : ME) : (mCaught K CS m : ME) = fun s Q _ => m s (fun _ s1 => Q (.val (.dat .none)) s1) (fun C s1 => PySem.W.exmOne K (.ref C) (.ref CS) = some true ∧ Q (.val (.exc C)) s1) := rfl
@[simp] theorem u_fSl (d : PyData) (lo hi : Option Int) : (fSl d lo hi : FO) = fun Q => match d with
  | .list ds => Q (.lst (cutD ds lo hi))
  | .tuple ds => Q (.dat (.tuple (cutD ds lo hi)))
  | .str z => z.length ≤ 100000 ∧ Q (.dat (.str (cutS z lo hi)))
  | _ => False := rfl
@[simp] theorem u_fIn  : (fIn  : PyData → PyData → FO) = fun d e Q => match inB d e with
  | some b => Q (.dat (.bool b))
  | none => False := rfl
@[simp] theorem u_fNotIn  : (fNotIn  : PyData → PyData → FO) = fun d e Q => match inB d e with
  | some b => Q (.dat (.bool (!b)))
  | none => False := rfl
@[simp] theorem u_mgT (n : Nat) (m : MGs) : (mgT n m : MG) = fun d s Q => match d with
  | .tuple ds => ds.length = n ∧ m ds s Q
  | _ => False := rfl

section
variable {s : S} {os : List O} {o : O} {n k i j N : Nat} {d e : PyData} {ds es : List PyData} {rs : List Rs} {r : Rs} {Q : O → List O → Nat → Prop} {X : Addr → List O → Nat → Prop} {C : Addr} {q : O → Prop}
@[simp] theorem u_kOf_nx : (kOf os Q X).nx s = (match fins os s.env with
  | some os' => Q (.dat .none) os' s.n
  | none => False) := rfl
@[simp] theorem u_kOf_rt : (kOf os Q X).rt o s = (match fins os s.env with
  | some os' => Q o os' s.n
  | none => False) := rfl
@[simp] theorem u_kOf_er : (kOf os Q X).er C s = (match fins os s.env with
  | some os' => X C os' s.n
  | none => False) := rfl
@[simp] theorem u_owns_nil : ownsFrom k [] = [] := rfl
@[simp] theorem u_owns_dat : ownsFrom k (.dat d :: os) = ownsFrom (k + 1) os := rfl
@[simp] theorem u_owns_exc : ownsFrom k (.exc C :: os) = ownsFrom (k + 1) os := rfl
@[simp] theorem u_owns_st : ownsFrom k (.st :: os) = k :: ownsFrom (k + 1) os := rfl
@[simp] theorem u_owns_lst : ownsFrom k (.lst ds :: os) = k :: ownsFrom (k + 1) os := rfl
@[simp] theorem u_fins_nil {es : List (Option O)} : fins [] es = some [] := by cases es <;> rfl
@[simp] theorem u_fins_dat {x : Option O} {es : List (Option O)} : fins (.dat d :: os) (x :: es) = (fins os es).map (O.dat d :: ·) := by
  show (match some (O.dat d), fins os es with
    | some x, some xs => some (x :: xs)
    | _, _ => none) = _
  cases fins os es <;> rfl
@[simp] theorem u_fins_exc {x : Option O} {es : List (Option O)} : fins (.exc C :: os) (x :: es) = (fins os es).map (O.exc C :: ·) := by
  show (match some (O.exc C), fins os es with
    | some x, some xs => some (x :: xs)
    | _, _ => none) = _
  cases fins os es <;> rfl
@[simp] theorem u_fins_st {x : O} {es : List (Option O)} : fins (.st :: os) (some x :: es) = (fins os es).map (x :: ·) := by
  show (match some x, fins os es with
    | some x, some xs => some (x :: xs)
    | _, _ => none) = _
  cases fins os es <;> rfl
@[simp] theorem u_fins_lst {x : O} {es : List (Option O)} : fins (.lst ds :: os) (some x :: es) = (fins os es).map (x :: ·) := by
  show (match some x, fins os es with
    | some x, some xs => some (x :: xs)
    | _, _ => none) = _
  cases fins os es <;> rfl
@[simp] theorem u_mov_dat : mov s (.val (.dat d)) = some (.dat d, s) := rfl
@[simp] theorem u_mov_exc : mov s (.val (.exc C)) = some (.exc C, s) := rfl
@[simp] theorem u_mov_lst : mov s (.val (.lst ds)) = some (.lst ds, s) := rfl
@[simp] theorem u_mov_st : mov s (.val .st) = some (.st, s) := rfl
@[simp] theorem u_mov_dct {kvs : List (Key × PyData)} : mov s (.val (.dct kvs)) = some (.dct kvs, s) := rfl
@[simp] theorem u_mov_slot : mov s (.slot i) = (match s.env[i]? with
    | some (some (.dct kvs)) => some (.dct kvs, ⟨s.env.set i none, s.n, s.bor⟩)
    | _ => match frz s (.slot i) with
      | some (d, s1) => some (.dat d, s1)
      | none => none) := rfl
@[simp] theorem u_frz_dat : frz s (.val (.dat d)) = some (d, s) := rfl
@[simp] theorem u_frz_lst : frz s (.val (.lst ds)) = some (.list ds, s) := rfl
@[simp] theorem u_frz_dct : frz s (.val (.dct [])) = some (.dict [], s) := rfl
@[simp] theorem u_frz_exc : frz s (.val (.exc C)) = none := rfl
@[simp] theorem u_frz_slot : frz s (.slot i) = (match s.env[i]? with
    | some (some (.dat d)) => some (d, s)
    | some (some (.lst ds)) => some (.list ds, ⟨s.env.set i (some (.dat (.list ds))), s.n, s.bor⟩)
    | _ => none) := rfl
@[simp] theorem u_rd_dat : rd s (.val (.dat d)) = some d := rfl
@[simp] theorem u_rd_lst : rd s (.val (.lst ds)) = some (.list ds) := rfl
@[simp] theorem u_rd_dct : rd s (.val (.dct [])) = some (.dict []) := rfl
@[simp] theorem u_rd_slot : rd s (.slot i) = (match s.env[i]? with
    | some (some o) => rdO o
    | _ => none) := rfl
@[simp] theorem u_rdO_dat : rdO (.dat d) = some d := rfl
@[simp] theorem u_rdO_lst : rdO (.lst ds) = some (.list ds) := rfl
@[simp] theorem u_rds_nil : rds s [] = some [] := rfl
@[simp] theorem u_rds_cons : rds s (r :: rs) = (match rd s r, rds s rs with
  | some d, some ds => some (d :: ds)
  | _, _ => none) := rfl
@[simp] theorem u_fl1 {f : PyData → FO} : fl1 f [d] q = f d q := rfl
@[simp] theorem u_fl2 {f : PyData → PyData → FO} : fl2 f [d, e] q = f d e q := rfl
@[simp] theorem u_puts_nil {q : S → Prop} : puts [] [] s q = q s := rfl
@[simp] theorem u_puts_cons {is : List Nat} {q : S → Prop} : puts (i :: is) (.val o :: rs) s q = (i ∉ s.bor ∧ i < s.env.length ∧ puts is rs (putO s i o) q) := rfl
@[simp] theorem u_dats_nil : dats [] = some [] := rfl
@[simp] theorem u_dats_cons : dats (.val (.dat d) :: rs) = (dats rs).map (d :: ·) := by
  show (match dats rs with
    | some ds => some (d :: ds)
    | none => none) = _
  cases dats rs <;> rfl
@[simp] theorem u_gets_nil : gets s [] = some [] := rfl
@[simp] theorem u_gets_val : gets s (.val o :: rs) = (gets s rs).map (o :: ·) := by
  show (match gets s rs with
    | some os => some (o :: os)
    | none => none) = _
  cases gets s rs <;> rfl
@[simp] theorem u_gets_slot : gets s (.slot i :: rs) = (match s.env[i]?, gets s rs with
    | some (some o), some os => some (o :: os)
    | _, _ => none) := rfl
@[simp] theorem u_slots_nil : slotsOf [] = [] := rfl
@[simp] theorem u_slots_val : slotsOf (.val o :: rs) = slotsOf rs := rfl
@[simp] theorem u_slots_slot : slotsOf (.slot i :: rs) = i :: slotsOf rs := rfl
@[simp] theorem u_backs_nil : backs [] os s = s := by cases os <;> rfl
@[simp] theorem u_backs_val {o' : O} : backs (.val o :: rs) (o' :: os) s = backs rs os s := rfl
@[simp] theorem u_backs_slot {o' : O} : backs (.slot i :: rs) (o' :: os) s = backs rs os (putO s i o') := rfl
@[simp] theorem u_fI0 {g : Int → Int → Int} {a b : Int} : fI0 g (.int a) (.int b) q = q (.dat (.int (g a b))) := rfl
@[simp] theorem u_fI2 {c : Int → Int → Prop} {g : Int → Int → Int} {a b : Int} : fI2 c g (.int a) (.int b) q = (c a b ∧ q (.dat (.int (g a b)))) := rfl
@[simp] theorem u_fCmp {f : Int → Int → Bool} {g : Str → Str → Bool} {a b : Int} : fCmp f g (.int a) (.int b) q = q (.dat (.bool (f a b))) := rfl
@[simp] theorem u_fCmpS {f : Int → Int → Bool} {g : Str → Str → Bool} {a b : Str} : fCmp f g (.str a) (.str b) q = q (.dat (.bool (g a b))) := rfl
@[simp] theorem u_fAdd {a b : Int} : fAdd (.int a) (.int b) q = q (.dat (.int (a + b))) := rfl
@[simp] theorem u_fAddS {a b : Str} : fAdd (.str a) (.str b) q = (a.length + b.length ≤ 100000 ∧ q (.dat (.str (a ++ b)))) := rfl
@[simp] theorem u_fAddL : fAdd (.list ds) (.list es) q = (ds.length + es.length ≤ 100000 ∧ q (.lst (ds ++ es))) := rfl
@[simp] theorem u_fAddT : fAdd (.tuple ds) (.tuple es) q = (ds.length + es.length ≤ 100000 ∧ q (.dat (.tuple (ds ++ es)))) := rfl
@[simp] theorem u_fMul {a b : Int} : fMul (.int a) (.int b) q = (CMulA a b ∧ q (.dat (.int (a * b)))) := rfl
@[simp] theorem u_fMulT {b : Int} : fMul (.tuple ds) (.int b) q = (ds ≠ [] ∧ 2 ≤ b ∧ b ≤ 1000 ∧ ds.length ≤ 1000 ∧ q (.dat (.tuple (List.replicate b.toNat ds).flatten))) := rfl
@[simp] theorem u_fLe {a b : Int} : fLe (.int a) (.int b) q = q (.dat (.bool (decide (a ≤ b)))) := rfl
@[simp] theorem u_fLeT : fLe (.tuple ds) (.tuple es) q = (match intsOf? ds, intsOf? es with
    | some ns, some ms => q (.dat (.bool (leTup ns ms)))
    | _, _ => False) := rfl
@[simp] theorem u_fLenL : fLen (.list ds) q = q (.dat (.int (ds.length : Int))) := rfl
@[simp] theorem u_fLenT : fLen (.tuple ds) q = q (.dat (.int (ds.length : Int))) := rfl
@[simp] theorem u_fLenS {z : Str} : fLen (.str z) q = (z.length ≤ 100000 ∧ q (.dat (.int (z.length : Int)))) := rfl
@[simp] theorem u_fIntI {a : Int} : fIntI (.int a) q = q (.dat (.int a)) := rfl
@[simp] theorem u_fIntB {a : Bool} : fIntI (.bool a) q = q (.dat (.int (if a then 1 else 0))) := rfl
@[simp] theorem u_fMin2 {a b : Int} : fMin2 (.int a) (.int b) q = q (.dat (.int (if b < a then b else a))) := rfl
@[simp] theorem u_fNeg {a : Int} : fNeg (.int a) q = q (.dat (.int (-a))) := rfl
@[simp] theorem u_fTupleL : fTuple (.list ds) q = q (.dat (.tuple ds)) := rfl
@[simp] theorem u_fTupleT : fTuple (.tuple ds) q = q (.dat (.tuple ds)) := rfl
@[simp] theorem u_fIxL {a : Int} : fIx (.list ds) (.int a) q = (match atI ds a with
    | some d => q (.dat d)
    | none => False) := rfl
@[simp] theorem u_fIxT {a : Int} : fIx (.tuple ds) (.int a) q = (match atI ds a with
    | some d => q (.dat d)
    | none => False) := rfl
@[simp] theorem u_fRev : fRev (.tuple ds) q = q (.dat (.tuple ds.reverse)) := rfl
@[simp] theorem u_fIsN : fIsN d .none q = q (.dat (.bool (isNone d))) := by cases d <;> rfl
@[simp] theorem u_fNotN : fNotN d .none q = q (.dat (.bool (!isNone d))) := by cases d <;> rfl
@[simp] theorem u_fIsB {a b : Bool} : fIsB (.bool a) (.bool b) q = q (.dat (.bool (decide (a = b)))) := rfl
@[simp] theorem u_fNotB {a b : Bool} : fNotB (.bool a) (.bool b) q = q (.dat (.bool (!decide (a = b)))) := rfl
@[simp] theorem u_seqL : seqOf (.list ds) = some ds := rfl
@[simp] theorem u_seqT : seqOf (.tuple ds) = some ds := rfl
@[simp] theorem u_itemsL : itemsOf (.list ds) = some ds := rfl
@[simp] theorem u_itemsT : itemsOf (.tuple ds) = some ds := rfl
@[simp] theorem u_atI0 {x : PyData} : atI (x :: ds) 0 = some x := atI_nat (j := 0) rfl
@[simp] theorem u_forL_nil {g : MG} {b : MS} {k : SK} : mForL g b [] s k = k.nx s := rfl
@[simp] theorem u_lcL_nil {g : MG} {t : MT} {e : ME} {vs : List Nat} {acc : List PyData} {Q : List PyData → S → Prop} : mLcL g t e vs [] acc s Q = Q acc s := rfl
@[simp] theorem sh_int {i : Int} : SeqAt.shaped (.int i) = true := rfl
@[simp] theorem sh_str {i : Str} : SeqAt.shaped (.str i) = PyData.strOk i := by
  simp [SeqAt.shaped, PyData.depth, PyData.canLay0]
@[simp] theorem sh_bool {i : Bool} : SeqAt.shaped (.bool i) = true := rfl
@[simp] theorem sh_none : SeqAt.shaped .none = true := rfl
@[simp] theorem eqd_int {i j : Int} : eqd (.int i) (.int j) = decide (i = j) := by
  unfold eqd
  by_cases h : i = j
  · subst h; simp [PyData.eqv]
  · simp [PyData.eqv, h]
@[simp] theorem eqd_str {i j : Str} : eqd (.str i) (.str j) = decide (i = j) := by
  unfold eqd
  by_cases h : i = j
  · subst h; simp [PyData.eqv]
  · simp [PyData.eqv, h]
end
end Mk

/-! part Mx -/
/-! Mk, part 18: what the denotations come to, step by step. -/
namespace Mk
open PySem PySem.Spec PyProof.Rows L2 Evl Lk LamX
def movK (r : Rs) (s : S) (k : O → S → Prop) : Prop := match mov s r with
  | some (o, s2) => k o s2
  | none => False
def frzK (r : Rs) (s : S) (k : PyData → S → Prop) : Prop := match frz s r with
  | some (d, s2) => k d s2
  | none => False
def boolK (r : Rs) (s : S) (k : Bool → S → Prop) : Prop := match r with
  | .val (.dat (.bool b)) => k b s
  | _ => False
def rdK (r : Rs) (s : S) (k : PyData → Prop) : Prop := match rd s r with
  | some d => k d
  | none => False
def rdsK (rs : List Rs) (s : S) (k : List PyData → Prop) : Prop := match rds s rs with
  | some ds => k ds
  | none => False
def datsK (rs : List Rs) (k : List PyData → Prop) : Prop := match dats rs with
  | some ds => k ds
  | none => False
def callK (G : Den) (rs : List Rs) (s1 : S) (Q : Rs → S → Prop) (X : XM) : Prop := match gets s1 rs with
  | some os => (slotsOf rs).Nodup ∧ G os s1.n (fun o os' n' => Q (.val o) (backs rs os' ⟨s1.env, n', s1.bor⟩)) (fun C os' n' => X C (backs rs os' ⟨s1.env, n', s1.bor⟩))
  | none => False
def itK (d : PyData) (k : List PyData → Prop) : Prop := match itemsOf d with
  | some ds => k ds
  | none => False
def intK (d : PyData) (k : Int → Prop) : Prop := match d with
  | .int i => k i
  | _ => False
def lmK (f : List PyData → List PyData → (List PyData → PyData → Prop) → Prop) (i : Nat) (rs : List Rs) (s1 : S) (Q : Rs → S → Prop) : Prop := match dats rs, s1.env[i]? with
  | some es, some (some (.lst ds)) => f ds es fun ds' d' => Q (.val (.dat d')) (putO s1 i (.lst ds'))
  | _, _ => False
section
variable {s s1 : S} {os os' : List O} {o : O} {n i j N p : Nat} {d e : PyData} {ds es : List PyData} {rs : List Rs} {r r2 : Rs} {Q : O → List O → Nat → Prop} {Y : Addr → List O → Nat → Prop} {C : Addr} {q : O → Prop} {m m' : ME} {X : XM} {ma mr : MA} {a b : MT} {P : Rs → S → Prop} {PB : Bool → S → Prop} {PA : List Rs → S → Prop} {PD : PyData → S → Prop} {K : SK} {st st' : MS} {c : Bool} {A B : Prop} {md me : MD} {PS : S → Prop} {z : Option O} {f f' : PyData → PyData → FO}
/-! ### a def's run -/
theorem x_run {b : MS} {ev : List (Option O)} {bo : List Nat} (hl : os.length = p) (he : os.map some ++ List.replicate (N - os.length) none = ev) (hb : ownsFrom 0 os = bo) (h : b ⟨ev, n, bo⟩ (kOf os Q Y)) : runF p N b os n Q Y := by
  subst he hb
  exact ⟨hl, h⟩
theorem x_rt {ev : List (Option O)} {bo : List Nat} (h : fins os ev = some os') (q : Q o os' n) : (kOf os Q Y).rt o ⟨ev, n, bo⟩ := by
  show (match fins os ev with
    | some os' => Q o os' n
    | none => False)
  rw [h]; exact q
theorem x_nx {ev : List (Option O)} {bo : List Nat} (h : fins os ev = some os') (q : Q (.dat .none) os' n) : (kOf os Q Y).nx ⟨ev, n, bo⟩ := by
  show (match fins os ev with
    | some os' => Q (.dat .none) os' n
    | none => False)
  rw [h]; exact q
theorem x_er {ev : List (Option O)} {bo : List Nat} (h : fins os ev = some os') (q : Y C os' n) : (kOf os Q Y).er C ⟨ev, n, bo⟩ := by
  show (match fins os ev with
    | some os' => Y C os' n
    | none => False)
  rw [h]; exact q
/-! ### results -/
theorem x_mov_dat {k : O → S → Prop} (h : k (.dat d) s) : movK (.val (.dat d)) s k := h
theorem x_mov_lst {k : O → S → Prop} (h : k (.lst ds) s) : movK (.val (.lst ds)) s k := h
theorem x_mov_dct {k : O → S → Prop} {kvs : List (Key × PyData)} (h : k (.dct kvs) s) : movK (.val (.dct kvs)) s k := h
theorem x_mov_exc {k : O → S → Prop} (h : k (.exc C) s) : movK (.val (.exc C)) s k := h
theorem x_mov_st {k : O → S → Prop} (h : k .st s) : movK (.val .st) s k := h
theorem x_mov_slot {k : O → S → Prop} {ev ev' : List (Option O)} {bo : List Nat} (e : ev[i]? = some (some (.lst ds))) (h3 : ev.set i (some (.dat (.list ds))) = ev') (h : k (.dat (.list ds)) ⟨ev', n, bo⟩) : movK (.slot i) ⟨ev, n, bo⟩ k := by
  subst h3
  obtain ⟨s, es⟩ : ∃ s : S, s = ⟨ev, n, bo⟩ := ⟨_, rfl⟩
  have e : s.env[i]? = some (some (.lst ds)) := by rw [es]; exact e
  have h : k (.dat (.list ds)) ⟨s.env.set i (some (.dat (.list ds))), s.n, s.bor⟩ := by rw [es]; exact h
  rw [← es]
  have z : mov s (.slot i) = some (.dat (.list ds), ⟨s.env.set i (some (.dat (.list ds))), s.n, s.bor⟩) := by
    rw [u_mov_slot, u_frz_slot, e]
  unfold movK
  rw [z]; exact h
theorem x_mov_slotD {k : O → S → Prop} {kvs : List (Key × PyData)} {ev ev' : List (Option O)} {bo : List Nat} (e : ev[i]? = some (some (.dct kvs))) (h3 : ev.set i none = ev') (h : k (.dct kvs) ⟨ev', n, bo⟩) : movK (.slot i) ⟨ev, n, bo⟩ k := by
  subst h3
  obtain ⟨s, es⟩ : ∃ s : S, s = ⟨ev, n, bo⟩ := ⟨_, rfl⟩
  have e : s.env[i]? = some (some (.dct kvs)) := by rw [es]; exact e
  have h : k (.dct kvs) ⟨s.env.set i none, s.n, s.bor⟩ := by rw [es]; exact h
  rw [← es]
  have z : mov s (.slot i) = some (.dct kvs, ⟨s.env.set i none, s.n, s.bor⟩) := by
    rw [u_mov_slot, e]
  unfold movK
  rw [z]; exact h
theorem x_frz_dat {k : PyData → S → Prop} (h : k d s) : frzK (.val (.dat d)) s k := h
theorem x_frz_lst {k : PyData → S → Prop} (h : k (.list ds) s) : frzK (.val (.lst ds)) s k := h
theorem x_frz_dct {k : PyData → S → Prop} (h : k (.dict []) s) : frzK (.val (.dct [])) s k := h
theorem x_frz_slot {k : PyData → S → Prop} {ev ev' : List (Option O)} {bo : List Nat} (e : ev[i]? = some (some (.lst ds))) (h3 : ev.set i (some (.dat (.list ds))) = ev') (h : k (.list ds) ⟨ev', n, bo⟩) : frzK (.slot i) ⟨ev, n, bo⟩ k := by
  subst h3
  obtain ⟨s, es⟩ : ∃ s : S, s = ⟨ev, n, bo⟩ := ⟨_, rfl⟩
  have e : s.env[i]? = some (some (.lst ds)) := by rw [es]; exact e
  have h : k (.list ds) ⟨s.env.set i (some (.dat (.list ds))), s.n, s.bor⟩ := by rw [es]; exact h
  rw [← es]
  have z : frz s (.slot i) = some (.list ds, ⟨s.env.set i (some (.dat (.list ds))), s.n, s.bor⟩) := by
    rw [u_frz_slot, e]
  unfold frzK
  rw [z]; exact h
theorem x_bool {k : Bool → S → Prop} (h : k c s) : boolK (.val (.dat (.bool c))) s k := h
theorem x_rdK {k : PyData → Prop} (e : rd s r = some d) (h : k d) : rdK r s k := by
  unfold rdK; rw [e]; exact h
theorem x_rdsK {k : List PyData → Prop} (e : rds s rs = some ds) (h : k ds) : rdsK rs s k := by
  unfold rdsK; rw [e]; exact h
theorem x_datsK {k : List PyData → Prop} (e : dats rs = some ds) (h : k ds) : datsK rs k := by
  unfold datsK; rw [e]; exact h
theorem x_itK {k : List PyData → Prop} (e : itemsOf d = some ds) (h : k ds) : itK d k := by
  unfold itK; rw [e]; exact h
theorem x_intK {k : Int → Prop} {i : Int} (h : k i) : intK (.int i) k := h
theorem x_callK {G : Den} {ev : List (Option O)} {bo : List Nat} (e : gets ⟨ev, n, bo⟩ rs = some os) (nd : (slotsOf rs).Nodup) (h : G os n (fun o os' n' => P (.val o) (backs rs os' ⟨ev, n', bo⟩)) (fun C os' n' => X C (backs rs os' ⟨ev, n', bo⟩))) : callK G rs ⟨ev, n, bo⟩ P X := by
  unfold callK; rw [e]; exact ⟨nd, h⟩
theorem backs_vals : ∀ {rs : List Rs} {os : List O} {s : S}, slotsOf rs = [] → backs rs os s = s
  | [], os, s, _ => by cases os <;> rfl
  | .val _ :: rs, [], s, _ => rfl
  | .val _ :: rs, _ :: os, s, h => backs_vals (rs := rs) (os := os) h
  | .slot _ :: _, _, _, h => nomatch h
/-- .. of data alone -/
theorem x_callV {G : Den} {ev : List (Option O)} {bo : List Nat} (e : gets ⟨ev, n, bo⟩ rs = some os) (nd : slotsOf rs = []) (h : G os n (fun o os' n' => P (.val o) ⟨ev, n', bo⟩) (fun C os' n' => X C ⟨ev, n', bo⟩)) : callK G rs ⟨ev, n, bo⟩ P X := by
  unfold callK
  rw [e]
  refine ⟨by rw [nd]; exact List.nodup_nil, ?_⟩
  have e1 : (fun o os' n' => P (.val o) (backs rs os' ⟨ev, n', bo⟩)) = fun o (_ : List O) n' => P (.val o) ⟨ev, n', bo⟩ := by
    funext o os' n'
    rw [backs_vals nd]
  have e2 : (fun C os' n' => X C (backs rs os' ⟨ev, n', bo⟩)) = fun C (_ : List O) n' => X C ⟨ev, n', bo⟩ := by
    funext o os' n'
    rw [backs_vals nd]
  rw [e1, e2]
  exact h
theorem x_fEqS {x y : Str} (h1 : PyData.strOk x = true) (h2 : PyData.strOk y = true) (h : q (.dat (.bool (decide (x = y))))) : fEq (.str x) (.str y) q := ⟨.inl ⟨by rw [sh_str]; exact h1, by rw [sh_str]; exact h2⟩, by rw [eqd_str]; exact h⟩
theorem x_fEqN0 (h : q (.dat (.bool true))) : fEq (.tuple []) (.tuple []) q := ⟨.inr ⟨⟨[], rfl⟩, rfl⟩, by rw [eqd_nil]; exact h⟩
theorem x_fEqNc (h : q (.dat (.bool false))) : fEq (.tuple (d :: ds)) (.tuple []) q := ⟨.inr ⟨⟨_, rfl⟩, rfl⟩, by rw [eqd_nil, decide_eq_false (by rw [List.length_cons]; omega)]; exact h⟩
theorem x_fEqN (h : q (.dat (.bool (decide (ds.length = 0))))) : fEq (.tuple ds) (.tuple []) q := ⟨.inr ⟨⟨ds, rfl⟩, rfl⟩, by rw [eqd_nil]; exact h⟩
theorem x_fNeS {x y : Str} (h1 : PyData.strOk x = true) (h2 : PyData.strOk y = true) (h : q (.dat (.bool (!decide (x = y))))) : fNe (.str x) (.str y) q := ⟨by rw [sh_str]; exact h1, by rw [sh_str]; exact h2, by rw [eqd_str]; exact h⟩
theorem x_fInC {c : Nat} {z : Str} (h : q (.dat (.bool (decide (c ∈ z.cps.toList))))) : fIn (.str ⟨#[c]⟩) (.str z) q := h
theorem x_fNotInC {c : Nat} {z : Str} (h : q (.dat (.bool (!decide (c ∈ z.cps.toList))))) : fNotIn (.str ⟨#[c]⟩) (.str z) q := h
theorem x_disl {ds : List PyData} {A : Prop} (h1 : ds.length ≤ 100000) (h : A) : ds.length ≤ 100000 ∧ A := ⟨h1, h⟩
theorem x_lmK {g : List PyData → List PyData → (List PyData → PyData → Prop) → Prop} {ev : List (Option O)} {bo : List Nat} (e1 : dats rs = some es) (e2 : ev[i]? = some (some (.lst ds))) (h : g ds es fun ds' d' => P (.val (.dat d')) ⟨ev.set i (some (.lst ds')), n, bo⟩) : lmK g i rs ⟨ev, n, bo⟩ P := by
  obtain ⟨s, es⟩ : ∃ s : S, s = ⟨ev, n, bo⟩ := ⟨_, rfl⟩
  have e2 : s.env[i]? = some (some (.lst ds)) := by rw [es]; exact e2
  rw [← es]
  unfold lmK; rw [e1, e2]
  subst es
  exact h
/-! ### statements -/
theorem x_seq (h : st s { K with nx := fun s1 => st' s1 K }) : mSeq st st' s K := h
theorem x_next (h : K.nx s) : mNext s K := h
theorem x_retN (h : K.rt (.dat .none) s) : mRetN s K := h
theorem x_ret (h : m s (fun r s1 => movK r s1 K.rt) K.er) : mRet m s K := h
theorem x_drop (h : m s (fun _ s1 => K.nx s1) K.er) : mDrop m s K := h
theorem x_brk (h : K.bk s) : mBreak s K := h
theorem x_cnt (h : K.ct s) : mCont s K := h
theorem x_rse (h : K.er C s) : mRaise C s K := h
theorem x_if (h : a s (fun q s1 => if q = true then st s1 K else st' s1 K) K.er) : mIf a st st' s K := h
def putK (i : Nat) (o : O) (s : S) (k : S → Prop) : Prop := i ∉ s.bor ∧ i < s.env.length ∧ k (putO s i o)
theorem x_asg (h : m s (fun r s1 => movK r s1 fun o s2 => putK i o s2 K.nx) K.er) : mAsg i m s K := h
theorem x_put {ev ev' : List (Option O)} {bo : List Nat} (h1 : i ∉ bo) (h2 : i < ev.length) (h3 : ev.set i (some o) = ev') (h : PS ⟨ev', n, bo⟩) : putK i o ⟨ev, n, bo⟩ PS := by
  subst h3; exact ⟨h1, h2, h⟩
theorem x_asgG {g : MG} (h : md s (fun d s1 => g d s1 K.nx) K.er) : mAsgG g md s K := h
theorem x_gN (h : putK i (.dat d) s PS) : mgN i d s PS := h
theorem x_gT {g : MGs} (hl : ds.length = n) (h : g ds s PS) : mgT n g (.tuple ds) s PS := ⟨hl, h⟩
theorem x_gC {g : MG} {gs : MGs} (h : g d s fun s1 => gs ds s1 PS) : mgCons g gs (d :: ds) s PS := h
theorem x_gE (h : PS s) : mgNil [] s PS := ⟨rfl, h⟩
theorem x_par {is : List Nat} (h : ma s (fun rs s1 => puts is rs s1 K.nx) K.er) : mPar is ma s K := h
theorem x_putsE (h : PS s) : puts [] [] s PS := h
theorem x_putsC {is : List Nat} (h : putK i o s fun s1 => puts is rs s1 PS) : puts (i :: is) (.val o :: rs) s PS := ⟨h.1, h.2.1, h.2.2⟩
theorem x_for {mi : MI} {g : MG} (h : mi s (fun ds s1 => mForL g st ds s1 K) K.er) : mFor mi g st s K := h
theorem x_aug {op : Int → Int → Int} {u : Int} (e : s.env[i]? = some (some (.dat (.int u)))) (h : md s (fun d s1 => intK d fun v => putK i (.dat (.int (op u v))) s1 K.nx) K.er) : mAug i op md s K := by
  unfold mAug
  rw [e]
  exact h
theorem x_ite (h1 : c = true → A) (h2 : c = false → B) : if c = true then A else B := by
  cases c
  · exact h2 rfl
  · exact h1 rfl
theorem x_iteT (h : A) : if true = true then A else B := h
theorem x_iteF (h : B) : if false = true then A else B := h
theorem x_iteT2 (e : c = true) (h : A) : if c = true then A else B := by rw [if_pos e]; exact h
theorem x_iteF2 (e : c = false) (h : B) : if c = true then A else B := by rw [e, if_neg Bool.false_ne_true]; exact h
theorem x_iteN (e : c = true) (h : B) : if (!c) = true then A else B := by rw [e]; exact h
theorem x_iteM (e : c = false) (h : A) : if (!c) = true then A else B := by rw [e]; exact h
theorem x_fin {o' : O} (h : Q o os n) (e : o' = o) : Q o' os n := e ▸ h
/-! ### expressions -/
theorem x_v_dat (e : s.env[i]? = some (some (.dat d))) (h : P (.val (.dat d)) s) : mVar i s P X := by
  unfold mVar; rw [e]; exact h
theorem x_v_exc (e : s.env[i]? = some (some (.exc C))) (h : P (.val (.exc C)) s) : mVar i s P X := by
  unfold mVar; rw [e]; exact h
theorem x_v_lst (e : s.env[i]? = some (some (.lst ds))) (h : P (.slot i) s) : mVar i s P X := by
  unfold mVar; rw [e]; exact h
theorem x_v_dct {kvs : List (Key × PyData)} (e : s.env[i]? = some (some (.dct kvs))) (h : P (.slot i) s) : mVar i s P X := by
  unfold mVar; rw [e]; exact h
theorem x_v_st (e : s.env[i]? = some (some .st)) (h : P (.slot i) s) : mVar i s P X := by
  unfold mVar; rw [e]; exact h
theorem x_c (h : P (.val (.dat d)) s) : mC d s P X := h
theorem x_d (h : m s (fun r s1 => frzK r s1 PD) X) : mD m s PD X := h
theorem x_b (h : m s (fun r s1 => boolK r s1 PB) X) : mB m s PB X := h
theorem x_fz (h : m s (fun r s1 => frzK r s1 fun d s2 => P (.val (.dat d)) s2) X) : mFz m s P X := h
theorem x_mv (h : m s (fun r s1 => movK r s1 fun o s2 => P (.val o) s2) X) : mMv m s P X := h
theorem x_not (h : a s (fun q s1 => PB (!q) s1) X) : mNot a s PB X := h
theorem x_notV (h : a s (fun q s1 => P (.val (.dat (.bool (!q)))) s1) X) : mNotV a s P X := h
theorem x_and (h : a s (fun q s1 => if q = true then b s1 PB X else PB false s1) X) : mAnd a b s PB X := h
theorem x_or (h : a s (fun q s1 => if q = true then PB true s1 else b s1 PB X) X) : mOr a b s PB X := h
theorem x_andV (h : a s (fun q s1 => if q = true then m s1 P X else P (.val (.dat (.bool false))) s1) X) : mAndV a m s P X := h
theorem x_orV (h : a s (fun q s1 => if q = true then P (.val (.dat (.bool true))) s1 else m s1 P X) X) : mOrV a m s P X := h
theorem x_ifE (h : a s (fun q s1 => if q = true then m s1 P X else m' s1 P X) X) : mIfE a m m' s P X := h
theorem x_isi {g : PyData → Bool} (h : m s (fun r s1 => rdK r s1 fun d => P (.val (.dat (.bool (g d)))) s1) X) : mIsi g m s P X := h
def opK (f : PyData → PyData → FO) (r r2 : Rs) (s : S) (P : Rs → S → Prop) : Prop := rdsK [r, r2] s fun ds => fl2 f ds fun o => P (.val o) s
theorem x_op (h : m s (fun r s1 => m' s1 (fun r2 s2 => opK f r r2 s2 P) X) X) : mOp f m m' s P X := h
theorem x_opK (e1 : rd s r = some d) (e2 : rd s r2 = some e) (h : f d e fun o => P (.val o) s) : opK f r r2 s P := by
  unfold opK rdsK rds rds rds
  rw [e1, e2]
  exact h
theorem x_un {g : PyData → FO} (h : m s (fun r s1 => rdK r s1 fun d => g d fun o => P (.val o) s1) X) : mUn g m s P X := by
  refine Eq.mp (congrArg (fun z => m s z X) ?_) h
  funext r s1
  unfold rdK
  show _ = (match rds s1 [r] with
    | some ds => fl1 g ds fun o => P (.val o) s1
    | none => False)
  unfold rds rds
  cases rd s1 r <;> rfl
theorem x_cb {g : List PyData → FO} (h : ma s (fun rs s1 => rdsK rs s1 fun ds => g ds fun o => P (.val o) s1) X) : mCB g ma s P X := h
theorem x_chain (h : md s (fun d s1 => me s1 (fun e s2 => f d e fun o => bOf o fun k => if k = true then (mD m) s2 (fun z s3 => f' e z fun o2 => bOf o2 fun k2 => P (.val (.dat (.bool k2))) s3) X else P (.val (.dat (.bool false))) s2) X) X) : mChain f f' md me (mD m) s P X := h
theorem x_bOf {k : Bool → Prop} (h : k c) : bOf (.dat (.bool c)) k := h
theorem x_nil (h : PA [] s) : mNil s PA X := h
theorem x_cons (h : m s (fun x s1 => mr s1 (fun xs s2 => PA (x :: xs) s2) X) X) : mCons m mr s PA X := h
def seqK (d : PyData) (k : List PyData → Prop) : Prop := match seqOf d with
  | some ds => k ds
  | none => False
theorem x_star (h : mD m s (fun d s1 => seqK d fun ds => mr s1 (fun rs s2 => PA (ds.map (fun d => .val (.dat d)) ++ rs) s2) X) X) : mStar m mr s PA X := h
theorem x_seqK {k : List PyData → Prop} (e : seqOf d = some ds) (h : k ds) : seqK d k := by
  unfold seqK; rw [e]; exact h
theorem x_dis {g : List PyData → O} (h : ma s (fun rs s1 => datsK rs fun ds => ds.length ≤ 100000 ∧ P (.val (g ds)) s1) X) : mDis g ma s P X := h
theorem x_call {G : Den} (h : ma s (fun rs s1 => callK G rs s1 P X) X) : mCall G ma s P X := h
theorem x_call0 {G : Den} (h : ma s (fun rs s1 => callK G rs s1 P fun _ _ => False) fun _ _ => False) : mCall0 G ma s P X := h
theorem x_lm {g : List PyData → List PyData → (List PyData → PyData → Prop) → Prop} (e : s.env[i]? = some (some (.lst ds))) (h : ma s (fun rs s1 => lmK g i rs s1 P) X) : mLM g i ma s P X := by
  refine ⟨?_, h⟩
  unfold isLst
  rw [e]; trivial
theorem x_it {PL : List PyData → S → Prop} (h : mD m s (fun d s1 => itK d fun ds => PL ds s1) X) : mIt m s PL X := h
theorem x_dnew (h : P (.val (.dct [])) s) : mDNew s P X := h
theorem x_oN {PO : Option Int → S → Prop} (h : PO none s) : mONone s PO X := h
theorem x_oS {PO : Option Int → S → Prop} (h : md s (fun d s1 => intK d fun i => PO (some i) s1) X) : mOSome md s PO X := h
theorem x_sl {lo hi : MO} (h : m s (fun r s1 => lo s1 (fun l s2 => hi s2 (fun u s3 => rdK r s3 fun d => fSl d l u fun o => P (.val o) s3) X) X) X) : mSl m lo hi s P X := h
theorem x_lc {mi : MI} {g : MG} {vs : List Nat} (h : mi s (fun ds s1 => (∀ v ∈ vs, v ∉ s1.bor) ∧ mLcL g a m vs ds [] (wipeS vs s1) fun acc s2 => P (.val (.lst acc)) s2) X) : mLc mi g a m vs s P X := h
/-! ### operations -/
variable {u v : Int}
theorem x_fI0 {g : Int → Int → Int} (h : q (.dat (.int (g u v)))) : fI0 g (.int u) (.int v) q := h
theorem x_fSub (h : q (.dat (.int (u - v)))) : fSub (.int u) (.int v) q := h
theorem x_fMod (hc : 0 < v) (h : q (.dat (.int (u % v)))) : fMod (.int u) (.int v) q := ⟨hc, h⟩
theorem x_fFdiv (hc : CDivW u v) (h : q (.dat (.int (u / v)))) : fFdiv (.int u) (.int v) q := ⟨hc, h⟩
theorem x_fPow (hc : CPow u v) (h : q (.dat (.int (u ^ v.toNat)))) : fPow (.int u) (.int v) q := ⟨hc, h⟩
theorem x_fMul (hc : CMulA u v) (h : q (.dat (.int (u * v)))) : fMul (.int u) (.int v) q := ⟨hc, h⟩
theorem x_fAdd (h : q (.dat (.int (u + v)))) : fAdd (.int u) (.int v) q := h
theorem x_fAddT (hl : ds.length + es.length ≤ 100000) (h : q (.dat (.tuple (ds ++ es)))) : fAdd (.tuple ds) (.tuple es) q := ⟨hl, h⟩
theorem x_fAddL (hl : ds.length + es.length ≤ 100000) (h : q (.lst (ds ++ es))) : fAdd (.list ds) (.list es) q := ⟨hl, h⟩
theorem x_fEq (h1 : SeqAt.shaped d = true) (h2 : SeqAt.shaped e = true) (h : q (.dat (.bool (eqd d e)))) : fEq d e q := ⟨.inl ⟨h1, h2⟩, h⟩
theorem x_fNe (h1 : SeqAt.shaped d = true) (h2 : SeqAt.shaped e = true) (h : q (.dat (.bool (!eqd d e)))) : fNe d e q := ⟨h1, h2, h⟩
theorem x_fEqI (h : q (.dat (.bool (decide (u = v))))) : fEq (.int u) (.int v) q := ⟨.inl ⟨rfl, rfl⟩, by rw [eqd_int]; exact h⟩
theorem x_fNeI (h : q (.dat (.bool (!decide (u = v))))) : fNe (.int u) (.int v) q := ⟨rfl, rfl, by rw [eqd_int]; exact h⟩
theorem x_fLt (h : q (.dat (.bool (decide (u < v))))) : fLt (.int u) (.int v) q := h
theorem x_fLe (h : q (.dat (.bool (decide (u ≤ v))))) : fLe (.int u) (.int v) q := h
theorem x_fGt (h : q (.dat (.bool (decide (v < u))))) : fGt (.int u) (.int v) q := h
theorem x_fGe (h : q (.dat (.bool (decide (v ≤ u))))) : fGe (.int u) (.int v) q := h
theorem x_fIsN (h : q (.dat (.bool (isNone d)))) : fIsN d .none q := by rw [u_fIsN]; exact h
theorem x_fNotN (h : q (.dat (.bool (!isNone d)))) : fNotN d .none q := by rw [u_fNotN]; exact h
theorem x_fLenL (h : q (.dat (.int (ds.length : Int)))) : fLen (.list ds) q := h
theorem x_fLenT (h : q (.dat (.int (ds.length : Int)))) : fLen (.tuple ds) q := h
theorem x_fIntI (h : q (.dat (.int u))) : fIntI (.int u) q := h
theorem x_fIntB (h : q (.dat (.int (if c then 1 else 0)))) : fIntI (.bool c) q := h
theorem x_fNeg (h : q (.dat (.int (-u)))) : fNeg (.int u) q := h
theorem x_fTupL (h : q (.dat (.tuple ds))) : fTuple (.list ds) q := h
theorem x_fTupT (h : q (.dat (.tuple ds))) : fTuple (.tuple ds) q := h
theorem x_fIxL (e' : atI ds u = some d) (h : q (.dat d)) : fIx (.list ds) (.int u) q := by
  rw [u_fIxL, e']; exact h
theorem x_fIxT (e' : atI ds u = some d) (h : q (.dat d)) : fIx (.tuple ds) (.int u) q := by
  rw [u_fIxT, e']; exact h
theorem x_fRev (h : q (.dat (.tuple ds.reverse))) : fRev (.tuple ds) q := h
theorem x_fMin2 (h : q (.dat (.int (if v < u then v else u)))) : fMin2 (.int u) (.int v) q := h
theorem x_fl1 {g : PyData → FO} (h : g d q) : fl1 g [d] q := h
theorem x_fl2 (h : f d e q) : fl2 f [d, e] q := h
theorem x_fSlT {l u : Option Int} (h : q (.dat (.tuple (cutD ds l u)))) : fSl (.tuple ds) l u q := h
theorem x_fSlL {l u : Option Int} (h : q (.lst (cutD ds l u))) : fSl (.list ds) l u q := h
end
def rngK1 (rs : List Rs) (k : List PyData → Prop) : Prop := match dats rs with
  | some [.int j] => -(2 ^ 62) ≤ j ∧ j < 2 ^ 62 ∧ k (intsFrom 0 j.toNat)
  | _ => False
def rngK2 (rs : List Rs) (k : List PyData → Prop) : Prop := match dats rs with
  | some [.int i, .int j] => (-(2 ^ 62) ≤ i ∧ i < 2 ^ 62 ∧ -(2 ^ 62) ≤ j ∧ j < 2 ^ 62) ∧ k (intsFrom i (j - i).toNat)
  | _ => False
theorem x_rng1 {mr : MA} {s : S} {PL : List PyData → S → Prop} {X : XM} (h : mr s (fun rs s1 => rngK1 rs fun ds => PL ds s1) X) : mRng1 mr s PL X := by
  refine Eq.mp (congrArg (fun z => mr s z X) ?_) h
  funext rs s1
  unfold rngK1
  rfl
theorem x_rng2 {mr : MA} {s : S} {PL : List PyData → S → Prop} {X : XM} (h : mr s (fun rs s1 => rngK2 rs fun ds => PL ds s1) X) : mRng2 mr s PL X := by
  refine Eq.mp (congrArg (fun z => mr s z X) ?_) h
  funext rs s1
  unfold rngK2
  rfl
theorem x_rngK1 {j : Int} {k : List PyData → Prop} (b : -(2 ^ 62) ≤ j ∧ j < 2 ^ 62) (h : k (intsFrom 0 j.toNat)) : rngK1 [.val (.dat (.int j))] k := ⟨b.1, b.2, h⟩
theorem x_rngK2 {i j : Int} {k : List PyData → Prop} (b : -(2 ^ 62) ≤ i ∧ i < 2 ^ 62 ∧ -(2 ^ 62) ≤ j ∧ j < 2 ^ 62) (h : k (intsFrom i (j - i).toNat)) : rngK2 [.val (.dat (.int i)), .val (.dat (.int j))] k := ⟨b, h⟩
theorem x_fSum {ds : List PyData} {ns : List Int} {q : O → Prop} (e : Mk.intsOf? ds = some ns) (h : q (.dat (.int ns.sum))) : fSum (.list ds) q := by
  show (match Mk.intsOf? ds with
    | some ns => q (.dat (.int ns.sum))
    | none => False)
  rw [e]; exact h
theorem x_fAll {ds : List PyData} {bs : List Bool} {q : O → Prop} (e : boolsOf? ds = some bs) (h : q (.dat (.bool (bs.all id)))) : fAll (.list ds) q := by
  show (match boolsOf? ds with
    | some bs => q (.dat (.bool (bs.all id)))
    | none => False)
  rw [e]; exact h
theorem x_fIn {d e : PyData} {b : Bool} {q : O → Prop} (h1 : inB d e = some b) (h : q (.dat (.bool b))) : fIn d e q := by
  unfold fIn
  rw [h1]; exact h
theorem x_fLenS {z : Str} {q : O → Prop} (hz : z.length ≤ 100000) (h : q (.dat (.int (z.length : Int)))) : fLen (.str z) q := ⟨hz, h⟩
theorem ints_some {α : Type} (f : α → Int) : ∀ l : List α, Mk.intsOf? (l.map fun i => PyData.int (f i)) = some (l.map f)
  | [] => rfl
  | a :: l => by rw [List.map_cons, Mk.intsOf?, ints_some f l]; rfl
theorem bools_some {α : Type} (f : α → Bool) : ∀ l : List α, boolsOf? (l.map fun i => PyData.bool (f i)) = some (l.map f)
  | [] => rfl
  | a :: l => by rw [List.map_cons, boolsOf?, bools_some f l]; rfl
theorem filter_true {α : Type} : ∀ l : List α, l.filter (fun _ => true) = l
  | [] => rfl
  | a :: l => by rw [List.filter_cons_of_pos rfl, filter_true l]
/-! ### comprehensions, loops -/
section
variable {g : MG} {t : MT} {e : ME} {vs : List Nat} {k : SK} {b : MS} {c : MT}
theorem x_yes {s : S} {PB : Bool → S → Prop} {X : XM} (h : PB true s) : mYes s PB X := h
theorem x_lcL {s : S} {Q : List PyData → S → Prop} (keep : PyData → Bool) (val : PyData → PyData) : ∀ {ds acc : List PyData}, acc.length + ds.length ≤ 100000 →
    (∀ d ∈ ds, ∀ (A : PyData → S → Prop) (B : S → Prop), (keep d = true → A (val d) s) → (keep d = false → B s) → g d s fun s1 => t s1 (fun b s2 => if b = true then mD e s2 (fun y s3 => A y (wipeS vs s3)) (fun _ _ => False) else B (wipeS vs s2)) fun _ _ => False) →
    Q (acc ++ (ds.filter keep).map val) s → mLcL g t e vs ds acc s Q
  | [], acc, _, _, q => by simpa using q
  | d :: ds, acc, hl, h, q => by
    rw [List.length_cons] at hl
    refine h d List.mem_cons_self (fun y s3 => acc.length < 100000 ∧ mLcL g t e vs ds (acc ++ [y]) s3 Q) (fun s2 => mLcL g t e vs ds acc s2 Q) (fun hk => ⟨by omega, ?_⟩) fun hk => ?_
    · refine x_lcL keep val (by rw [List.length_append]; simp; omega) (fun d hd => h d (List.mem_cons_of_mem _ hd)) ?_
      rw [List.filter_cons_of_pos hk, List.map_cons] at q
      simpa using q
    · refine x_lcL keep val (by omega) (fun d hd => h d (List.mem_cons_of_mem _ hd)) ?_
      rw [List.filter_cons_of_neg (by rw [hk]; exact Bool.false_ne_true)] at q
      exact q
/-- .. over things told by a list -/
theorem x_lcM {α : Type} {s : S} {Q : List PyData → S → Prop} (f : α → PyData) (keep : α → Bool) (val : α → PyData) {l : List α} (hl : l.length ≤ 100000)
    (h : ∀ x ∈ l, ∀ (A : PyData → S → Prop) (B : S → Prop), (keep x = true → A (val x) s) → (keep x = false → B s) → g (f x) s fun s1 => t s1 (fun b s2 => if b = true then mD e s2 (fun y s3 => A y (wipeS vs s3)) (fun _ _ => False) else B (wipeS vs s2)) fun _ _ => False)
    (q : Q ((l.filter keep).map val) s) : mLcL g t e vs (l.map f) [] s Q := by
  have key : ∀ (l : List α) (acc : List PyData), (∀ x ∈ l, ∀ (A : PyData → S → Prop) (B : S → Prop), (keep x = true → A (val x) s) → (keep x = false → B s) → g (f x) s fun s1 => t s1 (fun b s2 => if b = true then mD e s2 (fun y s3 => A y (wipeS vs s3)) (fun _ _ => False) else B (wipeS vs s2)) fun _ _ => False) →
      acc.length + l.length ≤ 100000 → Q (acc ++ (l.filter keep).map val) s → mLcL g t e vs (l.map f) acc s Q := by
    intro l
    induction l with
    | nil => intro acc _ _ q; simpa using q
    | cons x l ih =>
      intro acc h hl q
      rw [List.length_cons] at hl
      refine h x List.mem_cons_self (fun y s3 => acc.length < 100000 ∧ mLcL g t e vs (l.map f) (acc ++ [y]) s3 Q) (fun s2 => mLcL g t e vs (l.map f) acc s2 Q) (fun hk => ⟨by omega, ?_⟩) fun hk => ?_
      · refine ih _ (fun y hy => h y (List.mem_cons_of_mem _ hy)) (by rw [List.length_append]; simp; omega) ?_
        rw [List.filter_cons_of_pos hk, List.map_cons] at q
        simpa using q
      · refine ih _ (fun y hy => h y (List.mem_cons_of_mem _ hy)) (by omega) ?_
        rw [List.filter_cons_of_neg (by rw [hk]; exact Bool.false_ne_true)] at q
        exact q
  exact key l [] h (by simpa using hl) (by simpa using q)
/-- .. that keeps all -/
theorem x_lcA {α : Type} {s : S} {Q : List PyData → S → Prop} (f : α → PyData) (val : α → PyData) {l : List α} (hl : l.length ≤ 100000)
    (h : ∀ x ∈ l, ∀ (A : PyData → S → Prop), A (val x) s → g (f x) s fun s1 => mD e s1 (fun y s3 => A y (wipeS vs s3)) fun _ _ => False)
    (q : Q (l.map val) s) : mLcL g mYes e vs (l.map f) [] s Q :=
  x_lcM f (fun _ => true) val hl (fun x hx A B hA _ => h x hx A (hA rfl)) (by rw [filter_true]; exact q)
theorem x_lcS {ev ev' : List (Option O)} {bo : List Nat} {n : Nat} {ds : List PyData} {Q : List PyData → S → Prop} (h1 : ∀ v ∈ vs, v ∉ bo) (h2 : wipeE ev vs = ev') (h : mLcL g t e vs ds [] ⟨ev', n, bo⟩ Q) : (∀ v ∈ vs, v ∉ S.bor ⟨ev, n, bo⟩) ∧ mLcL g t e vs ds [] (wipeS vs ⟨ev, n, bo⟩) Q := by
  subst h2
  exact ⟨h1, h⟩
/-- .. with what holds between the turns -/
theorem x_lcI {Q : List PyData → S → Prop} (I : List PyData → List PyData → S → Prop) (hs : ∀ (d : PyData) (ds acc : List PyData) (s : S) (A : PyData → S → Prop) (B : S → Prop), I (d :: ds) acc s → (∀ y s3, acc.length < 100000 → I ds (acc ++ [y]) s3 → A y s3) → (∀ s3, I ds acc s3 → B s3) →
      g d s fun s1 => t s1 (fun b s2 => if b = true then mD e s2 (fun y s3 => A y (wipeS vs s3)) (fun _ _ => False) else B (wipeS vs s2)) fun _ _ => False)
    (hq : ∀ acc s, I [] acc s → Q acc s) : ∀ {ds acc : List PyData} {s : S}, I ds acc s → mLcL g t e vs ds acc s Q
  | [], acc, s, h => hq acc s h
  | d :: ds, acc, s, h => hs d ds acc s (fun y s3 => acc.length < 100000 ∧ mLcL g t e vs ds (acc ++ [y]) s3 Q) (fun s2 => mLcL g t e vs ds acc s2 Q) h (fun y s3 hl hi => ⟨hl, x_lcI I hs hq hi⟩) fun s3 hi => x_lcI I hs hq hi
theorem x_forI (I : List PyData → S → Prop) (hs : ∀ (d : PyData) (ds : List PyData) (s : S) (N : S → Prop), I (d :: ds) s → (∀ s', I ds s' → N s') → g d s fun s1 => b s1 { k with nx := N, ct := N, bk := k.nx }) (hd : ∀ s, I [] s → k.nx s) : ∀ {ds : List PyData} {s : S}, I ds s → mForL g b ds s k
  | [], s, h => hd s h
  | d :: ds, s, h => hs d ds s _ h fun s' h' => x_forI I hs hd h'
/-- a loop: I and a measure -/
theorem x_whI (I : Nat → S → Prop) (hs : ∀ (m : Nat) (s : S) (N : S → Prop), I m s → (∀ j s', j < m → I j s' → N s') → c s (fun q s1 => if q = true then b s1 { k with nx := N, ct := N, bk := k.nx } else k.nx s1) k.er) {m : Nat} {s : S} (h : I m s) : mWhile c b s k := by
  have key : ∀ (f m : Nat) (s : S), m < f → I m s → mWhN c b f s k := by
    intro f
    induction f with
    | zero => intro m s hm; omega
    | succ f ih => exact fun m s hm h => hs m s (fun s2 => mWhN c b f s2 k) h fun j s' hj h' => ih j s' (by omega) h'
  exact ⟨m + 1, key (m + 1) m s (Nat.lt_succ_self m) h⟩
end
end Mk

/-! part My -/
/-! Mk, part 19: more steps: errors caught, dicts, sorted sets, tests of Bools. -/
namespace Mk
open PySem PySem.Spec PyProof.Rows L2 Evl Lk LamX
def isEK (K : PySem.W.Frag) (C : Addr) (r : Rs) (s : S) (P : Rs → S → Prop) : Prop := match r with
  | .val (.exc D) => ExcC K D ∧ ∃ b, PySem.W.kitOne K (.ref D) (.ref C) = some b ∧ P (.val (.dat (.bool b))) s
  | .val (.dat .none) => ∃ b, PySem.W.kitOne K (.type "NoneType") (.ref C) = some b ∧ P (.val (.dat (.bool b))) s
  | _ => False
def get2K (r : Rs) (k z : PyData) (s : S) (P : Rs → S → Prop) : Prop := match dctOf s r, keyOf k with
  | some kvs, some k => P (.val (.dat ((getK kvs k).getD z))) s
  | _, _ => False
def dputK (i : Nat) (y d : PyData) (s : S) (P : S → Prop) : Prop := match s.env[i]?, keyOf y with
  | some (some (.dct kvs)), some key => kvs.length < 100000 ∧ P (putO s i (.dct (putD kvs key d)))
  | _, _ => False
def lputK (i : Nat) (y d : PyData) (s : S) (P : S → Prop) : Prop := match s.env[i]?, y with
  | some (some (.lst ds)), .int j => match ixN ds.length j with
    | some n => P (putO s i (.lst (ds.set n d)))
    | none => False
  | _, _ => False
section
variable {s : S} {n i : Nat} {d e y z : PyData} {ds es : List PyData} {r : Rs} {X : XM} {P : Rs → S → Prop} {PS : S → Prop} {K : PySem.W.Frag} {C D CS : Addr} {b : Bool} {m : ME} {mk mv mx : MD} {k : SK} {q : O → Prop} {A : Prop}
theorem x_fIsB {a b : Bool} (h : q (.dat (.bool (decide (a = b))))) : fIsB (.bool a) (.bool b) q := h
theorem x_fNotB {a b : Bool} (h : q (.dat (.bool (!decide (a = b))))) : fNotB (.bool a) (.bool b) q := h
theorem eqd_bool {a b : Bool} : eqd (.bool a) (.bool b) = decide (a = b) := by cases a <;> cases b <;> rfl
theorem x_fEqB {a b : Bool} (h : q (.dat (.bool (decide (a = b))))) : fEq (.bool a) (.bool b) q := ⟨.inl ⟨rfl, rfl⟩, by rw [eqd_bool]; exact h⟩
theorem x_isE (h : m s (fun r s1 => isEK K C r s1 P) X) : mIsE K C m s P X := h
theorem x_isEX (e : ExcC K D) (k : PySem.W.kitOne K (.ref D) (.ref C) = some b) (h : P (.val (.dat (.bool b))) s) : isEK K C (.val (.exc D)) s P := ⟨e, b, k, h⟩
theorem x_isEN (k : PySem.W.kitOne K (.type "NoneType") (.ref C) = some b) (h : P (.val (.dat (.bool b))) s) : isEK K C (.val (.dat .none)) s P := ⟨b, k, h⟩
theorem x_caught (h : m s (fun _ s1 => P (.val (.dat .none)) s1) (fun D s1 => PySem.W.exmOne K (.ref D) (.ref CS) = some true ∧ P (.val (.exc D)) s1)) : mCaught K CS m s P X := h
theorem x_get2 (h : m s (fun r s1 => (∃ kvs, dctOf s1 r = some kvs) ∧ mk s1 (fun k s2 => mx s2 (fun z s3 => get2K r k z s3 P) X) X) X) : mGet2 m mk mx s P X := h
theorem x_isD {kvs : List (Key × PyData)} (e : dctOf s r = some kvs) (h : A) : (∃ kvs, dctOf s r = some kvs) ∧ A := ⟨⟨_, e⟩, h⟩
theorem x_get2K {kvs : List (Key × PyData)} {k' : Key} (e1 : dctOf s r = some kvs) (e2 : keyOf y = some k') (h : P (.val (.dat ((getK kvs k').getD z))) s) : get2K r y z s P := by
  unfold get2K
  rw [e1, e2]; exact h
theorem x_dput (h : mv s (fun d s1 => isDct s1 i ∧ mk s1 (fun y s2 => dputK i y d s2 k.nx) k.er) k.er) : mDPut i mk mv s k := h
theorem x_isDct {kvs : List (Key × PyData)} (e : s.env[i]? = some (some (.dct kvs))) (h : A) : isDct s i ∧ A := ⟨by unfold isDct; rw [e]; trivial, h⟩
theorem x_dputK {kvs : List (Key × PyData)} {k' : Key} {ev : List (Option O)} {bo : List Nat} (e1 : ev[i]? = some (some (.dct kvs))) (e2 : keyOf y = some k') (hl : kvs.length < 100000) (h : PS ⟨ev.set i (some (.dct (putD kvs k' d))), n, bo⟩) : dputK i y d ⟨ev, n, bo⟩ PS := by
  have e1' : (S.mk ev n bo).env[i]? = some (some (.dct kvs)) := e1
  unfold dputK
  rw [e1', e2]; exact ⟨hl, h⟩
theorem x_lput (h : mv s (fun d s1 => isLst s1 i ∧ mk s1 (fun y s2 => lputK i y d s2 k.nx) k.er) k.er) : mLPut i mk mv s k := h
theorem x_isLs (e : s.env[i]? = some (some (.lst ds))) (h : A) : isLst s i ∧ A := ⟨by unfold isLst; rw [e]; trivial, h⟩
theorem x_lputK {j : Int} {c : Nat} {ev : List (Option O)} {bo : List Nat} (e1 : ev[i]? = some (some (.lst ds))) (e2 : ixN ds.length j = some c) (h : PS ⟨ev.set i (some (.lst (ds.set c d))), n, bo⟩) : lputK i (.int j) d ⟨ev, n, bo⟩ PS := by
  have e1' : (S.mk ev n bo).env[i]? = some (some (.lst ds)) := e1
  unfold lputK
  rw [e1']
  show (match ixN ds.length j with
    | some n1 => PS (putO ⟨ev, n, bo⟩ i (.lst (ds.set n1 d)))
    | none => False)
  rw [e2]; exact h
theorem x_append (hl : ds.length < 100000) {Q : List PyData → PyData → Prop} (h : Q (ds ++ [d]) .none) : fAppend ds [d] Q := ⟨hl, h⟩
theorem x_fSortI {ns : List Int} (hl : ns.length < 64) (h : ∀ out : List Int, out.Pairwise (· < ·) → (∀ k, k ∈ out ↔ k ∈ ns) → q (.lst (out.map PyData.int))) : fSortSetI (.list (ns.map PyData.int)) q := ⟨ns, rfl, hl, h⟩
theorem x_fSortT {ks : List (List Int)} {w : Nat} {B : Int} (hl : ks.length < 64) (hd : 1 ≤ w) (hk : ∀ k ∈ ks, k.length = w ∧ TS.Bd B k) (h : ∀ out : List (List Int), (∀ k, k ∈ out ↔ k ∈ ks) → out.Nodup → out.Pairwise (fun x y => TS.code B x ≤ TS.code B y) → q (.lst (out.map tupI))) : fSortSetT (.list (ks.map tupI)) q := ⟨ks, w, B, rfl, hl, hd, hk, h⟩
theorem x_fMulT {b : Int} (h0 : ds ≠ []) (h1 : 2 ≤ b) (h2 : b ≤ 1000) (h3 : ds.length ≤ 1000) (h : q (.dat (.tuple (List.replicate b.toNat ds).flatten))) : fMul (.tuple ds) (.int b) q := ⟨h0, h1, h2, h3, h⟩
/-- what holds between two statements -/
theorem x_mid {a b : MS} (I : S → Prop) (h1 : ∀ N : S → Prop, (∀ s', I s' → N s') → a s { k with nx := N }) (h2 : ∀ s', I s' → b s' k) : mSeq a b s k := h1 _ h2
theorem x_begun {cs : List Int} {Q : O → List O → Nat → Prop} {Y : Addr → List O → Nat → Prop} (hl : cs.length ≤ 40000) (h : Q .st [.dat (.list (cs.map PyData.int))] n) : dBegun [.dat (.list (cs.map PyData.int))] n Q Y := ⟨cs, rfl, hl, h⟩
theorem x_swap {G : Den} {a b : O} {Q : O → List O → Nat → Prop} {Y : Addr → List O → Nat → Prop} (h : G [b, a] n (fun o os n' => match os with
    | [c, d] => Q o [d, c] n'
    | _ => False) (fun C os n' => match os with
    | [c, d] => Y C [d, c] n'
    | _ => False)) : swap2 G [a, b] n Q Y := h
end
end Mk

/-! part Mv -/
/-! Mk, part 25 (printed by mv.py, with a hand part): a step found by the head of what is to be shown. -/
namespace Mk
open PySem PySem.Spec PyProof.Rows L2 Evl Lk LamX
class Stp (A : Prop) (B : outParam Prop) : Prop where
  imp : B → A
theorem x_stp {A B : Prop} [h : Stp A B] (b : B) : A := h.imp b
/-! ### what stands in the slots -/
class LookL (ev : List (Option O)) (i : Nat) (o : outParam O) : Prop where
  e : ev[i]? = some (some o)
instance lookL0 {l : List (Option O)} {o : O} : LookL (some o :: l) 0 o := ⟨rfl⟩
instance lookLs {l : List (Option O)} {x : Option O} {i : Nat} {o : O} [h : LookL l i o] : LookL (x :: l) (i + 1) o := ⟨by rw [List.getElem?_cons_succ]; exact h.e⟩
class SetL (ev : List (Option O)) (i : Nat) (o : Option O) (ev' : outParam (List (Option O))) : Prop where
  e : ev.set i o = ev'
  l : i < ev.length
instance setL0 {l : List (Option O)} {x o : Option O} : SetL (x :: l) 0 o (o :: l) := ⟨rfl, by simp⟩
instance setLs {l l' : List (Option O)} {x o : Option O} {i : Nat} [h : SetL l i o l'] : SetL (x :: l) (i + 1) o (x :: l') := ⟨by rw [List.set_cons_succ, h.e], by have := h.l; simp; omega⟩
class Neq (i j : Nat) : Prop where
  e : i ≠ j
instance neq1 {j : Nat} : Neq 0 (j + 1) := ⟨by omega⟩
instance neq2 {i : Nat} : Neq (i + 1) 0 := ⟨by omega⟩
instance neq3 {i j : Nat} [h : Neq i j] : Neq (i + 1) (j + 1) := ⟨by have := h.e; omega⟩
class NotIn (i : Nat) (bo : List Nat) : Prop where
  e : i ∉ bo
instance notIn0 {i : Nat} : NotIn i [] := ⟨List.not_mem_nil⟩
instance notInS {i j : Nat} {bo : List Nat} [a : Neq i j] [b : NotIn i bo] : NotIn i (j :: bo) := ⟨by simp only [List.mem_cons, not_or]; exact ⟨a.e, b.e⟩⟩
class RdC (s : S) (r : Rs) (d : outParam PyData) : Prop where
  e : rd s r = some d
section
variable {ev : List (Option O)} {bo : List Nat} {s : S} {n i j : Nat} {d : PyData} {ds es : List PyData} {r r2 : Rs} {rs : List Rs} {o : O} {os : List O}
instance rdC1 : RdC s (.val (.dat d)) d := ⟨rfl⟩
instance rdC2 : RdC s (.val (.lst ds)) (.list ds) := ⟨rfl⟩
instance rdC3 : RdC s (.val (.dct [])) (.dict []) := ⟨rfl⟩
instance rdC4 [h : LookL ev i (.dat d)] : RdC ⟨ev, n, bo⟩ (.slot i) d := ⟨by
  have e : (S.mk ev n bo).env[i]? = some (some (.dat d)) := h.e
  rw [u_rd_slot, e]; rfl⟩
instance rdC5 [h : LookL ev i (.lst ds)] : RdC ⟨ev, n, bo⟩ (.slot i) (.list ds) := ⟨by
  have e : (S.mk ev n bo).env[i]? = some (some (.lst ds)) := h.e
  rw [u_rd_slot, e]; rfl⟩
class RdsC (s : S) (rs : List Rs) (ds : outParam (List PyData)) : Prop where
  e : rds s rs = some ds
instance rdsC0 : RdsC s [] [] := ⟨rfl⟩
instance rdsC1 [a : RdC s r d] [b : RdsC s rs ds] : RdsC s (r :: rs) (d :: ds) := ⟨by rw [rds, a.e, b.e]⟩
class DatsC (rs : List Rs) (ds : outParam (List PyData)) : Prop where
  e : dats rs = some ds
instance datsC0 : DatsC [] [] := ⟨rfl⟩
instance datsC1 [b : DatsC rs ds] : DatsC (.val (.dat d) :: rs) (d :: ds) := ⟨by rw [dats, b.e]⟩
class GetsC (s : S) (rs : List Rs) (os : outParam (List O)) : Prop where
  e : gets s rs = some os
instance getsC0 : GetsC s [] [] := ⟨rfl⟩
instance getsC1 [b : GetsC s rs os] : GetsC s (.val o :: rs) (o :: os) := ⟨by rw [gets, b.e]⟩
instance getsC2 [a : LookL ev i o] [b : GetsC ⟨ev, n, bo⟩ rs os] : GetsC ⟨ev, n, bo⟩ (.slot i :: rs) (o :: os) := ⟨by
  have e : (S.mk ev n bo).env[i]? = some (some o) := a.e
  rw [gets, e, b.e]⟩
class NoSl (rs : List Rs) : Prop where
  e : slotsOf rs = []
instance noSl0 : NoSl [] := ⟨rfl⟩
instance noSl1 [b : NoSl rs] : NoSl (.val o :: rs) := ⟨by rw [slotsOf, b.e]⟩
class NdSl (rs : List Rs) : Prop where
  e : (slotsOf rs).Nodup
instance ndSl1 [b : NoSl rs] : NdSl (.slot i :: rs) := ⟨by rw [slotsOf, b.e]; simp⟩
instance ndSl2 [a : Neq i j] [b : NoSl rs] : NdSl (.slot i :: .slot j :: rs) := ⟨by rw [slotsOf, slotsOf, b.e]; simp [a.e]⟩
instance ndSl3 [b : NdSl rs] : NdSl (.val o :: rs) := ⟨by rw [slotsOf]; exact b.e⟩
end
section
variable {s s1 : S} {os os' : List O} {o : O} {n i j N p : Nat} {d e : PyData} {ds es : List PyData} {rs : List Rs} {r r2 : Rs} {Q : O → List O → Nat → Prop} {Y : Addr → List O → Nat → Prop} {C : Addr} {q : O → Prop} {m m' : ME} {X : XM} {ma mr : MA} {a b : MT} {P : Rs → S → Prop} {PB : Bool → S → Prop} {PA : List Rs → S → Prop} {PD : PyData → S → Prop} {K : SK} {st st' : MS} {c : Bool} {A B : Prop} {md me : MD} {PS : S → Prop} {z : Option O} {f f' : PyData → PyData → FO}
variable {u v : Int} {ev ev' : List (Option O)} {bo : List Nat} {G : Den} {C D CS : Addr} {KF : PySem.W.Frag} {mk mv mx : MD} {y : PyData} {k : O → S → Prop} {kd : PyData → S → Prop} {kl : List PyData → Prop} {kp : PyData → Prop} {kvs : List (Key × PyData)} {g : MGs}
instance st_seq : Stp (mSeq st st' s K) (st s { K with nx := fun s1 => st' s1 K }) := ⟨x_seq⟩
instance st_if : Stp (mIf a st st' s K) (a s (fun q s1 => if q = true then st s1 K else st' s1 K) K.er) := ⟨x_if⟩
instance st_ret : Stp (mRet m s K) (m s (fun r s1 => movK r s1 K.rt) K.er) := ⟨x_ret⟩
instance st_asg : Stp (mAsg i m s K) (m s (fun r s1 => movK r s1 fun o s2 => putK i o s2 K.nx) K.er) := ⟨x_asg⟩
instance st_asgG {g : MG} : Stp (mAsgG g md s K) (md s (fun d s1 => g d s1 K.nx) K.er) := ⟨x_asgG⟩
instance st_par {is : List Nat} : Stp (mPar is ma s K) (ma s (fun rs s1 => puts is rs s1 K.nx) K.er) := ⟨x_par⟩
instance st_next : Stp (mNext s K) (K.nx s) := ⟨x_next⟩
instance st_retN : Stp (mRetN s K) (K.rt (.dat .none) s) := ⟨x_retN⟩
instance st_drop : Stp (mDrop m s K) (m s (fun _ s1 => K.nx s1) K.er) := ⟨x_drop⟩
instance st_brk : Stp (mBreak s K) (K.bk s) := ⟨x_brk⟩
instance st_cnt : Stp (mCont s K) (K.ct s) := ⟨x_cnt⟩
instance st_rse : Stp (mRaise C s K) (K.er C s) := ⟨x_rse⟩
instance st_for {mi : MI} {g : MG} : Stp (mFor mi g st s K) (mi s (fun ds s1 => mForL g st ds s1 K) K.er) := ⟨x_for⟩
instance st_op : Stp (mOp f m m' s P X) (m s (fun r s1 => m' s1 (fun r2 s2 => opK f r r2 s2 P) X) X) := ⟨x_op⟩
instance st_un {g : PyData → FO} : Stp (mUn g m s P X) (m s (fun r s1 => rdK r s1 fun d => g d fun o => P (.val o) s1) X) := ⟨x_un⟩
instance st_cb {g : List PyData → FO} : Stp (mCB g ma s P X) (ma s (fun rs s1 => rdsK rs s1 fun ds => g ds fun o => P (.val o) s1) X) := ⟨x_cb⟩
instance st_c : Stp (mC d s P X) (P (.val (.dat d)) s) := ⟨x_c⟩
instance st_d : Stp (mD m s PD X) (m s (fun r s1 => frzK r s1 PD) X) := ⟨x_d⟩
instance st_b : Stp (mB m s PB X) (m s (fun r s1 => boolK r s1 PB) X) := ⟨x_b⟩
instance st_fz : Stp (mFz m s P X) (m s (fun r s1 => frzK r s1 fun d s2 => P (.val (.dat d)) s2) X) := ⟨x_fz⟩
instance st_mv : Stp (mMv m s P X) (m s (fun r s1 => movK r s1 fun o s2 => P (.val o) s2) X) := ⟨x_mv⟩
instance st_not : Stp (mNot a s PB X) (a s (fun q s1 => PB (!q) s1) X) := ⟨x_not⟩
instance st_notV : Stp (mNotV a s P X) (a s (fun q s1 => P (.val (.dat (.bool (!q)))) s1) X) := ⟨x_notV⟩
instance st_and : Stp (mAnd a b s PB X) (a s (fun q s1 => if q = true then b s1 PB X else PB false s1) X) := ⟨x_and⟩
instance st_or : Stp (mOr a b s PB X) (a s (fun q s1 => if q = true then PB true s1 else b s1 PB X) X) := ⟨x_or⟩
instance st_andV : Stp (mAndV a m s P X) (a s (fun q s1 => if q = true then m s1 P X else P (.val (.dat (.bool false))) s1) X) := ⟨x_andV⟩
instance st_orV : Stp (mOrV a m s P X) (a s (fun q s1 => if q = true then P (.val (.dat (.bool true))) s1 else m s1 P X) X) := ⟨x_orV⟩
instance st_ifE : Stp (mIfE a m m' s P X) (a s (fun q s1 => if q = true then m s1 P X else m' s1 P X) X) := ⟨x_ifE⟩
instance st_isi {g : PyData → Bool} : Stp (mIsi g m s P X) (m s (fun r s1 => rdK r s1 fun d => P (.val (.dat (.bool (g d)))) s1) X) := ⟨x_isi⟩
instance st_chain : Stp (mChain f f' md me (mD m) s P X) (md s (fun d s1 => me s1 (fun e s2 => f d e fun o => bOf o fun k => if k = true then (mD m) s2 (fun z s3 => f' e z fun o2 => bOf o2 fun k2 => P (.val (.dat (.bool k2))) s3) X else P (.val (.dat (.bool false))) s2) X) X) := ⟨x_chain⟩
instance st_bOf {k : Bool → Prop} : Stp (bOf (.dat (.bool c)) k) (k c) := ⟨x_bOf⟩
instance st_nil : Stp (mNil s PA X) (PA [] s) := ⟨x_nil⟩
instance st_cons : Stp (mCons m mr s PA X) (m s (fun x s1 => mr s1 (fun xs s2 => PA (x :: xs) s2) X) X) := ⟨x_cons⟩
instance st_star : Stp (mStar m mr s PA X) (mD m s (fun d s1 => seqK d fun ds => mr s1 (fun rs s2 => PA (ds.map (fun d => .val (.dat d)) ++ rs) s2) X) X) := ⟨x_star⟩
instance st_dis {g : List PyData → O} : Stp (mDis g ma s P X) (ma s (fun rs s1 => datsK rs fun ds => ds.length ≤ 100000 ∧ P (.val (g ds)) s1) X) := ⟨x_dis⟩
instance st_call {G : Den} : Stp (mCall G ma s P X) (ma s (fun rs s1 => callK G rs s1 P X) X) := ⟨x_call⟩
instance st_call0 {G : Den} : Stp (mCall0 G ma s P X) (ma s (fun rs s1 => callK G rs s1 P fun _ _ => False) fun _ _ => False) := ⟨x_call0⟩
instance st_it {PL : List PyData → S → Prop} : Stp (mIt m s PL X) (mD m s (fun d s1 => itK d fun ds => PL ds s1) X) := ⟨x_it⟩
instance st_dnew : Stp (mDNew s P X) (P (.val (.dct [])) s) := ⟨x_dnew⟩
instance st_oN {PO : Option Int → S → Prop} : Stp (mONone s PO X) (PO none s) := ⟨x_oN⟩
instance st_oS {PO : Option Int → S → Prop} : Stp (mOSome md s PO X) (md s (fun d s1 => intK d fun i => PO (some i) s1) X) := ⟨x_oS⟩
instance st_sl {lo hi : MO} : Stp (mSl m lo hi s P X) (m s (fun r s1 => lo s1 (fun l s2 => hi s2 (fun u s3 => rdK r s3 fun d => fSl d l u fun o => P (.val o) s3) X) X) X) := ⟨x_sl⟩
instance st_lc {mi : MI} {g : MG} {vs : List Nat} : Stp (mLc mi g a m vs s P X) (mi s (fun ds s1 => (∀ v ∈ vs, v ∉ s1.bor) ∧ mLcL g a m vs ds [] (wipeS vs s1) fun acc s2 => P (.val (.lst acc)) s2) X) := ⟨x_lc⟩
instance st_gN : Stp (mgN i d s PS) (putK i (.dat d) s PS) := ⟨x_gN⟩
instance st_gC {g : MG} {gs : MGs} : Stp (mgCons g gs (d :: ds) s PS) (g d s fun s1 => gs ds s1 PS) := ⟨x_gC⟩
instance st_gE : Stp (mgNil [] s PS) (PS s) := ⟨x_gE⟩
instance st_putsE : Stp (puts [] [] s PS) (PS s) := ⟨x_putsE⟩
instance st_putsC {is : List Nat} : Stp (puts (i :: is) (.val o :: rs) s PS) (putK i o s fun s1 => puts is rs s1 PS) := ⟨x_putsC⟩
instance st_mov_dat {k : O → S → Prop} : Stp (movK (.val (.dat d)) s k) (k (.dat d) s) := ⟨x_mov_dat⟩
instance st_mov_st {k : O → S → Prop} : Stp (movK (.val .st) s k) (k .st s) := ⟨x_mov_st⟩
instance st_mov_lst {k : O → S → Prop} : Stp (movK (.val (.lst ds)) s k) (k (.lst ds) s) := ⟨x_mov_lst⟩
instance st_mov_dct {k : O → S → Prop} {kvs : List (Key × PyData)} : Stp (movK (.val (.dct kvs)) s k) (k (.dct kvs) s) := ⟨x_mov_dct⟩
instance st_mov_exc {k : O → S → Prop} : Stp (movK (.val (.exc C)) s k) (k (.exc C) s) := ⟨x_mov_exc⟩
instance st_frz_dat {k : PyData → S → Prop} : Stp (frzK (.val (.dat d)) s k) (k d s) := ⟨x_frz_dat⟩
instance st_frz_lst {k : PyData → S → Prop} : Stp (frzK (.val (.lst ds)) s k) (k (.list ds) s) := ⟨x_frz_lst⟩
instance st_frz_dct {k : PyData → S → Prop} : Stp (frzK (.val (.dct [])) s k) (k (.dict []) s) := ⟨x_frz_dct⟩
instance st_bool {k : Bool → S → Prop} : Stp (boolK (.val (.dat (.bool c))) s k) (k c s) := ⟨x_bool⟩
instance st_intK {k : Int → Prop} {i : Int} : Stp (intK (.int i) k) (k i) := ⟨x_intK⟩
instance st_fl1 {g : PyData → FO} : Stp (fl1 g [d] q) (g d q) := ⟨x_fl1⟩
instance st_fl2 : Stp (fl2 f [d, e] q) (f d e q) := ⟨x_fl2⟩
instance st_fI0 {g : Int → Int → Int} : Stp (fI0 g (.int u) (.int v) q) (q (.dat (.int (g u v)))) := ⟨x_fI0⟩
instance st_fSub : Stp (fSub (.int u) (.int v) q) (q (.dat (.int (u - v)))) := ⟨x_fSub⟩
instance st_fAdd : Stp (fAdd (.int u) (.int v) q) (q (.dat (.int (u + v)))) := ⟨x_fAdd⟩
instance st_fEqI : Stp (fEq (.int u) (.int v) q) (q (.dat (.bool (decide (u = v))))) := ⟨x_fEqI⟩
instance st_fNeI : Stp (fNe (.int u) (.int v) q) (q (.dat (.bool (!decide (u = v))))) := ⟨x_fNeI⟩
instance st_fLt : Stp (fLt (.int u) (.int v) q) (q (.dat (.bool (decide (u < v))))) := ⟨x_fLt⟩
instance st_fLe : Stp (fLe (.int u) (.int v) q) (q (.dat (.bool (decide (u ≤ v))))) := ⟨x_fLe⟩
instance st_fGt : Stp (fGt (.int u) (.int v) q) (q (.dat (.bool (decide (v < u))))) := ⟨x_fGt⟩
instance st_fGe : Stp (fGe (.int u) (.int v) q) (q (.dat (.bool (decide (v ≤ u))))) := ⟨x_fGe⟩
instance st_fIsN : Stp (fIsN d .none q) (q (.dat (.bool (isNone d)))) := ⟨x_fIsN⟩
instance st_fNotN : Stp (fNotN d .none q) (q (.dat (.bool (!isNone d)))) := ⟨x_fNotN⟩
instance st_fLenL : Stp (fLen (.list ds) q) (q (.dat (.int (ds.length : Int)))) := ⟨x_fLenL⟩
instance st_fLenT : Stp (fLen (.tuple ds) q) (q (.dat (.int (ds.length : Int)))) := ⟨x_fLenT⟩
instance st_fIntI : Stp (fIntI (.int u) q) (q (.dat (.int u))) := ⟨x_fIntI⟩
instance st_fIntB : Stp (fIntI (.bool c) q) (q (.dat (.int (if c then 1 else 0)))) := ⟨x_fIntB⟩
instance st_fNeg : Stp (fNeg (.int u) q) (q (.dat (.int (-u)))) := ⟨x_fNeg⟩
instance st_fEqN : Stp (fEq (.tuple ds) (.tuple []) q) (q (.dat (.bool (decide (ds.length = 0))))) := ⟨x_fEqN⟩
instance st_fEqNc : Stp (fEq (.tuple (d :: ds)) (.tuple []) q) (q (.dat (.bool false))) := ⟨x_fEqNc⟩
instance st_fEqN0 : Stp (fEq (.tuple []) (.tuple []) q) (q (.dat (.bool true))) := ⟨x_fEqN0⟩
instance st_fEqB {a b : Bool} : Stp (fEq (.bool a) (.bool b) q) (q (.dat (.bool (decide (a = b))))) := ⟨x_fEqB⟩
instance st_fIsB {a b : Bool} : Stp (fIsB (.bool a) (.bool b) q) (q (.dat (.bool (decide (a = b))))) := ⟨x_fIsB⟩
instance st_fNotB {a b : Bool} : Stp (fNotB (.bool a) (.bool b) q) (q (.dat (.bool (!decide (a = b))))) := ⟨x_fNotB⟩
instance st_isE : Stp (mIsE KF C m s P X) (m s (fun r s1 => isEK KF C r s1 P) X) := ⟨x_isE⟩
instance st_isNone {neg : Bool} {m : ME} {s : S} {P : Rs → S → Prop} {Y : XM} : Stp (mIsNone neg m s P Y) (m s (fun r s1 => noneK neg r s1 P) Y) := ⟨x_isNone⟩
instance st_noneX {neg : Bool} {C : Addr} {s : S} {P : Rs → S → Prop} : Stp (noneK neg (.val (.exc C)) s P) (P (.val (.dat (.bool neg))) s) := ⟨x_noneX⟩
instance st_noneN {neg : Bool} {s : S} {P : Rs → S → Prop} : Stp (noneK neg (.val (.dat .none)) s P) (P (.val (.dat (.bool (!neg)))) s) := ⟨x_noneN⟩
instance st_caught : Stp (mCaught KF CS m s P X) (m s (fun _ s1 => P (.val (.dat .none)) s1) (fun D s1 => PySem.W.exmOne KF (.ref D) (.ref CS) = some true ∧ P (.val (.exc D)) s1)) := ⟨x_caught⟩
instance st_get2 : Stp (mGet2 m mk mx s P X) (m s (fun r s1 => (∃ kvs, dctOf s1 r = some kvs) ∧ mk s1 (fun K s2 => mx s2 (fun z s3 => get2K r K z s3 P) X) X) X) := ⟨x_get2⟩
instance st_dput : Stp (mDPut i mk mv s K) (mv s (fun d s1 => isDct s1 i ∧ mk s1 (fun y s2 => dputK i y d s2 K.nx) K.er) K.er) := ⟨x_dput⟩
instance st_lput : Stp (mLPut i mk mv s K) (mv s (fun d s1 => isLst s1 i ∧ mk s1 (fun y s2 => lputK i y d s2 K.nx) K.er) K.er) := ⟨x_lput⟩
instance st_swap {G : Den} {a b : O} {Q : O → List O → Nat → Prop} {Y : Addr → List O → Nat → Prop} : Stp (swap2 G [a, b] n Q Y) (G [b, a] n (fun o os n' => match os with | [c, d] => Q o [d, c] n' | _ => False) (fun C os n' => match os with | [c, d] => Y C [d, c] n' | _ => False)) := ⟨x_swap⟩
instance st_fInC {c : Nat} {z : Str} : Stp (fIn (.str ⟨#[c]⟩) (.str z) q) (q (.dat (.bool (decide (c ∈ z.cps.toList))))) := ⟨x_fInC⟩
instance st_fNotInC {c : Nat} {z : Str} : Stp (fNotIn (.str ⟨#[c]⟩) (.str z) q) (q (.dat (.bool (!decide (c ∈ z.cps.toList))))) := ⟨x_fNotInC⟩
instance st_yes {s : S} {PB : Bool → S → Prop} {X : XM} : Stp (mYes s PB X) (PB true s) := ⟨x_yes⟩
instance st_rng1 {mr : MA} {s : S} {PL : List PyData → S → Prop} {X : XM} : Stp (mRng1 mr s PL X) (mr s (fun rs s1 => rngK1 rs fun ds => PL ds s1) X) := ⟨x_rng1⟩
instance st_rng2 {mr : MA} {s : S} {PL : List PyData → S → Prop} {X : XM} : Stp (mRng2 mr s PL X) (mr s (fun rs s1 => rngK2 rs fun ds => PL ds s1) X) := ⟨x_rng2⟩
instance st_fTupL : Stp (fTuple (.list ds) q) (q (.dat (.tuple ds))) := ⟨x_fTupL⟩
instance st_fTupT : Stp (fTuple (.tuple ds) q) (q (.dat (.tuple ds))) := ⟨x_fTupT⟩
instance st_fRev : Stp (fRev (.tuple ds) q) (q (.dat (.tuple ds.reverse))) := ⟨x_fRev⟩
instance st_fMin2 : Stp (fMin2 (.int u) (.int v) q) (q (.dat (.int (if v < u then v else u)))) := ⟨x_fMin2⟩
instance st_fSlT {l u : Option Int} : Stp (fSl (.tuple ds) l u q) (q (.dat (.tuple (cutD ds l u)))) := ⟨x_fSlT⟩
instance st_fSlL {l u : Option Int} : Stp (fSl (.list ds) l u q) (q (.lst (cutD ds l u))) := ⟨x_fSlL⟩
instance st_iteT : Stp (if true = true then A else B) (A) := ⟨x_iteT⟩
instance st_iteF : Stp (if false = true then A else B) (B) := ⟨x_iteF⟩
instance st_v1 [h : LookL ev i (.dat d)] : Stp (mVar i ⟨ev, n, bo⟩ P X) (P (.val (.dat d)) ⟨ev, n, bo⟩) := ⟨fun z => x_v_dat h.e z⟩
instance st_v2 [h : LookL ev i (.lst ds)] : Stp (mVar i ⟨ev, n, bo⟩ P X) (P (.slot i) ⟨ev, n, bo⟩) := ⟨fun z => x_v_lst h.e z⟩
instance st_v3 [h : LookL ev i .st] : Stp (mVar i ⟨ev, n, bo⟩ P X) (P (.slot i) ⟨ev, n, bo⟩) := ⟨fun z => x_v_st h.e z⟩
instance st_v4 [h : LookL ev i (.dct kvs)] : Stp (mVar i ⟨ev, n, bo⟩ P X) (P (.slot i) ⟨ev, n, bo⟩) := ⟨fun z => x_v_dct h.e z⟩
instance st_v5 [h : LookL ev i (.exc C)] : Stp (mVar i ⟨ev, n, bo⟩ P X) (P (.val (.exc C)) ⟨ev, n, bo⟩) := ⟨fun z => x_v_exc h.e z⟩
instance st_opK [a : RdC s r d] [b : RdC s r2 e] : Stp (opK f r r2 s P) (f d e fun o => P (.val o) s) := ⟨fun z => x_opK a.e b.e z⟩
instance st_rdK [a : RdC s r d] : Stp (rdK r s kp) (kp d) := ⟨fun z => x_rdK a.e z⟩
instance st_rdsK [a : RdsC s rs ds] : Stp (rdsK rs s kl) (kl ds) := ⟨fun z => x_rdsK a.e z⟩
instance st_datsK [a : DatsC rs ds] : Stp (datsK rs kl) (kl ds) := ⟨fun z => x_datsK a.e z⟩
instance st_it1 : Stp (itK (.list ds) kl) (kl ds) := ⟨fun z => x_itK rfl z⟩
instance st_it2 : Stp (itK (.tuple ds) kl) (kl ds) := ⟨fun z => x_itK rfl z⟩
instance st_it3 {w : Str} : Stp (itK (.str w) kl) (kl (charsOf w)) := ⟨fun z => x_itK rfl z⟩
instance st_put [a : NotIn i bo] [b : SetL ev i (some o) ev'] : Stp (putK i o ⟨ev, n, bo⟩ PS) (PS ⟨ev', n, bo⟩) := ⟨fun z => x_put a.e b.l b.e z⟩
instance st_movS [a : LookL ev i (.lst ds)] [b : SetL ev i (some (.dat (.list ds))) ev'] : Stp (movK (.slot i) ⟨ev, n, bo⟩ k) (k (.dat (.list ds)) ⟨ev', n, bo⟩) := ⟨fun z => x_mov_slot a.e b.e z⟩
instance st_movD [a : LookL ev i (.dct kvs)] [b : SetL ev i none ev'] : Stp (movK (.slot i) ⟨ev, n, bo⟩ k) (k (.dct kvs) ⟨ev', n, bo⟩) := ⟨fun z => x_mov_slotD a.e b.e z⟩
instance st_frzS [a : LookL ev i (.lst ds)] [b : SetL ev i (some (.dat (.list ds))) ev'] : Stp (frzK (.slot i) ⟨ev, n, bo⟩ kd) (kd (.list ds) ⟨ev', n, bo⟩) := ⟨fun z => x_frz_slot a.e b.e z⟩
instance st_callK [a : GetsC ⟨ev, n, bo⟩ rs os] [b : NdSl rs] : Stp (callK G rs ⟨ev, n, bo⟩ P X) (G os n (fun o os' n' => P (.val o) (backs rs os' ⟨ev, n', bo⟩)) (fun C os' n' => X C (backs rs os' ⟨ev, n', bo⟩))) := ⟨fun z => x_callK a.e b.e z⟩
instance st_callV [a : GetsC ⟨ev, n, bo⟩ rs os] [b : NoSl rs] : Stp (callK G rs ⟨ev, n, bo⟩ P X) (G os n (fun o os' n' => P (.val o) ⟨ev, n', bo⟩) (fun C os' n' => X C ⟨ev, n', bo⟩)) := ⟨fun z => x_callV a.e b.e z⟩
instance st_gT1 {a : PyData} : Stp (mgT 1 g (.tuple [a]) s PS) (g [a] s PS) := ⟨fun z => x_gT rfl z⟩
instance st_gT2 {a b : PyData} : Stp (mgT 2 g (.tuple [a, b]) s PS) (g [a, b] s PS) := ⟨fun z => x_gT rfl z⟩
instance st_gT3 {a b c : PyData} : Stp (mgT 3 g (.tuple [a, b, c]) s PS) (g [a, b, c] s PS) := ⟨fun z => x_gT rfl z⟩
instance st_gT4 {a b c d : PyData} : Stp (mgT 4 g (.tuple [a, b, c, d]) s PS) (g [a, b, c, d] s PS) := ⟨fun z => x_gT rfl z⟩
instance st_dis0 : Stp (List.length ([] : List PyData) ≤ 100000 ∧ A) A := ⟨fun z => ⟨by simp, z⟩⟩
instance st_dis1 {a0 : PyData} : Stp (List.length ([a0] : List PyData) ≤ 100000 ∧ A) A := ⟨fun z => ⟨by simp, z⟩⟩
instance st_dis2 {a0 a1 : PyData} : Stp (List.length ([a0, a1] : List PyData) ≤ 100000 ∧ A) A := ⟨fun z => ⟨by simp, z⟩⟩
instance st_dis3 {a0 a1 a2 : PyData} : Stp (List.length ([a0, a1, a2] : List PyData) ≤ 100000 ∧ A) A := ⟨fun z => ⟨by simp, z⟩⟩
instance st_dis4 {a0 a1 a2 a3 : PyData} : Stp (List.length ([a0, a1, a2, a3] : List PyData) ≤ 100000 ∧ A) A := ⟨fun z => ⟨by simp, z⟩⟩
instance st_dis5 {a0 a1 a2 a3 a4 : PyData} : Stp (List.length ([a0, a1, a2, a3, a4] : List PyData) ≤ 100000 ∧ A) A := ⟨fun z => ⟨by simp, z⟩⟩
instance st_dis6 {a0 a1 a2 a3 a4 a5 : PyData} : Stp (List.length ([a0, a1, a2, a3, a4, a5] : List PyData) ≤ 100000 ∧ A) A := ⟨fun z => ⟨by simp, z⟩⟩
instance st_dis7 {a0 a1 a2 a3 a4 a5 a6 : PyData} : Stp (List.length ([a0, a1, a2, a3, a4, a5, a6] : List PyData) ≤ 100000 ∧ A) A := ⟨fun z => ⟨by simp, z⟩⟩
instance st_dis8 {a0 a1 a2 a3 a4 a5 a6 a7 : PyData} : Stp (List.length ([a0, a1, a2, a3, a4, a5, a6, a7] : List PyData) ≤ 100000 ∧ A) A := ⟨fun z => ⟨by simp, z⟩⟩
instance st_ixT0 {a0 : PyData} : Stp (fIx (.tuple (a0 :: ds)) (.int 0) q) (q (.dat a0)) := ⟨fun z => x_fIxT (atI_nat (j := 0) rfl) z⟩
instance st_ixL0 {a0 : PyData} : Stp (fIx (.list (a0 :: ds)) (.int 0) q) (q (.dat a0)) := ⟨fun z => x_fIxL (atI_nat (j := 0) rfl) z⟩
instance st_ixT1 {a0 a1 : PyData} : Stp (fIx (.tuple (a0 :: a1 :: ds)) (.int 1) q) (q (.dat a1)) := ⟨fun z => x_fIxT (atI_nat (j := 1) rfl) z⟩
instance st_ixL1 {a0 a1 : PyData} : Stp (fIx (.list (a0 :: a1 :: ds)) (.int 1) q) (q (.dat a1)) := ⟨fun z => x_fIxL (atI_nat (j := 1) rfl) z⟩
instance st_ixT2 {a0 a1 a2 : PyData} : Stp (fIx (.tuple (a0 :: a1 :: a2 :: ds)) (.int 2) q) (q (.dat a2)) := ⟨fun z => x_fIxT (atI_nat (j := 2) rfl) z⟩
instance st_ixL2 {a0 a1 a2 : PyData} : Stp (fIx (.list (a0 :: a1 :: a2 :: ds)) (.int 2) q) (q (.dat a2)) := ⟨fun z => x_fIxL (atI_nat (j := 2) rfl) z⟩
instance st_ixT3 {a0 a1 a2 a3 : PyData} : Stp (fIx (.tuple (a0 :: a1 :: a2 :: a3 :: ds)) (.int 3) q) (q (.dat a3)) := ⟨fun z => x_fIxT (atI_nat (j := 3) rfl) z⟩
instance st_ixL3 {a0 a1 a2 a3 : PyData} : Stp (fIx (.list (a0 :: a1 :: a2 :: a3 :: ds)) (.int 3) q) (q (.dat a3)) := ⟨fun z => x_fIxL (atI_nat (j := 3) rfl) z⟩
instance st_ixT4 {a0 a1 a2 a3 a4 : PyData} : Stp (fIx (.tuple (a0 :: a1 :: a2 :: a3 :: a4 :: ds)) (.int 4) q) (q (.dat a4)) := ⟨fun z => x_fIxT (atI_nat (j := 4) rfl) z⟩
instance st_ixL4 {a0 a1 a2 a3 a4 : PyData} : Stp (fIx (.list (a0 :: a1 :: a2 :: a3 :: a4 :: ds)) (.int 4) q) (q (.dat a4)) := ⟨fun z => x_fIxL (atI_nat (j := 4) rfl) z⟩
end
end Mk

section
/-! the walk's small tactics: Ev, EvT, EvD, EvDA by the reading's head -/
local macro_rules | `(tactic| wtm_at "dp") => `(tactic| first
  | assumption
  | exact Lk.Dq.int _
  | exact Lk.Dq.bl _
  | exact Lk.Dq.str _
  | exact Lk.Dq.non
  | fail "dp stops")
local macro_rules | `(tactic| wtm_at "rvc") => `(tactic| first
  | trivial
  | (show (0 : Int) < _; first | decide | omega)
  | exact ⟨by decide, by decide⟩
  | exact ⟨by decide, by decide, by decide⟩
  | exact Or.inl ⟨by decide, by decide⟩
  | exact Or.inr ⟨by decide, by decide⟩
  | exact Or.inl ⟨by omega, by omega⟩
  | exact Or.inr ⟨by omega, by omega⟩
  | assumption
  | fail "rvc stops")
local macro_rules | `(tactic| wtm_at "rv") => `(tactic| first
  | with_reducible exact Evl.rv_I0
  | ((with_reducible refine' Evl.rv_I ?c); (case c => wtm_at "rvc"))
  | ((with_reducible refine' Evl.rv_eq ?c); (case c => rfl))
  | ((with_reducible refine' Evl.rv_ne ?c); (case c => rfl))
  | fail "rv stops")
local macro_rules | `(tactic| wtm_at "rel") => `(tactic| first
  | exact ⟨_, rfl, rfl⟩
  | exact ⟨_, _, rfl, rfl⟩
  | exact ⟨_, _, _, rfl, rfl⟩
  | exact ⟨_, _, _, _, rfl, rfl⟩
  | exact ⟨_, rfl, by omega, rfl⟩
  | exact ⟨_, _, rfl, by omega, by omega, rfl⟩
  | exact ⟨_, _, _, rfl, by omega, by omega, rfl⟩
  | assumption
  | fail "rel stops")
local macro_rules | `(tactic| wtm_at "eda") => `(tactic| first
  | with_reducible exact Lk.eda_nil
  | ((with_reducible refine' Lk.eda_cons ?a ?b); (case a => wtm_at "ed"); (case b => wtm_at "eda"))
  | ((with_reducible refine' Lk.eda_star ?a ?b ?k); (case a => wtm_at "ed"); (case b => wtm_at "eda"); (case k => rfl))
  | fail "eda stops")
local macro_rules | `(tactic| wtm_at "ed") => `(tactic| first
  | ((with_reducible refine' Lk.ed_var ?a ?b); (case a => exact rfl); (case b => wtm_at "dp"))
  | with_reducible exact Lk.ed_cI
  | with_reducible exact Lk.ed_cS
  | with_reducible exact Lk.ed_cN
  | with_reducible exact Lk.ed_cB
  | ((with_reducible refine' Lk.ed_tup ?a ?b); (case a => wtm_at "eda"); (case b => first | decide | exact Nat.le_of_ble_eq_true rfl))
  | ((with_reducible refine' Lk.ed_lst ?a ?b); (case a => wtm_at "eda"); (case b => first | decide | exact Nat.le_of_ble_eq_true rfl))
  | ((with_reducible refine' Lk.ed_call ?a ?b); (case a => wtm_at "eda"); (case b => wtm_at "rel"))
  | ((with_reducible refine' Lk.ed_callK ?a ?b); (case a => wtm_at "eda"); (case b => wtm_at "rel"))
  | ((with_reducible refine' Lk.ed_ixT ?a ?b ?c ?k); (case a => wtm_at "ed"); (case b => wtm_at "ev"); (case c => rfl); (case k => rfl))
  | ((with_reducible refine' Lk.ed_ixL ?a ?b ?c ?k); (case a => wtm_at "ed"); (case b => wtm_at "ev"); (case c => rfl); (case k => rfl))
  | (refine' Lk.ed_ev (v := L2.V.int _) ?a ?b; (case a => wtm_at "ev"); (case b => exact Lk.Dq.int _))
  | (refine' Lk.ed_ev (v := L2.V.bl _) ?a ?b; (case a => wtm_at "ev"); (case b => exact Lk.Dq.bl _))
  | (refine' Lk.ed_ev (v := L2.V.str _) ?a ?b; (case a => wtm_at "ev"); (case b => exact Lk.Dq.str _))
  | fail "ed stops")
local macro_rules | `(tactic| wtm_at "ev") => `(tactic| first
  | with_reducible exact Evl.ev_c
  | ((with_reducible refine' Evl.ev_var ?a); (case a => exact rfl))
  | ((with_reducible refine' Lk.ev_eqD ?a ?b ?c ?d); (case a => wtm_at "ed"); (case b => wtm_at "ed"); (case c => wtm_at "sh"); (case d => wtm_at "sh"))
  | ((with_reducible refine' Lk.ev_neD ?a ?b ?c ?d); (case a => wtm_at "ed"); (case b => wtm_at "ed"); (case c => wtm_at "sh"); (case d => wtm_at "sh"))
  | ((with_reducible refine' Evl.ev_op ?a ?b ?c); (case a => wtm_at "ev"); (case b => wtm_at "ev"); (case c => wtm_at "rv"))
  | ((with_reducible refine' Evl.ev_un ?a ?c); (case a => wtm_at "ev"); (case c => with_reducible exact Evl.ru_neg))
  | ((with_reducible refine' Evl.ev_andV ?a ?b); (case a => wtm_at "ev"); (case b => (intro hb; first | exact (Bool.false_ne_true hb).elim | exact (Bool.false_ne_true hb.symm).elim | wtm_at "ev")); (all_goals try exact false))
  | ((with_reducible refine' Evl.ev_orV ?a ?b); (case a => wtm_at "ev"); (case b => (intro hb; first | exact (Bool.false_ne_true hb).elim | exact (Bool.false_ne_true hb.symm).elim | wtm_at "ev")); (all_goals try exact false))
  | ((with_reducible refine' Lk.ev_chain ?a ?b ?c ?d ?e); (case a => wtm_at "ev"); (case b => wtm_at "ev"); (case c => wtm_at "rv"); (case d => (intro hb; wtm_at "ev")); (case e => (intro hb; wtm_at "rv")))
  | ((with_reducible refine' Evl.ev_notV ?a); (case a => wtm_at "ev"))
  | ((with_reducible refine' Lk.ev_edI (Lk.ed_call ?a ?b)); (case a => wtm_at "eda"); (case b => wtm_at "rel"))
  | ((with_reducible refine' Lk.ev_edB (Lk.ed_call ?a ?b)); (case a => wtm_at "eda"); (case b => wtm_at "rel"))
  | ((with_reducible refine' Lk.ev_edS (Lk.ed_call ?a ?b)); (case a => wtm_at "eda"); (case b => wtm_at "rel"))
  | ((with_reducible refine' Lk.ev_edI (Lk.ed_callK ?a ?b)); (case a => wtm_at "eda"); (case b => wtm_at "rel"))
  | ((with_reducible refine' Lk.ev_edI (Lk.ed_ixT ?a ?b ?c ?k)); (case a => wtm_at "ed"); (case b => wtm_at "ev"); (case c => rfl); (case k => rfl))
  | ((with_reducible refine' Lk.ev_edI (Lk.ed_ixL ?a ?b ?c ?k)); (case a => wtm_at "ed"); (case b => wtm_at "ev"); (case c => rfl); (case k => rfl))
  | ((with_reducible refine' Lk.ev_intI ?a); (case a => wtm_at "ev"))
  | ((with_reducible refine' Lk.ev_abs ?a); (case a => wtm_at "ev"))
  | ((with_reducible refine' Lk.ev_min ?a ?b); (case a => wtm_at "ev"); (case b => wtm_at "ev"))
  | ((with_reducible refine' Lk.ev_lenT ?a); (case a => wtm_at "ed"))
  | ((with_reducible refine' Lk.ev_lenL ?a); (case a => wtm_at "ed"))
  | ((with_reducible refine' Lk.ev_isiD ?a ?b); (case a => wtm_at "ed"); (case b => first
      | with_reducible exact Lk.kit_int _
      | with_reducible exact Lk.kit_bool _
      | with_reducible exact Lk.kit_tup _
      | with_reducible exact Lk.kit_lst _
      | with_reducible exact Lk.kit_str _
      | with_reducible exact Lk.kit_dct _))
  | fail "ev stops")
local macro_rules | `(tactic| wtm_at "ea") => `(tactic| first
  | with_reducible exact Evl.ea_nil
  | ((with_reducible refine' Evl.ea_cons ?a ?b); (case a => wtm_at "ev"); (case b => wtm_at "ea"))
  | fail "ea stops")
local macro_rules | `(tactic| wtm_at "sh") => `(tactic| first
  | rfl
  | assumption
  | decide
  | fail "sh stops")
local macro_rules | `(tactic| wtm_at "et") => `(tactic| first
  | ((with_reducible refine' Evl.et_test ?a); (case a => wtm_at "ev"))
  | ((with_reducible refine' Evl.et_B ?a); (case a => wtm_at "ev"))
  | ((with_reducible refine' Evl.et_and ?a ?b); (case a => wtm_at "et"); (case b => (intro hb; first | exact (Bool.false_ne_true hb).elim | exact (Bool.false_ne_true hb.symm).elim | wtm_at "et")); (all_goals try exact false))
  | ((with_reducible refine' Evl.et_or ?a ?b); (case a => wtm_at "et"); (case b => (intro hb; first | exact (Bool.false_ne_true hb).elim | exact (Bool.false_ne_true hb.symm).elim | wtm_at "et")); (all_goals try exact false))
  | ((with_reducible refine' Evl.et_not ?a); (case a => wtm_at "et"))
  | fail "et stops")

/-! part Pa -/
namespace K81
open PySem PySem.Spec PyProof.Rows L2 Evl Lk LamX Mk
abbrev Fn (K : PySem.W.Frag) (x : Str) (st : Stmt) (f : Addr) (fd : FuncData) : Prop := FunD K x x (defArgs st) (defBody st) (defScope st) [] [] f fd
structure Txt (K : PySem.W.Frag) (mg : Str → Option Value) : Prop where
  n_abs : mg "abs" = none
  n_all : mg "all" = none
  n_bool : mg "bool" = none
  n_int : mg "int" = none
  n_isinstance : mg "isinstance" = none
  n_len : mg "len" = none
  n_min : mg "min" = none
  n_range : mg "range" = none
  n_set : mg "set" = none
  n_sorted : mg "sorted" = none
  n_str : mg "str" = none
  n_sum : mg "sum" = none
  n_tuple : mg "tuple" = none
  v_DEEPEST : Cn K mg "DEEPEST" (.int 4) k_DEEPEST
  v_LAST_YEAR : Cn K mg "LAST_YEAR" (.int 1000000000000000000000000000000) k_LAST_YEAR
  v_LENGTHS : Cn K mg "LENGTHS" (.ref (He.ga K "LENGTHS")) k_LENGTHS
  v_LETTERS : Cn K mg "LETTERS" (.str "abcdefghijklmnopqrstuvwxyz") k_LETTERS
  v_MOST_RULES : Cn K mg "MOST_RULES" (.int 8) k_MOST_RULES
  v_ROUND_DAYS : Cn K mg "ROUND_DAYS" (.int 146097) k_ROUND_DAYS
  x_BadCalendar : XcT K mg "BadCalendar" (He.ga K "BadCalendar")
  x_BadDate : XcT K mg "BadDate" (He.ga K "BadDate")
  x_BadHour : XcT K mg "BadHour" (He.ga K "BadHour")
  x_BadWhen : XcT K mg "BadWhen" (He.ga K "BadWhen")
  x_BadYear : XcT K mg "BadYear" (He.ga K "BadYear")
/-- what stands of the exceptions -/
structure Xf (K : PySem.W.Frag) : Prop where
  e_BadCalendar : ExcC K (He.ga K "BadCalendar")
  k_BadCalendar : PySem.W.exmOne K (.ref (He.ga K "BadCalendar")) (.ref (He.ga K "KeptError")) = some true
  i_BadCalendar_BadCalendar : PySem.W.kitOne K (.ref (He.ga K "BadCalendar")) (.ref (He.ga K "BadCalendar")) = some true
  i_BadCalendar_BadHour : PySem.W.kitOne K (.ref (He.ga K "BadCalendar")) (.ref (He.ga K "BadHour")) = some false
  i_BadCalendar_BadWhen : PySem.W.kitOne K (.ref (He.ga K "BadCalendar")) (.ref (He.ga K "BadWhen")) = some false
  i_BadCalendar_BadYear : PySem.W.kitOne K (.ref (He.ga K "BadCalendar")) (.ref (He.ga K "BadYear")) = some false
  e_BadDate : ExcC K (He.ga K "BadDate")
  k_BadDate : PySem.W.exmOne K (.ref (He.ga K "BadDate")) (.ref (He.ga K "KeptError")) = some true
  i_BadDate_BadCalendar : PySem.W.kitOne K (.ref (He.ga K "BadDate")) (.ref (He.ga K "BadCalendar")) = some false
  i_BadDate_BadHour : PySem.W.kitOne K (.ref (He.ga K "BadDate")) (.ref (He.ga K "BadHour")) = some false
  i_BadDate_BadWhen : PySem.W.kitOne K (.ref (He.ga K "BadDate")) (.ref (He.ga K "BadWhen")) = some false
  i_BadDate_BadYear : PySem.W.kitOne K (.ref (He.ga K "BadDate")) (.ref (He.ga K "BadYear")) = some false
  e_BadHour : ExcC K (He.ga K "BadHour")
  k_BadHour : PySem.W.exmOne K (.ref (He.ga K "BadHour")) (.ref (He.ga K "KeptError")) = some true
  i_BadHour_BadCalendar : PySem.W.kitOne K (.ref (He.ga K "BadHour")) (.ref (He.ga K "BadCalendar")) = some false
  i_BadHour_BadHour : PySem.W.kitOne K (.ref (He.ga K "BadHour")) (.ref (He.ga K "BadHour")) = some true
  i_BadHour_BadWhen : PySem.W.kitOne K (.ref (He.ga K "BadHour")) (.ref (He.ga K "BadWhen")) = some false
  i_BadHour_BadYear : PySem.W.kitOne K (.ref (He.ga K "BadHour")) (.ref (He.ga K "BadYear")) = some false
  e_BadWhen : ExcC K (He.ga K "BadWhen")
  k_BadWhen : PySem.W.exmOne K (.ref (He.ga K "BadWhen")) (.ref (He.ga K "KeptError")) = some true
  i_BadWhen_BadCalendar : PySem.W.kitOne K (.ref (He.ga K "BadWhen")) (.ref (He.ga K "BadCalendar")) = some false
  i_BadWhen_BadHour : PySem.W.kitOne K (.ref (He.ga K "BadWhen")) (.ref (He.ga K "BadHour")) = some false
  i_BadWhen_BadWhen : PySem.W.kitOne K (.ref (He.ga K "BadWhen")) (.ref (He.ga K "BadWhen")) = some true
  i_BadWhen_BadYear : PySem.W.kitOne K (.ref (He.ga K "BadWhen")) (.ref (He.ga K "BadYear")) = some false
  e_BadYear : ExcC K (He.ga K "BadYear")
  k_BadYear : PySem.W.exmOne K (.ref (He.ga K "BadYear")) (.ref (He.ga K "KeptError")) = some true
  i_BadYear_BadCalendar : PySem.W.kitOne K (.ref (He.ga K "BadYear")) (.ref (He.ga K "BadCalendar")) = some false
  i_BadYear_BadHour : PySem.W.kitOne K (.ref (He.ga K "BadYear")) (.ref (He.ga K "BadHour")) = some false
  i_BadYear_BadWhen : PySem.W.kitOne K (.ref (He.ga K "BadYear")) (.ref (He.ga K "BadWhen")) = some false
  i_BadYear_BadYear : PySem.W.kitOne K (.ref (He.ga K "BadYear")) (.ref (He.ga K "BadYear")) = some true
  n_BadCalendar : PySem.W.kitOne K (.type "NoneType") (.ref (He.ga K "BadCalendar")) = some false
  n_BadHour : PySem.W.kitOne K (.type "NoneType") (.ref (He.ga K "BadHour")) = some false
  n_BadWhen : PySem.W.kitOne K (.type "NoneType") (.ref (He.ga K "BadWhen")) = some false
  n_BadYear : PySem.W.kitOne K (.type "NoneType") (.ref (He.ga K "BadYear")) = some false
abbrev N__law_begun : List Str := ["script", "great", "cell"]
theorem sc__law_begun : FnScope N__law_begun ["script"] (defScope s__law_begun) := ⟨rfl, rfl, rfl, by decide +kernel, rfl, by decide +kernel, by decide +kernel⟩
abbrev N__law_mixed : List Str := ["state", "turn", "found", "prime", "blend", "cell"]
theorem sc__law_mixed : FnScope N__law_mixed ["state"] (defScope s__law_mixed) := ⟨rfl, rfl, rfl, by decide +kernel, rfl, by decide +kernel, by decide +kernel⟩
abbrev N__law_draw : List Str := ["state", "room", "found"]
theorem sc__law_draw : FnScope N__law_draw ["state", "room"] (defScope s__law_draw) := ⟨rfl, rfl, rfl, by decide +kernel, rfl, by decide +kernel, by decide +kernel⟩
abbrev N__law_pick : List Str := ["state", "some"]
theorem sc__law_pick : FnScope N__law_pick ["state", "some"] (defScope s__law_pick) := ⟨rfl, rfl, rfl, by decide +kernel, rfl, by decide +kernel, by decide +kernel⟩
abbrev N__law_plan : List Str := ["state", "modes", "many", "hours", "found", "lap", "hour", "mode"]
theorem sc__law_plan : FnScope N__law_plan ["state", "modes", "many"] (defScope s__law_plan) := ⟨rfl, rfl, rfl, by decide +kernel, rfl, by decide +kernel, by decide +kernel⟩
abbrev N__law_leap : List Str := ["year"]
theorem sc__law_leap : FnScope N__law_leap ["year"] (defScope s__law_leap) := ⟨rfl, rfl, rfl, by decide +kernel, rfl, by decide +kernel, by decide +kernel⟩
abbrev N__law_month : List Str := ["year", "month"]
theorem sc__law_month : FnScope N__law_month ["year", "month"] (defScope s__law_month) := ⟨rfl, rfl, rfl, by decide +kernel, rfl, by decide +kernel, by decide +kernel⟩
abbrev N__law_day_rule : List Str := ["state", "deep", "way", "month", "days"]
theorem sc__law_day_rule : FnScope N__law_day_rule ["state", "deep"] (defScope s__law_day_rule) := ⟨rfl, rfl, rfl, by decide +kernel, rfl, by decide +kernel, by decide +kernel⟩
abbrev N__law_year : List Str := ["state", "far", "some"]
theorem sc__law_year : FnScope N__law_year ["state"] (defScope s__law_year) := ⟨rfl, rfl, rfl, by decide +kernel, rfl, by decide +kernel, by decide +kernel⟩
abbrev N__law_date : List Str := ["state", "year", "month", "last"]
theorem sc__law_date : FnScope N__law_date ["state"] (defScope s__law_date) := ⟨rfl, rfl, rfl, by decide +kernel, rfl, by decide +kernel, by decide +kernel⟩
abbrev N__law_calendar : List Str := ["state", "modes", "dense", "plans", "lap", "week", "rules", "days", "day"]
theorem sc__law_calendar : FnScope N__law_calendar ["state", "modes", "dense"] (defScope s__law_calendar) := ⟨rfl, rfl, rfl, by decide +kernel, rfl, by decide +kernel, by decide +kernel⟩
abbrev N__law_number : List Str := ["date", "year", "month", "day", "shifted", "place", "era", "rest", "days"]
theorem sc__law_number : FnScope N__law_number ["date"] (defScope s__law_number) := ⟨rfl, rfl, rfl, by decide +kernel, rfl, by decide +kernel, by decide +kernel⟩
abbrev N__law_when_day : List Str := ["when", "year", "first", "many", "some", "at", "day"]
theorem sc__law_when_day : FnScope N__law_when_day ["when", "year"] (defScope s__law_when_day) := ⟨rfl, rfl, rfl, by decide +kernel, rfl, by decide +kernel, by decide +kernel⟩
abbrev N__law_caught : List Str := ["action", "found", "error"]
theorem sc__law_caught : FnScope N__law_caught ["action"] (defScope s__law_caught) := ⟨rfl, rfl, rfl, by decide +kernel, rfl, by decide +kernel, by decide +kernel⟩
abbrev N__law_dated : List Str := ["number", "days", "era", "rest", "year", "past", "place", "day", "month"]
theorem sc__law_dated : FnScope N__law_dated ["number"] (defScope s__law_dated) := ⟨rfl, rfl, rfl, by decide +kernel, rfl, by decide +kernel, by decide +kernel⟩
abbrev N_is_whole : List Str := ["value", "low", "high"]
theorem sc_is_whole : FnScope N_is_whole ["value", "low", "high"] (defScope s_is_whole) := ⟨rfl, rfl, rfl, by decide +kernel, rfl, by decide +kernel, by decide +kernel⟩
abbrev N_need_year : List Str := ["year"]
theorem sc_need_year : FnScope N_need_year ["year"] (defScope s_need_year) := ⟨rfl, rfl, rfl, by decide +kernel, rfl, by decide +kernel, by decide +kernel⟩
abbrev N_year_begin : List Str := ["year", "ahead"]
theorem sc_year_begin : FnScope N_year_begin ["year"] (defScope s_year_begin) := ⟨rfl, rfl, rfl, by decide +kernel, rfl, by decide +kernel, by decide +kernel⟩
abbrev N_is_leap : List Str := ["year"]
theorem sc_is_leap : FnScope N_is_leap ["year"] (defScope s_is_leap) := ⟨rfl, rfl, rfl, by decide +kernel, rfl, by decide +kernel, by decide +kernel⟩
abbrev N_month_days : List Str := ["year", "month"]
theorem sc_month_days : FnScope N_month_days ["year", "month"] (defScope s_month_days) := ⟨rfl, rfl, rfl, by decide +kernel, rfl, by decide +kernel, by decide +kernel⟩
abbrev N_day_in_year : List Str := ["year", "month", "day", "one"]
theorem sc_day_in_year : FnScope N_day_in_year ["year", "month", "day"] (defScope s_day_in_year) := ⟨rfl, rfl, rfl, by decide +kernel, rfl, by decide +kernel, by decide +kernel⟩
abbrev N_nth_day : List Str := ["year", "month", "day", "n", "first", "found", "at"]
theorem sc_nth_day : FnScope N_nth_day ["year", "month", "day", "n"] (defScope s_nth_day) := ⟨rfl, rfl, rfl, by decide +kernel, rfl, by decide +kernel, by decide +kernel⟩
abbrev N_day_of : List Str := ["when", "year", "day"]
theorem sc_day_of : FnScope N_day_of ["when", "year"] (defScope s_day_of) := ⟨rfl, rfl, rfl, by decide +kernel, rfl, by decide +kernel, by decide +kernel⟩
abbrev N_month_and_day : List Str := ["year", "at", "month"]
theorem sc_month_and_day : FnScope N_month_and_day ["year", "at"] (defScope s_month_and_day) := ⟨rfl, rfl, rfl, by decide +kernel, rfl, by decide +kernel, by decide +kernel⟩
abbrev N_date_at : List Str := ["number", "rounds", "rest", "year"]
theorem sc_date_at : FnScope N_date_at ["number"] (defScope s_date_at) := ⟨rfl, rfl, rfl, by decide +kernel, rfl, by decide +kernel, by decide +kernel⟩
abbrev N_is_when_of : List Str := ["value", "deep"]
theorem sc_is_when_of : FnScope N_is_when_of ["value", "deep"] (defScope s_is_when_of) := ⟨rfl, rfl, rfl, by decide +kernel, rfl, by decide +kernel, by decide +kernel⟩
abbrev N_is_when : List Str := ["value"]
theorem sc_is_when : FnScope N_is_when ["value"] (defScope s_is_when) := ⟨rfl, rfl, rfl, by decide +kernel, rfl, by decide +kernel, by decide +kernel⟩
abbrev N_told_day : List Str := ["when", "year", "day"]
theorem sc_told_day : FnScope N_told_day ["when", "year"] (defScope s_told_day) := ⟨rfl, rfl, rfl, by decide +kernel, rfl, by decide +kernel, by decide +kernel⟩
abbrev N__law_bent : List Str := ["state", "value", "way", "some", "at"]
theorem sc__law_bent : FnScope N__law_bent ["state", "value"] (defScope s__law_bent) := ⟨rfl, rfl, rfl, by decide +kernel, rfl, by decide +kernel, by decide +kernel⟩
abbrev N__law_is_int : List Str := ["value", "low", "high"]
theorem sc__law_is_int : FnScope N__law_is_int ["value", "low", "high"] (defScope s__law_is_int) := ⟨rfl, rfl, rfl, by decide +kernel, rfl, by decide +kernel, by decide +kernel⟩
abbrev N__law_is_rule_day : List Str := ["value", "deep", "right"]
theorem sc__law_is_rule_day : FnScope N__law_is_rule_day ["value", "deep"] (defScope s__law_is_rule_day) := ⟨rfl, rfl, rfl, by decide +kernel, rfl, by decide +kernel, by decide +kernel⟩
abbrev N__law_told_right : List Str := ["state", "calendar", "year", "when", "plan", "number", "due", "bad", "odd"]
theorem sc__law_told_right : FnScope N__law_told_right ["state", "calendar", "year"] (defScope s__law_told_right) := ⟨rfl, rfl, rfl, by decide +kernel, rfl, by decide +kernel, by decide +kernel⟩
abbrev N_is_date : List Str := ["value"]
theorem sc_is_date : FnScope N_is_date ["value"] (defScope s_is_date) := ⟨rfl, rfl, rfl, by decide +kernel, rfl, by decide +kernel, by decide +kernel⟩
abbrev N_is_name : List Str := ["value", "letter"]
theorem sc_is_name : FnScope N_is_name ["value"] (defScope s_is_name) := ⟨rfl, rfl, rfl, by decide +kernel, rfl, by decide +kernel, by decide +kernel⟩
abbrev N_is_plan_of : List Str := ["value", "most", "hour", "mode", "pair"]
theorem sc_is_plan_of : FnScope N_is_plan_of ["value", "most"] (defScope s_is_plan_of) := ⟨rfl, rfl, rfl, by decide +kernel, rfl, by decide +kernel, by decide +kernel⟩
abbrev N_is_dates : List Str := ["dates", "most", "longest", "last", "pair"]
theorem sc_is_dates : FnScope N_is_dates ["dates", "most", "longest"] (defScope s_is_dates) := ⟨rfl, rfl, rfl, by decide +kernel, rfl, by decide +kernel, by decide +kernel⟩
abbrev N_is_calendar : List Str := ["value", "word", "week", "rules", "dates", "plan", "rule"]
theorem sc_is_calendar : FnScope N_is_calendar ["value"] (defScope s_is_calendar) := ⟨rfl, rfl, rfl, by decide +kernel, rfl, by decide +kernel, by decide +kernel⟩
abbrev N__law_days : List Str := ["state", "calendar", "found", "day", "plan", "when", "number", "more"]
theorem sc__law_days : FnScope N__law_days ["state", "calendar"] (defScope s__law_days) := ⟨rfl, rfl, rfl, by decide +kernel, rfl, by decide +kernel, by decide +kernel⟩
abbrev N__law_special : List Str := ["rules", "year", "first", "after", "found", "when", "plan", "one", "day"]
theorem sc__law_special : FnScope N__law_special ["rules", "year"] (defScope s__law_special) := ⟨rfl, rfl, rfl, by decide +kernel, rfl, by decide +kernel, by decide +kernel⟩
abbrev N__law_plan_of : List Str := ["calendar", "date", "day", "plan", "number"]
theorem sc__law_plan_of : FnScope N__law_plan_of ["calendar", "date"] (defScope s__law_plan_of) := ⟨rfl, rfl, rfl, by decide +kernel, rfl, by decide +kernel, by decide +kernel⟩
abbrev N_need_calendar : List Str := ["calendar"]
theorem sc_need_calendar : FnScope N_need_calendar ["calendar"] (defScope s_need_calendar) := ⟨rfl, rfl, rfl, by decide +kernel, rfl, by decide +kernel, by decide +kernel⟩
abbrev N_need_date : List Str := ["date"]
theorem sc_need_date : FnScope N_need_date ["date"] (defScope s_need_date) := ⟨rfl, rfl, rfl, by decide +kernel, rfl, by decide +kernel, by decide +kernel⟩
abbrev N_days_of : List Str := ["year"]
theorem sc_days_of : FnScope N_days_of ["year"] (defScope s_days_of) := ⟨rfl, rfl, rfl, by decide +kernel, rfl, by decide +kernel, by decide +kernel⟩
abbrev N_year_table : List Str := ["calendar", "year", "begin", "found", "at", "when", "plan", "one", "day"]
theorem sc_year_table : FnScope N_year_table ["calendar", "year"] (defScope s_year_table) := ⟨rfl, rfl, rfl, by decide +kernel, rfl, by decide +kernel, by decide +kernel⟩
abbrev N_number_at : List Str := ["date"]
theorem sc_number_at : FnScope N_number_at ["date"] (defScope s_number_at) := ⟨rfl, rfl, rfl, by decide +kernel, rfl, by decide +kernel, by decide +kernel⟩
abbrev N_plan_on : List Str := ["calendar", "date", "one", "plan"]
theorem sc_plan_on : FnScope N_plan_on ["calendar", "date"] (defScope s_plan_on) := ⟨rfl, rfl, rfl, by decide +kernel, rfl, by decide +kernel, by decide +kernel⟩
abbrev N_need_hour : List Str := ["hour"]
theorem sc_need_hour : FnScope N_need_hour ["hour"] (defScope s_need_hour) := ⟨rfl, rfl, rfl, by decide +kernel, rfl, by decide +kernel, by decide +kernel⟩
abbrev N_mode_in : List Str := ["plan", "hour", "begin", "mode"]
theorem sc_mode_in : FnScope N_mode_in ["plan", "hour"] (defScope s_mode_in) := ⟨rfl, rfl, rfl, by decide +kernel, rfl, by decide +kernel, by decide +kernel⟩
abbrev N_mode_at : List Str := ["calendar", "date", "hour", "plan"]
theorem sc_mode_at : FnScope N_mode_at ["calendar", "date", "hour"] (defScope s_mode_at) := ⟨rfl, rfl, rfl, by decide +kernel, rfl, by decide +kernel, by decide +kernel⟩
abbrev N__law_mode : List Str := ["plan", "hour", "some", "begin", "mode"]
theorem sc__law_mode : FnScope N__law_mode ["plan", "hour"] (defScope s__law_mode) := ⟨rfl, rfl, rfl, by decide +kernel, rfl, by decide +kernel, by decide +kernel⟩
abbrev N__law_calendar_right : List Str := ["state", "calendar", "day", "plan", "hour", "odd"]
theorem sc__law_calendar_right : FnScope N__law_calendar_right ["state", "calendar"] (defScope s__law_calendar_right) := ⟨rfl, rfl, rfl, by decide +kernel, rfl, by decide +kernel, by decide +kernel⟩
abbrev N__law_tells : List Str := ["value", "due"]
theorem sc__law_tells : FnScope N__law_tells ["value", "due"] (defScope s__law_tells) := ⟨rfl, rfl, rfl, by decide +kernel, rfl, by decide +kernel, by decide +kernel⟩
abbrev N__law_is_mode : List Str := ["value", "letter"]
theorem sc__law_is_mode : FnScope N__law_is_mode ["value"] (defScope s__law_is_mode) := ⟨rfl, rfl, rfl, by decide +kernel, rfl, by decide +kernel, by decide +kernel⟩
abbrev N__law_is_plan : List Str := ["value", "one", "hours", "hour", "mode", "at"]
theorem sc__law_is_plan : FnScope N__law_is_plan ["value"] (defScope s__law_is_plan) := ⟨rfl, rfl, rfl, by decide +kernel, rfl, by decide +kernel, by decide +kernel⟩
abbrev N__law_is_day : List Str := ["value"]
theorem sc__law_is_day : FnScope N__law_is_day ["value"] (defScope s__law_is_day) := ⟨rfl, rfl, rfl, by decide +kernel, rfl, by decide +kernel, by decide +kernel⟩
abbrev N__law_is_yearly : List Str := ["value", "week", "rules", "days", "plan", "rows", "one", "day"]
theorem sc__law_is_yearly : FnScope N__law_is_yearly ["value"] (defScope s__law_is_yearly) := ⟨rfl, rfl, rfl, by decide +kernel, rfl, by decide +kernel, by decide +kernel⟩
abbrev N_law : List Str := ["script", "state", "lap", "calendar", "turn", "bad", "caught"]
theorem sc_law : FnScope N_law ["script"] (defScope s_law) := ⟨rfl, rfl, rfl, by decide +kernel, rfl, by decide +kernel, by decide +kernel⟩
def b__law_pick (K : PySem.W.Frag) : MS := (mRet (mOp fIx (mVar 1) (mCall0 dDraw (mCons (mVar 0) (mCons (mCB (fl1 fLen) (mCons (mVar 1) mNil)) mNil)))))
def d__law_pick (K : PySem.W.Frag) : Den := runF 2 2 (b__law_pick K)
@[reducible] def B__law_plan_1 (K : PySem.W.Frag) : MT := (mB (mOp fNe (mOp fIx (mOp fIx (mVar 4) (mOp fSub (mCB (fl1 fLen) (mCons (mVar 4) mNil)) (mC (.int 1)))) (mC (.int 1))) (mVar 7)))
@[reducible] def B__law_plan_2 (K : PySem.W.Frag) : MS := (mDrop (mLM fAppend 4 (mCons (mFz (mDis (fun ds => .dat (.tuple ds)) (mCons (mFz (mVar 6)) (mCons (mFz (mVar 7)) mNil)))) mNil)))
@[reducible] def B__law_plan_3 (K : PySem.W.Frag) : MS := (mIf (mOr (mB (mOp fEq (mVar 4) (mDis (fun ds => .lst ds) mNil))) (B__law_plan_1 K)) (B__law_plan_2 K) mNext)
@[reducible] def B__law_plan_4 (K : PySem.W.Frag) : MS := (mSeq (mAsg 7 (mCall0 (d__law_pick K) (mCons (mVar 0) (mCons (mVar 1) mNil))))
  (B__law_plan_3 K))
@[reducible] def B__law_plan_5 (K : PySem.W.Frag) : MS := (mSeq (mFor (mIt (mOp fAdd (mDis (fun ds => .lst ds) (mCons (mFz (mC (.int 0))) mNil)) (mVar 3))) (mgN 6) (B__law_plan_4 K))
  (mRet (mUn fTuple (mVar 4))))
def b__law_plan (K : PySem.W.Frag) : MS := (mSeq (mPar [3, 4] (mCons (mMv (mUn fSortSetI (mLc (mRng1 (mCons (mFz (mCall0 dDraw (mCons (mVar 0) (mCons (mVar 2) mNil)))) mNil)) (mgN 5) mYes (mOp fAdd (mC (.int 1)) (mCall0 dDraw (mCons (mVar 0) (mCons (mC (.int 23)) mNil)))) [5]))) (mCons (mMv (mDis (fun ds => .lst ds) mNil)) mNil)))
  (B__law_plan_5 K))
def d__law_plan (K : PySem.W.Frag) : Den := runF 3 8 (b__law_plan K)
@[reducible] def B__law_leap_1 (K : PySem.W.Frag) : ME := (mAndV (mB (mOp fEq (mOp fMod (mCB (fl1 fIntI) (mCons (mVar 0) mNil)) (mC (.int 4))) (mC (.int 0)))) (mOp fNe (mOp fMod (mCB (fl1 fIntI) (mCons (mVar 0) mNil)) (mC (.int 100))) (mC (.int 0))))
def b__law_leap (K : PySem.W.Frag) : MS := (mRet (mOrV (mB (mOp fEq (mOp fMod (mCB (fl1 fIntI) (mCons (mVar 0) mNil)) (mC (.int 400))) (mC (.int 0)))) (B__law_leap_1 K)))
def d__law_leap (K : PySem.W.Frag) : Den := runF 1 1 (b__law_leap K)
@[reducible] def B__law_month_1 (K : PySem.W.Frag) : MS := (mRet (mIfE (mB (mCall0 (d__law_leap K) (mCons (mVar 0) mNil))) (mC (.int 29)) (mC (.int 28))))
@[reducible] def B__law_month_2 (K : PySem.W.Frag) : MS := (mRet (mIfE (mB (mOp fIn (mVar 1) (mDis (fun ds => .lst ds) (mCons (mFz (mC (.int 4))) (mCons (mFz (mC (.int 6))) (mCons (mFz (mC (.int 9))) (mCons (mFz (mC (.int 11))) mNil))))))) (mC (.int 30)) (mC (.int 31))))
def b__law_month (K : PySem.W.Frag) : MS := (mSeq (mIf (mB (mOp fEq (mVar 1) (mC (.int 2)))) (B__law_month_1 K) mNext)
  (B__law_month_2 K))
def d__law_month (K : PySem.W.Frag) : Den := runF 2 2 (b__law_month K)
@[reducible] def B__law_day_rule_1 (K : PySem.W.Frag) (G : Den) : MS := (mRet (mDis (fun ds => .dat (.tuple ds)) (mCons (mFz (mC (.str "shift"))) (mCons (mFz (mCall0 G (mCons (mVar 0) (mCons (mOp fSub (mVar 1) (mC (.int 1))) mNil)))) (mCons (mFz (mVar 4)) mNil)))))
@[reducible] def B__law_day_rule_2 (K : PySem.W.Frag) (G : Den) : MS := (mSeq (mAsg 4 (mCall0 (d__law_pick K) (mCons (mVar 0) (mCons (mDis (fun ds => .lst ds) (mCons (mFz (mC (.int 1))) (mCons (mFz (mUn fNeg (mC (.int 1)))) (mCons (mFz (mC (.int 40))) (mCons (mFz (mUn fNeg (mC (.int 40)))) (mCons (mFz (mC (.int 2))) (mCons (mFz (mUn fNeg (mC (.int 2)))) (mCons (mFz (mC (.int 7))) (mCons (mFz (mC (.int 20))) mNil))))))))) mNil))))
  (B__law_day_rule_1 K G))
@[reducible] def B__law_day_rule_3 (K : PySem.W.Frag) (G : Den) : MS := (mRet (mDis (fun ds => .dat (.tuple ds)) (mCons (mFz (mC (.str "moved"))) (mCons (mFz (mCall0 G (mCons (mVar 0) (mCons (mOp fSub (mVar 1) (mC (.int 1))) mNil)))) (mCons (mFz (mCall0 dDraw (mCons (mVar 0) (mCons (mC (.int 7)) mNil)))) (mCons (mFz (mCall0 (d__law_pick K) (mCons (mVar 0) (mCons (mDis (fun ds => .lst ds) (mCons (mFz (mC (.int 1))) (mCons (mFz (mC (.int 2))) (mCons (mFz (mUn fNeg (mC (.int 1)))) (mCons (mFz (mC (.int 6))) (mCons (mFz (mUn fNeg (mC (.int 6)))) (mCons (mFz (mUn fNeg (mC (.int 3)))) mNil))))))) mNil)))) mNil))))))
@[reducible] def B__law_day_rule_4 (K : PySem.W.Frag) (G : Den) : MS := (mRet (mDis (fun ds => .dat (.tuple ds)) (mCons (mFz (mC (.str "nth"))) (mCons (mFz (mCall0 (d__law_pick K) (mCons (mVar 0) (mCons (mDis (fun ds => .lst ds) (mCons (mFz (mVar 3)) (mCons (mFz (mC (.int 2))) mNil))) mNil)))) (mCons (mFz (mCall0 dDraw (mCons (mVar 0) (mCons (mC (.int 7)) mNil)))) (mCons (mFz (mCall0 (d__law_pick K) (mCons (mVar 0) (mCons (mDis (fun ds => .lst ds) (mCons (mFz (mC (.int 1))) (mCons (mFz (mUn fNeg (mC (.int 1)))) (mCons (mFz (mC (.int 5))) (mCons (mFz (mC (.int 2))) (mCons (mFz (mC (.int 4))) mNil)))))) mNil)))) mNil))))))
@[reducible] def B__law_day_rule_5 (K : PySem.W.Frag) (G : Den) : MS := (mRet (mDis (fun ds => .dat (.tuple ds)) (mCons (mFz (mC (.str "date"))) (mCons (mFz (mVar 3)) (mCons (mFz (mCall0 (d__law_pick K) (mCons (mVar 0) (mCons (mDis (fun ds => .lst ds) (mCons (mFz (mC (.int 1))) (mCons (mFz (mCall0 (d__law_month K) (mCons (mC (.int 2000)) (mCons (mVar 3) mNil)))) (mCons (mFz (mOp fAdd (mC (.int 1)) (mCall0 dDraw (mCons (mVar 0) (mCons (mC (.int 28)) mNil))))) mNil)))) mNil)))) mNil)))))
@[reducible] def B__law_day_rule_6 (K : PySem.W.Frag) (G : Den) : MS := (mSeq (mAsg 3 (mCall0 (d__law_pick K) (mCons (mVar 0) (mCons (mDis (fun ds => .lst ds) (mCons (mFz (mVar 3)) (mCons (mFz (mC (.int 12))) (mCons (mFz (mC (.int 1))) (mCons (mFz (mC (.int 2))) mNil))))) mNil))))
  (B__law_day_rule_5 K G))
@[reducible] def B__law_day_rule_7 (K : PySem.W.Frag) (G : Den) : MS := (mSeq (mIf (mB (mOp fEq (mVar 2) (mC (.int 3)))) (B__law_day_rule_4 K G) mNext)
  (B__law_day_rule_6 K G))
@[reducible] def B__law_day_rule_8 (K : PySem.W.Frag) (G : Den) : MS := (mSeq (mIf (mAnd (mB (mOp fGt (mVar 1) (mC (.int 1)))) (mB (mOp fEq (mVar 2) (mC (.int 2))))) (B__law_day_rule_3 K G) mNext)
  (B__law_day_rule_7 K G))
@[reducible] def B__law_day_rule_9 (K : PySem.W.Frag) (G : Den) : MS := (mSeq (mIf (mAnd (mB (mOp fGt (mVar 1) (mC (.int 1)))) (mB (mOp fLt (mVar 2) (mC (.int 2))))) (B__law_day_rule_2 K G) mNext)
  (B__law_day_rule_8 K G))
def b__law_day_rule (K : PySem.W.Frag) (G : Den) : MS := (mSeq (mPar [2, 3] (mCons (mMv (mCall0 dDraw (mCons (mVar 0) (mCons (mC (.int 6)) mNil)))) (mCons (mMv (mOp fAdd (mC (.int 1)) (mCall0 dDraw (mCons (mVar 0) (mCons (mC (.int 12)) mNil))))) mNil)))
  (B__law_day_rule_9 K G))
def d__law_day_rule (K : PySem.W.Frag) : Nat → Den
  | 0 => fun _ _ _ _ => False
  | n + 1 => runF 2 5 (b__law_day_rule K (d__law_day_rule K n))
@[reducible] def B__law_year_1 (K : PySem.W.Frag) : MS := (mRet (mCall0 (d__law_pick K) (mCons (mVar 0) (mCons (mVar 2) mNil))))
@[reducible] def B__law_year_2 (K : PySem.W.Frag) : MS := (mSeq (mAsg 2 (mDis (fun ds => .lst ds) (mCons (mFz (mOp fAdd (mC (.int 2001)) (mCall0 dDraw (mCons (mVar 0) (mCons (mC (.int 28)) mNil))))) (mCons (mFz (mOp fAdd (mC (.int 1)) (mCall0 dDraw (mCons (mVar 0) (mCons (mC (.int 3000)) mNil))))) (mCons (mFz (mOp fAdd (mC (.int 2096)) (mCall0 dDraw (mCons (mVar 0) (mCons (mC (.int 10)) mNil))))) (mCons (mFz (mVar 1)) (mCons (mFz (mC (.int 1))) (mCons (mFz (mC (.int 2000))) (mCons (mFz (mC (.int 2072))) (mCons (mFz (mVar 1)) mNil))))))))))
  (B__law_year_1 K))
def b__law_year (K : PySem.W.Frag) : MS := (mSeq (mAsg 1 (mOp fAdd (mC (.int 1)) (mCall0 dDraw (mCons (mVar 0) (mCons (mOp fSub (mOp fPow (mC (.int 10)) (mC (.int 30))) (mC (.int 500))) mNil)))))
  (B__law_year_2 K))
def d__law_year (K : PySem.W.Frag) : Den := runF 1 3 (b__law_year K)
@[reducible] def B__law_date_1 (K : PySem.W.Frag) : MS := (mRet (mDis (fun ds => .dat (.tuple ds)) (mCons (mFz (mVar 1)) (mCons (mFz (mVar 2)) (mCons (mFz (mCall0 (d__law_pick K) (mCons (mVar 0) (mCons (mDis (fun ds => .lst ds) (mCons (mFz (mOp fAdd (mC (.int 1)) (mCall0 dDraw (mCons (mVar 0) (mCons (mVar 3) mNil))))) (mCons (mFz (mVar 3)) (mCons (mFz (mC (.int 1))) (mCons (mFz (mCB (fl2 fMin2) (mCons (mVar 3) (mCons (mC (.int 28)) mNil)))) mNil))))) mNil)))) mNil)))))
@[reducible] def B__law_date_2 (K : PySem.W.Frag) : MS := (mSeq (mAsg 3 (mCall0 (d__law_month K) (mCons (mVar 1) (mCons (mVar 2) mNil))))
  (B__law_date_1 K))
@[reducible] def B__law_date_3 (K : PySem.W.Frag) : MS := (mSeq (mAsg 2 (mCall0 (d__law_pick K) (mCons (mVar 0) (mCons (mDis (fun ds => .lst ds) (mCons (mFz (mOp fAdd (mC (.int 1)) (mCall0 dDraw (mCons (mVar 0) (mCons (mC (.int 12)) mNil))))) (mCons (mFz (mC (.int 2))) (mCons (mFz (mC (.int 12))) (mCons (mFz (mC (.int 1))) mNil))))) mNil))))
  (B__law_date_2 K))
def b__law_date (K : PySem.W.Frag) : MS := (mSeq (mAsg 1 (mCall0 (d__law_year K) (mCons (mVar 0) mNil)))
  (B__law_date_3 K))
def d__law_date (K : PySem.W.Frag) : Den := runF 1 4 (b__law_date K)
@[reducible] def B__law_calendar_1 (K : PySem.W.Frag) : ME := (mUn fTuple (mLc (mRng1 (mCons (mFz (mC (.int 7))) mNil)) (mgN 4) mYes (mCall0 (d__law_pick K) (mCons (mVar 0) (mCons (mSl (mVar 3) mONone (mOSome (mD (mC (.int 2))))) mNil))) [4]))
@[reducible] def B__law_calendar_2 (K : PySem.W.Frag) : ME := (mOp fMul (mDis (fun ds => .dat (.tuple ds)) (mCons (mFz (mOp fIx (mVar 3) (mC (.int 0)))) mNil)) (mC (.int 7)))
@[reducible] def B__law_calendar_3 (K : PySem.W.Frag) : MS := (mRet (mDis (fun ds => .dat (.tuple ds)) (mCons (mFz (mC (.str "calendar"))) (mCons (mFz (mVar 5)) (mCons (mFz (mVar 6)) (mCons (mFz (mUn fTuple (mLc (mIt (mVar 7)) (mgN 8) mYes (mDis (fun ds => .dat (.tuple ds)) (mCons (mFz (mVar 8)) (mCons (mFz (mCall0 (d__law_plan K) (mCons (mVar 0) (mCons (mVar 1) (mCons (mC (.int 3)) mNil))))) mNil))) [8]))) mNil))))))
@[reducible] def B__law_calendar_4 (K : PySem.W.Frag) : MS := (mSeq (mAsg 7 (mUn fSortSetT (mLc (mRng1 (mCons (mFz (mCall0 (d__law_pick K) (mCons (mVar 0) (mCons (mDis (fun ds => .lst ds) (mCons (mFz (mC (.int 0))) (mCons (mFz (mC (.int 1))) (mCons (mFz (mC (.int 2))) (mCons (mFz (mC (.int 8))) mNil))))) mNil)))) mNil)) (mgN 4) mYes (mCall0 (d__law_date K) (mCons (mVar 0) mNil)) [4])))
  (B__law_calendar_3 K))
@[reducible] def B__law_calendar_5 (K : PySem.W.Frag) : MS := (mSeq (mAsg 6 (mUn fTuple (mLc (mRng1 (mCons (mFz (mCall0 (d__law_pick K) (mCons (mVar 0) (mCons (mDis (fun ds => .lst ds) (mCons (mFz (mC (.int 2))) (mCons (mFz (mC (.int 1))) (mCons (mFz (mC (.int 4))) (mCons (mFz (mC (.int 8))) (mCons (mFz (mC (.int 0))) mNil)))))) mNil)))) mNil)) (mgN 4) mYes (mDis (fun ds => .dat (.tuple ds)) (mCons (mFz (mCall0 (d__law_day_rule K 5) (mCons (mVar 0) (mCons (mC (.int 4)) mNil)))) (mCons (mFz (mCall0 (d__law_plan K) (mCons (mVar 0) (mCons (mVar 1) (mCons (mC (.int 3)) mNil))))) mNil))) [4])))
  (B__law_calendar_4 K))
@[reducible] def B__law_calendar_6 (K : PySem.W.Frag) : MS := (mSeq (mAsg 5 (mIfE (mB (mVar 2)) (B__law_calendar_1 K) (B__law_calendar_2 K)))
  (B__law_calendar_5 K))
def b__law_calendar (K : PySem.W.Frag) : MS := (mSeq (mAsg 3 (mLc (mRng1 (mCons (mFz (mC (.int 3))) mNil)) (mgN 4) mYes (mCall0 (d__law_plan K) (mCons (mVar 0) (mCons (mVar 1) (mCons (mIfE (mB (mVar 2)) (mC (.int 4)) (mC (.int 1))) mNil)))) [4]))
  (B__law_calendar_6 K))
def d__law_calendar (K : PySem.W.Frag) : Den := runF 3 9 (b__law_calendar K)
@[reducible] def B__law_number_1 (K : PySem.W.Frag) : MS := (mRet (mOp fSub (mOp fAdd (mOp fSub (mOp fAdd (mOp fAdd (mOp fMul (mVar 6) (mC (.int 146097))) (mOp fMul (mVar 7) (mC (.int 365)))) (mOp fFdiv (mVar 7) (mC (.int 4)))) (mOp fFdiv (mVar 7) (mC (.int 100)))) (mVar 8)) (mC (.int 306))))
@[reducible] def B__law_number_2 (K : PySem.W.Frag) : MS := (mSeq (mAsg 8 (mOp fSub (mOp fAdd (mOp fFdiv (mOp fAdd (mOp fMul (mC (.int 153)) (mVar 5)) (mC (.int 2))) (mC (.int 5))) (mVar 3)) (mC (.int 1))))
  (B__law_number_1 K))
@[reducible] def B__law_number_3 (K : PySem.W.Frag) : MS := (mSeq (mPar [6, 7] (mCons (mMv (mOp fFdiv (mVar 4) (mC (.int 400)))) (mCons (mMv (mOp fSub (mVar 4) (mOp fMul (mOp fFdiv (mVar 4) (mC (.int 400))) (mC (.int 400))))) mNil)))
  (B__law_number_2 K))
@[reducible] def B__law_number_4 (K : PySem.W.Frag) : MS := (mSeq (mAsg 5 (mIfE (mB (mOp fGt (mVar 2) (mC (.int 2)))) (mOp fSub (mVar 2) (mC (.int 3))) (mOp fAdd (mVar 2) (mC (.int 9)))))
  (B__law_number_3 K))
@[reducible] def B__law_number_5 (K : PySem.W.Frag) : MS := (mSeq (mAsg 4 (mIfE (mB (mOp fLt (mVar 2) (mC (.int 3)))) (mOp fSub (mVar 1) (mC (.int 1))) (mVar 1)))
  (B__law_number_4 K))
def b__law_number (K : PySem.W.Frag) : MS := (mSeq (mAsgG (mgT 3 (mgCons (mgN 1) (mgCons (mgN 2) (mgCons (mgN 3) mgNil)))) (mD (mVar 0)))
  (B__law_number_5 K))
def d__law_number (K : PySem.W.Frag) : Den := runF 1 9 (b__law_number K)
@[reducible] def B__law_when_day_1 (K : PySem.W.Frag) (G : Den) : ME := (mCall0 (d__law_number K) (mCons (mDis (fun ds => .dat (.tuple ds)) (mCons (mFz (mVar 1)) (mCons (mFz (mOp fIx (mVar 0) (mC (.int 1)))) (mCons (mFz (mOp fIx (mVar 0) (mC (.int 2)))) mNil)))) mNil))
@[reducible] def B__law_when_day_2 (K : PySem.W.Frag) (G : Den) : MS := (mRet (mIfE (mB (mOp fLe (mOp fIx (mVar 0) (mC (.int 2))) (mCall0 (d__law_month K) (mCons (mVar 1) (mCons (mOp fIx (mVar 0) (mC (.int 1))) mNil))))) (B__law_when_day_1 K G) (mC .none)))
@[reducible] def B__law_when_day_3 (K : PySem.W.Frag) (G : Den) : MS := (mRet (mOp fIx (mVar 4) (mOp fSub (mCB (fl1 fLen) (mCons (mVar 4) mNil)) (mC (.int 1)))))
@[reducible] def B__law_when_day_4 (K : PySem.W.Frag) (G : Den) : MS := (mRet (mIfE (mB (mOp fLe (mOp fIx (mVar 0) (mC (.int 3))) (mCB (fl1 fLen) (mCons (mVar 4) mNil)))) (mOp fIx (mVar 4) (mOp fSub (mOp fIx (mVar 0) (mC (.int 3))) (mC (.int 1)))) (mC .none)))
@[reducible] def B__law_when_day_5 (K : PySem.W.Frag) (G : Den) : MS := (mSeq (mIf (mB (mOp fEq (mOp fIx (mVar 0) (mC (.int 3))) (mUn fNeg (mC (.int 1))))) (B__law_when_day_3 K G) mNext)
  (B__law_when_day_4 K G))
@[reducible] def B__law_when_day_6 (K : PySem.W.Frag) (G : Den) : MS := (mSeq (mAsg 4 (mLc (mRng1 (mCons (mFz (mVar 3)) mNil)) (mgN 5) (mB (mOp fEq (mOp fMod (mCB (fl1 fIntI) (mCons (mOp fAdd (mVar 2) (mVar 5)) mNil)) (mC (.int 7))) (mOp fIx (mVar 0) (mC (.int 2))))) (mOp fAdd (mVar 2) (mVar 5)) [5]))
  (B__law_when_day_5 K G))
@[reducible] def B__law_when_day_7 (K : PySem.W.Frag) (G : Den) : MS := (mSeq (mPar [2, 3] (mCons (mMv (mCall0 (d__law_number K) (mCons (mDis (fun ds => .dat (.tuple ds)) (mCons (mFz (mVar 1)) (mCons (mFz (mOp fIx (mVar 0) (mC (.int 1)))) (mCons (mFz (mC (.int 1))) mNil)))) mNil))) (mCons (mMv (mCall0 (d__law_month K) (mCons (mVar 1) (mCons (mOp fIx (mVar 0) (mC (.int 1))) mNil)))) mNil)))
  (B__law_when_day_6 K G))
@[reducible] def B__law_when_day_8 (K : PySem.W.Frag) (G : Den) : MT := (mB (mOp fNe (mOp fMod (mCB (fl1 fIntI) (mCons (mVar 6) mNil)) (mC (.int 7))) (mOp fIx (mVar 0) (mC (.int 2)))))
@[reducible] def B__law_when_day_9 (K : PySem.W.Frag) (G : Den) : MS := (mRet (mOp fAdd (mVar 6) (mOp fIx (mVar 0) (mOp fSub (mCB (fl1 fLen) (mCons (mVar 0) mNil)) (mC (.int 1))))))
@[reducible] def B__law_when_day_10 (K : PySem.W.Frag) (G : Den) : MS := (mSeq (mIf (mOr (mB (mOp fIsN (mVar 6) (mC .none))) (mAnd (mB (mOp fEq (mOp fIx (mVar 0) (mC (.int 0))) (mC (.str "moved")))) (B__law_when_day_8 K G))) (mRet (mVar 6)) mNext)
  (B__law_when_day_9 K G))
@[reducible] def B__law_when_day_11 (K : PySem.W.Frag) (G : Den) : MS := (mSeq (mAsg 6 (mCall0 G (mCons (mOp fIx (mVar 0) (mC (.int 1))) (mCons (mVar 1) mNil))))
  (B__law_when_day_10 K G))
@[reducible] def B__law_when_day_12 (K : PySem.W.Frag) (G : Den) : MS := (mSeq (mIf (mB (mOp fEq (mOp fIx (mVar 0) (mC (.int 0))) (mC (.str "nth")))) (B__law_when_day_7 K G) mNext)
  (B__law_when_day_11 K G))
def b__law_when_day (K : PySem.W.Frag) (G : Den) : MS := (mSeq (mIf (mB (mOp fEq (mOp fIx (mVar 0) (mC (.int 0))) (mC (.str "date")))) (B__law_when_day_2 K G) mNext)
  (B__law_when_day_12 K G))
def d__law_when_day (K : PySem.W.Frag) : Nat → Den
  | 0 => fun _ _ _ _ => False
  | n + 1 => runF 2 7 (b__law_when_day K (d__law_when_day K n))
@[reducible] def B__law_dated_1 (K : PySem.W.Frag) : MS := (mRet (mDis (fun ds => .dat (.tuple ds)) (mCons (mFz (mOp fAdd (mOp fAdd (mVar 4) (mOp fMul (mVar 2) (mC (.int 400)))) (mCB (fl1 fIntI) (mCons (mOp fLt (mVar 8) (mC (.int 3))) mNil)))) (mCons (mFz (mVar 8)) (mCons (mFz (mVar 7)) mNil)))))
@[reducible] def B__law_dated_2 (K : PySem.W.Frag) : MS := (mSeq (mPar [7, 8] (mCons (mMv (mOp fAdd (mOp fSub (mVar 5) (mOp fFdiv (mOp fAdd (mOp fMul (mC (.int 153)) (mVar 6)) (mC (.int 2))) (mC (.int 5)))) (mC (.int 1)))) (mCons (mMv (mIfE (mB (mOp fLt (mVar 6) (mC (.int 10)))) (mOp fAdd (mVar 6) (mC (.int 3))) (mOp fSub (mVar 6) (mC (.int 9))))) mNil)))
  (B__law_dated_1 K))
@[reducible] def B__law_dated_3 (K : PySem.W.Frag) : MS := (mSeq (mAsg 6 (mOp fFdiv (mOp fAdd (mOp fMul (mC (.int 5)) (mVar 5)) (mC (.int 2))) (mC (.int 153))))
  (B__law_dated_2 K))
@[reducible] def B__law_dated_4 (K : PySem.W.Frag) : MS := (mSeq (mAsg 5 (mOp fSub (mVar 3) (mOp fSub (mOp fAdd (mOp fMul (mC (.int 365)) (mVar 4)) (mOp fFdiv (mVar 4) (mC (.int 4)))) (mOp fFdiv (mVar 4) (mC (.int 100))))))
  (B__law_dated_3 K))
@[reducible] def B__law_dated_5 (K : PySem.W.Frag) : MS := (mSeq (mAsg 4 (mOp fFdiv (mOp fSub (mOp fAdd (mOp fSub (mVar 3) (mOp fFdiv (mVar 3) (mC (.int 1460)))) (mOp fFdiv (mVar 3) (mC (.int 36524)))) (mOp fFdiv (mVar 3) (mC (.int 146096)))) (mC (.int 365))))
  (B__law_dated_4 K))
@[reducible] def B__law_dated_6 (K : PySem.W.Frag) : MS := (mSeq (mPar [2, 3] (mCons (mMv (mOp fFdiv (mVar 1) (mC (.int 146097)))) (mCons (mMv (mOp fSub (mVar 1) (mOp fMul (mOp fFdiv (mVar 1) (mC (.int 146097))) (mC (.int 146097))))) mNil)))
  (B__law_dated_5 K))
def b__law_dated (K : PySem.W.Frag) : MS := (mSeq (mAsg 1 (mOp fAdd (mVar 0) (mC (.int 306))))
  (B__law_dated_6 K))
def d__law_dated (K : PySem.W.Frag) : Den := runF 1 9 (b__law_dated K)
@[reducible] def B_is_whole_1 (K : PySem.W.Frag) : ME := (mAndV (mB (mNotV (mB (mIsi Lk.isBool (mVar 0))))) (mChain fLe fLe (mD (mVar 1)) (mD (mVar 0)) (mD (mVar 2))))
def b_is_whole (K : PySem.W.Frag) : MS := (mRet (mAndV (mB (mIsi Lk.isInt (mVar 0))) (B_is_whole_1 K)))
def d_is_whole (K : PySem.W.Frag) : Den := runF 3 3 (b_is_whole K)
def b_need_year (K : PySem.W.Frag) : MS := (mIf (mNot (mB (mCall0 (d_is_whole K) (mCons (mVar 0) (mCons (mC (.int 1)) (mCons (mC k_LAST_YEAR) mNil)))))) (mRaise (He.ga K "BadYear")) mNext)
def d_need_year (K : PySem.W.Frag) : Den := runF 1 1 (b_need_year K)
@[reducible] def B_year_begin_1 (K : PySem.W.Frag) : MS := (mRet (mOp fAdd (mOp fSub (mOp fAdd (mOp fMul (mC (.int 365)) (mVar 1)) (mOp fFdiv (mVar 1) (mC (.int 4)))) (mOp fFdiv (mVar 1) (mC (.int 100)))) (mOp fFdiv (mVar 1) (mC (.int 400)))))
def b_year_begin (K : PySem.W.Frag) : MS := (mSeq (mAsg 1 (mOp fSub (mVar 0) (mC (.int 1))))
  (B_year_begin_1 K))
def d_year_begin (K : PySem.W.Frag) : Den := runF 1 2 (b_year_begin K)
def b_is_leap (K : PySem.W.Frag) : MS := (mRet (mOrV (mB (mAndV (mB (mOp fEq (mOp fMod (mVar 0) (mC (.int 4))) (mC (.int 0)))) (mOp fNe (mOp fMod (mVar 0) (mC (.int 100))) (mC (.int 0))))) (mOp fEq (mOp fMod (mVar 0) (mC (.int 400))) (mC (.int 0)))))
def d_is_leap (K : PySem.W.Frag) : Den := runF 1 1 (b_is_leap K)
def b_month_days (K : PySem.W.Frag) : MS := (mRet (mIfE (mAnd (mB (mOp fEq (mVar 1) (mC (.int 2)))) (mB (mCall0 (d_is_leap K) (mCons (mVar 0) mNil)))) (mC (.int 29)) (mOp fIx (mC k_LENGTHS) (mOp fSub (mVar 1) (mC (.int 1))))))
def d_month_days (K : PySem.W.Frag) : Den := runF 2 2 (b_month_days K)
def b_day_in_year (K : PySem.W.Frag) : MS := (mRet (mOp fSub (mOp fAdd (mCB (fl1 fSum) (mCons (mLc (mRng2 (mCons (mFz (mC (.int 1))) (mCons (mFz (mVar 1)) mNil))) (mgN 3) mYes (mCall0 (d_month_days K) (mCons (mVar 0) (mCons (mVar 3) mNil))) [3]) mNil)) (mVar 2)) (mC (.int 1))))
def d_day_in_year (K : PySem.W.Frag) : Den := runF 3 4 (b_day_in_year K)
@[reducible] def B_nth_day_1 (K : PySem.W.Frag) : MS := (mRet (mOp fIx (mVar 5) (mOp fSub (mCB (fl1 fLen) (mCons (mVar 5) mNil)) (mC (.int 1)))))
@[reducible] def B_nth_day_2 (K : PySem.W.Frag) : MS := (mRet (mIfE (mB (mOp fLe (mVar 3) (mCB (fl1 fLen) (mCons (mVar 5) mNil)))) (mOp fIx (mVar 5) (mOp fSub (mVar 3) (mC (.int 1)))) (mC .none)))
@[reducible] def B_nth_day_3 (K : PySem.W.Frag) : MS := (mSeq (mIf (mB (mOp fEq (mVar 3) (mUn fNeg (mC (.int 1))))) (B_nth_day_1 K) mNext)
  (B_nth_day_2 K))
@[reducible] def B_nth_day_4 (K : PySem.W.Frag) : MS := (mSeq (mAsg 5 (mLc (mRng1 (mCons (mFz (mCall0 (d_month_days K) (mCons (mVar 0) (mCons (mVar 1) mNil)))) mNil)) (mgN 6) (mB (mOp fEq (mOp fMod (mOp fAdd (mVar 4) (mVar 6)) (mC (.int 7))) (mVar 2))) (mOp fAdd (mVar 4) (mVar 6)) [6]))
  (B_nth_day_3 K))
def b_nth_day (K : PySem.W.Frag) : MS := (mSeq (mAsg 4 (mOp fAdd (mCall0 (d_year_begin K) (mCons (mVar 0) mNil)) (mCall0 (d_day_in_year K) (mCons (mVar 0) (mCons (mVar 1) (mCons (mC (.int 1)) mNil))))))
  (B_nth_day_4 K))
def d_nth_day (K : PySem.W.Frag) : Den := runF 4 7 (b_nth_day K)
@[reducible] def B_day_of_1 (K : PySem.W.Frag) (G : Den) : MS := (mRet (mOp fAdd (mCall0 (d_year_begin K) (mCons (mVar 1) mNil)) (mCall0 (d_day_in_year K) (mCons (mVar 1) (mCons (mOp fIx (mVar 0) (mC (.int 1))) (mCons (mOp fIx (mVar 0) (mC (.int 2))) mNil))))))
@[reducible] def B_day_of_2 (K : PySem.W.Frag) (G : Den) : MS := (mSeq (mIf (mAnd (mB (mOp fEq (mSl (mVar 0) (mOSome (mD (mC (.int 1)))) mONone) (mDis (fun ds => .dat (.tuple ds)) (mCons (mFz (mC (.int 2))) (mCons (mFz (mC (.int 29))) mNil))))) (mNot (mB (mCall0 (d_is_leap K) (mCons (mVar 1) mNil))))) (mRet (mC .none)) mNext)
  (B_day_of_1 K G))
@[reducible] def B_day_of_3 (K : PySem.W.Frag) (G : Den) : MS := (mRet (mCall0 (d_nth_day K) (mCons (mVar 1) (mCons (mOp fIx (mVar 0) (mC (.int 1))) (mCons (mOp fIx (mVar 0) (mC (.int 2))) (mCons (mOp fIx (mVar 0) (mC (.int 3))) mNil))))))
@[reducible] def B_day_of_4 (K : PySem.W.Frag) (G : Den) : MS := (mRet (mIfE (mB (mOp fEq (mOp fMod (mVar 2) (mC (.int 7))) (mOp fIx (mVar 0) (mC (.int 2))))) (mOp fAdd (mVar 2) (mOp fIx (mVar 0) (mC (.int 3)))) (mVar 2)))
@[reducible] def B_day_of_5 (K : PySem.W.Frag) (G : Den) : MS := (mSeq (mIf (mB (mOp fEq (mOp fIx (mVar 0) (mC (.int 0))) (mC (.str "shift")))) (mRet (mOp fAdd (mVar 2) (mOp fIx (mVar 0) (mC (.int 2))))) mNext)
  (B_day_of_4 K G))
@[reducible] def B_day_of_6 (K : PySem.W.Frag) (G : Den) : MS := (mSeq (mIf (mB (mOp fIsN (mVar 2) (mC .none))) (mRet (mC .none)) mNext)
  (B_day_of_5 K G))
@[reducible] def B_day_of_7 (K : PySem.W.Frag) (G : Den) : MS := (mSeq (mAsg 2 (mCall0 G (mCons (mOp fIx (mVar 0) (mC (.int 1))) (mCons (mVar 1) mNil))))
  (B_day_of_6 K G))
@[reducible] def B_day_of_8 (K : PySem.W.Frag) (G : Den) : MS := (mSeq (mIf (mB (mOp fEq (mOp fIx (mVar 0) (mC (.int 0))) (mC (.str "nth")))) (B_day_of_3 K G) mNext)
  (B_day_of_7 K G))
def b_day_of (K : PySem.W.Frag) (G : Den) : MS := (mSeq (mIf (mB (mOp fEq (mOp fIx (mVar 0) (mC (.int 0))) (mC (.str "date")))) (B_day_of_2 K G) mNext)
  (B_day_of_8 K G))
def d_day_of (K : PySem.W.Frag) : Nat → Den
  | 0 => fun _ _ _ _ => False
  | n + 1 => runF 2 3 (b_day_of K (d_day_of K n))
@[reducible] def B_month_and_day_1 (K : PySem.W.Frag) : MS := (mRet (mDis (fun ds => .dat (.tuple ds)) (mCons (mFz (mVar 2)) (mCons (mFz (mOp fAdd (mVar 1) (mC (.int 1)))) mNil))))
@[reducible] def B_month_and_day_2 (K : PySem.W.Frag) : MS := (mSeq (mWhile (mB (mOp fGe (mVar 1) (mCall0 (d_month_days K) (mCons (mVar 0) (mCons (mVar 2) mNil))))) (mSeq (mAug 1 (fun a b => a - b) (mD (mCall0 (d_month_days K) (mCons (mVar 0) (mCons (mVar 2) mNil)))))
  (mAug 2 (fun a b => a + b) (mD (mC (.int 1))))))
  (B_month_and_day_1 K))
def b_month_and_day (K : PySem.W.Frag) : MS := (mSeq (mAsg 2 (mC (.int 1)))
  (B_month_and_day_2 K))
def d_month_and_day (K : PySem.W.Frag) : Den := runF 2 3 (b_month_and_day K)
@[reducible] def B_date_at_1 (K : PySem.W.Frag) : MS := (mRet (mDis (fun ds => .dat (.tuple ds)) (mCons (mFz (mOp fAdd (mOp fMul (mC (.int 400)) (mVar 1)) (mVar 3))) (mStar (mCall0 (d_month_and_day K) (mCons (mVar 3) (mCons (mOp fSub (mVar 2) (mCall0 (d_year_begin K) (mCons (mVar 3) mNil))) mNil))) mNil))))
@[reducible] def B_date_at_2 (K : PySem.W.Frag) : MS := (mSeq (mWhile (mB (mOp fLe (mCall0 (d_year_begin K) (mCons (mOp fAdd (mVar 3) (mC (.int 1))) mNil)) (mVar 2))) (mAug 3 (fun a b => a + b) (mD (mC (.int 1)))))
  (B_date_at_1 K))
@[reducible] def B_date_at_3 (K : PySem.W.Frag) : MS := (mSeq (mAsg 3 (mOp fAdd (mC (.int 1)) (mOp fFdiv (mVar 2) (mC (.int 366)))))
  (B_date_at_2 K))
def b_date_at (K : PySem.W.Frag) : MS := (mSeq (mPar [1, 2] (mCons (mMv (mOp fFdiv (mVar 0) (mC k_ROUND_DAYS))) (mCons (mMv (mOp fMod (mVar 0) (mC k_ROUND_DAYS))) mNil)))
  (B_date_at_3 K))
def d_date_at (K : PySem.W.Frag) : Den := runF 1 4 (b_date_at K)
@[reducible] def B_is_when_of_1 (K : PySem.W.Frag) (G : Den) : MT := (mOr (mB (mOp fEq (mVar 0) (mDis (fun ds => .dat (.tuple ds)) mNil))) (mNot (mB (mIsi Lk.isStr (mOp fIx (mVar 0) (mC (.int 0)))))))
@[reducible] def B_is_when_of_2 (K : PySem.W.Frag) (G : Den) : ME := (mCall0 (d_is_whole K) (mCons (mOp fIx (mVar 0) (mC (.int 2))) (mCons (mC (.int 1)) (mCons (mCall0 (d_month_days K) (mCons (mC (.int 2000)) (mCons (mOp fIx (mVar 0) (mC (.int 1))) mNil))) mNil))))
@[reducible] def B_is_when_of_3 (K : PySem.W.Frag) (G : Den) : ME := (mAndV (mB (mCall0 (d_is_whole K) (mCons (mOp fIx (mVar 0) (mC (.int 1))) (mCons (mC (.int 1)) (mCons (mC (.int 12)) mNil))))) (B_is_when_of_2 K G))
@[reducible] def B_is_when_of_4 (K : PySem.W.Frag) (G : Den) : MS := (mRet (mAndV (mB (mOp fEq (mCB (fl1 fLen) (mCons (mVar 0) mNil)) (mC (.int 3)))) (B_is_when_of_3 K G)))
@[reducible] def B_is_when_of_5 (K : PySem.W.Frag) (G : Den) : MT := (mNot (mB (mCall0 (d_is_whole K) (mCons (mOp fIx (mVar 0) (mC (.int 2))) (mCons (mC (.int 0)) (mCons (mC (.int 6)) mNil))))))
@[reducible] def B_is_when_of_6 (K : PySem.W.Frag) (G : Den) : MT := (mOr (mNot (mB (mCall0 (d_is_whole K) (mCons (mOp fIx (mVar 0) (mC (.int 1))) (mCons (mC (.int 1)) (mCons (mC (.int 12)) mNil)))))) (B_is_when_of_5 K G))
@[reducible] def B_is_when_of_7 (K : PySem.W.Frag) (G : Den) : MS := (mRet (mAndV (mB (mCall0 (d_is_whole K) (mCons (mOp fIx (mVar 0) (mC (.int 3))) (mCons (mUn fNeg (mC (.int 1))) (mCons (mC (.int 5)) mNil))))) (mOp fNe (mOp fIx (mVar 0) (mC (.int 3))) (mC (.int 0)))))
@[reducible] def B_is_when_of_8 (K : PySem.W.Frag) (G : Den) : MS := (mSeq (mIf (mOr (mB (mOp fNe (mCB (fl1 fLen) (mCons (mVar 0) mNil)) (mC (.int 4)))) (B_is_when_of_6 K G)) (mRet (mC (.bool false))) mNext)
  (B_is_when_of_7 K G))
@[reducible] def B_is_when_of_9 (K : PySem.W.Frag) (G : Den) : ME := (mAndV (mB (mCall0 (d_is_whole K) (mCons (mOp fIx (mVar 0) (mC (.int 2))) (mCons (mUn fNeg (mC (.int 40))) (mCons (mC (.int 40)) mNil))))) (mOp fNe (mOp fIx (mVar 0) (mC (.int 2))) (mC (.int 0))))
@[reducible] def B_is_when_of_10 (K : PySem.W.Frag) (G : Den) : ME := (mAndV (mB (mCall0 G (mCons (mOp fIx (mVar 0) (mC (.int 1))) (mCons (mOp fSub (mVar 1) (mC (.int 1))) mNil)))) (B_is_when_of_9 K G))
@[reducible] def B_is_when_of_11 (K : PySem.W.Frag) (G : Den) : MS := (mRet (mAndV (mB (mOp fEq (mCB (fl1 fLen) (mCons (mVar 0) mNil)) (mC (.int 3)))) (B_is_when_of_10 K G)))
@[reducible] def B_is_when_of_12 (K : PySem.W.Frag) (G : Den) : MT := (mNot (mB (mCall0 (d_is_whole K) (mCons (mOp fIx (mVar 0) (mC (.int 2))) (mCons (mC (.int 0)) (mCons (mC (.int 6)) mNil))))))
@[reducible] def B_is_when_of_13 (K : PySem.W.Frag) (G : Den) : MT := (mOr (mNot (mB (mCall0 G (mCons (mOp fIx (mVar 0) (mC (.int 1))) (mCons (mOp fSub (mVar 1) (mC (.int 1))) mNil))))) (B_is_when_of_12 K G))
@[reducible] def B_is_when_of_14 (K : PySem.W.Frag) (G : Den) : MS := (mRet (mAndV (mB (mCall0 (d_is_whole K) (mCons (mOp fIx (mVar 0) (mC (.int 3))) (mCons (mUn fNeg (mC (.int 6))) (mCons (mC (.int 6)) mNil))))) (mOp fNe (mOp fIx (mVar 0) (mC (.int 3))) (mC (.int 0)))))
@[reducible] def B_is_when_of_15 (K : PySem.W.Frag) (G : Den) : MS := (mSeq (mIf (mOr (mB (mOp fNe (mCB (fl1 fLen) (mCons (mVar 0) mNil)) (mC (.int 4)))) (B_is_when_of_13 K G)) (mRet (mC (.bool false))) mNext)
  (B_is_when_of_14 K G))
@[reducible] def B_is_when_of_16 (K : PySem.W.Frag) (G : Den) : MS := (mSeq (mIf (mB (mOp fEq (mOp fIx (mVar 0) (mC (.int 0))) (mC (.str "moved")))) (B_is_when_of_15 K G) mNext)
  (mRet (mC (.bool false))))
@[reducible] def B_is_when_of_17 (K : PySem.W.Frag) (G : Den) : MS := (mSeq (mIf (mB (mOp fEq (mOp fIx (mVar 0) (mC (.int 0))) (mC (.str "shift")))) (B_is_when_of_11 K G) mNext)
  (B_is_when_of_16 K G))
@[reducible] def B_is_when_of_18 (K : PySem.W.Frag) (G : Den) : MS := (mSeq (mIf (mB (mOp fEq (mOp fIx (mVar 0) (mC (.int 0))) (mC (.str "nth")))) (B_is_when_of_8 K G) mNext)
  (B_is_when_of_17 K G))
@[reducible] def B_is_when_of_19 (K : PySem.W.Frag) (G : Den) : MS := (mSeq (mIf (mB (mOp fEq (mOp fIx (mVar 0) (mC (.int 0))) (mC (.str "date")))) (B_is_when_of_4 K G) mNext)
  (B_is_when_of_18 K G))
def b_is_when_of (K : PySem.W.Frag) (G : Den) : MS := (mSeq (mIf (mOr (mNot (mB (mIsi Lk.isTup (mVar 0)))) (mOr (mB (mOp fEq (mVar 1) (mC (.int 0)))) (B_is_when_of_1 K G))) (mRet (mC (.bool false))) mNext)
  (B_is_when_of_19 K G))
def d_is_when_of (K : PySem.W.Frag) : Nat → Den
  | 0 => fun _ _ _ _ => False
  | n + 1 => runF 2 2 (b_is_when_of K (d_is_when_of K n))
def b_is_when (K : PySem.W.Frag) : MS := (mRet (mCall0 (d_is_when_of K 5) (mCons (mVar 0) (mCons (mC k_DEEPEST) mNil))))
def d_is_when (K : PySem.W.Frag) : Den := runF 1 1 (b_is_when K)
@[reducible] def B_told_day_1 (K : PySem.W.Frag) : MT := (mNot (mB (mChain fLe fLt (mD (mC (.int 0))) (mD (mVar 2)) (mD (mCall0 (d_year_begin K) (mCons (mOp fAdd (mC k_LAST_YEAR) (mC (.int 1))) mNil))))))
@[reducible] def B_told_day_2 (K : PySem.W.Frag) : MS := (mSeq (mIf (mOr (mB (mOp fIsN (mVar 2) (mC .none))) (B_told_day_1 K)) (mRet (mC .none)) mNext)
  (mRet (mCall0 (d_date_at K) (mCons (mVar 2) mNil))))
@[reducible] def B_told_day_3 (K : PySem.W.Frag) : MS := (mSeq (mAsg 2 (mCall0 (d_day_of K 4) (mCons (mVar 0) (mCons (mVar 1) mNil))))
  (B_told_day_2 K))
@[reducible] def B_told_day_4 (K : PySem.W.Frag) : MS := (mSeq (mDrop (mCall (d_need_year K) (mCons (mVar 1) mNil)))
  (B_told_day_3 K))
def b_told_day (K : PySem.W.Frag) : MS := (mSeq (mIf (mNot (mB (mCall0 (d_is_when K) (mCons (mVar 0) mNil)))) (mRaise (He.ga K "BadWhen")) mNext)
  (B_told_day_4 K))
def d_told_day (K : PySem.W.Frag) : Den := runF 2 3 (b_told_day K)
@[reducible] def B__law_bent_1 (K : PySem.W.Frag) (G : Den) : MT := (mOr (mB (mOp fEq (mVar 2) (mC (.int 0)))) (mB (mOp fEq (mCB (fl1 fLen) (mCons (mVar 1) mNil)) (mC (.int 0)))))
@[reducible] def B__law_bent_2 (K : PySem.W.Frag) (G : Den) : ME := (mDis (fun ds => .lst ds) (mCons (mFz (mOp fAdd (mVar 1) (mC (.int 1)))) (mCons (mFz (mOp fSub (mVar 1) (mC (.int 1)))) mNil)))
@[reducible] def B__law_bent_3 (K : PySem.W.Frag) (G : Den) : ME := (mDis (fun ds => .lst ds) (mCons (mFz (mDis (fun ds => .dat (.tuple ds)) (mCons (mFz (mVar 1)) mNil))) (mCons (mFz (mVar 1)) mNil)))
@[reducible] def B__law_bent_4 (K : PySem.W.Frag) (G : Den) : MS := (mRet (mCall0 (d__law_pick K) (mCons (mVar 0) (mCons (mOp fAdd (mVar 3) (mIfE (mB (mIsi Lk.isInt (mVar 1))) (B__law_bent_2 K G) (B__law_bent_3 K G))) mNil))))
@[reducible] def B__law_bent_5 (K : PySem.W.Frag) (G : Den) : MS := (mSeq (mAsg 3 (mDis (fun ds => .lst ds) (mCons (mFz (mC .none)) (mCons (mFz (mC (.str ""))) (mCons (mFz (mC (.str "any"))) (mCons (mFz (mC (.int 0))) (mCons (mFz (mC (.int 1))) (mCons (mFz (mC (.int 5))) (mCons (mFz (mUn fNeg (mC (.int 1)))) (mCons (mFz (mC (.int 7))) (mCons (mFz (mC (.int 24))) (mCons (mFz (mC (.int 41))) (mCons (mFz (mC (.bool true))) (mCons (mFz (mC (.str "shift"))) (mCons (mFz (mC (.str "date"))) (mCons (mFz (mC (.str "day"))) (mCons (mFz (mDis (fun ds => .dat (.tuple ds)) mNil)) (mCons (mFz (mDis (fun ds => .lst ds) (mCons (mFz (mVar 1)) mNil))) (mCons (mFz mDNew) (mCons (mFz (mDis (fun ds => .dat (.tuple ds)) (mCons (mFz (mDis (fun ds => .dat (.tuple ds)) (mCons (mFz (mC (.int 0))) (mCons (mFz (mC (.str "day"))) mNil)))) mNil))) mNil))))))))))))))))))))
  (B__law_bent_4 K G))
@[reducible] def B__law_bent_6 (K : PySem.W.Frag) (G : Den) : MS := (mRet (mOp fAdd (mSl (mVar 1) mONone (mOSome (mD (mVar 4)))) (mSl (mVar 1) (mOSome (mD (mOp fAdd (mVar 4) (mC (.int 1))))) mONone)))
@[reducible] def B__law_bent_7 (K : PySem.W.Frag) (G : Den) : MS := (mRet (mOp fAdd (mOp fAdd (mSl (mVar 1) mONone (mOSome (mD (mVar 4)))) (mDis (fun ds => .dat (.tuple ds)) (mCons (mFz (mOp fIx (mVar 1) (mVar 4))) mNil))) (mSl (mVar 1) (mOSome (mD (mVar 4))) mONone)))
@[reducible] def B__law_bent_8 (K : PySem.W.Frag) (G : Den) : MS := (mRet (mOp fAdd (mOp fAdd (mSl (mVar 1) mONone (mOSome (mD (mOp fSub (mVar 4) (mC (.int 1)))))) (mDis (fun ds => .dat (.tuple ds)) (mCons (mFz (mOp fIx (mVar 1) (mVar 4))) (mCons (mFz (mOp fIx (mVar 1) (mOp fSub (mVar 4) (mC (.int 1))))) mNil)))) (mSl (mVar 1) (mOSome (mD (mOp fAdd (mVar 4) (mC (.int 1))))) mONone)))
@[reducible] def B__law_bent_9 (K : PySem.W.Frag) (G : Den) : MS := (mRet (mOp fAdd (mOp fAdd (mSl (mVar 1) mONone (mOSome (mD (mVar 4)))) (mDis (fun ds => .dat (.tuple ds)) (mCons (mFz (mCall0 G (mCons (mVar 0) (mCons (mOp fIx (mVar 1) (mVar 4)) mNil)))) mNil))) (mSl (mVar 1) (mOSome (mD (mOp fAdd (mVar 4) (mC (.int 1))))) mONone)))
@[reducible] def B__law_bent_10 (K : PySem.W.Frag) (G : Den) : MS := (mSeq (mIf (mAnd (mB (mOp fEq (mVar 2) (mC (.int 3)))) (mB (mOp fGt (mVar 4) (mC (.int 0))))) (B__law_bent_8 K G) mNext)
  (B__law_bent_9 K G))
@[reducible] def B__law_bent_11 (K : PySem.W.Frag) (G : Den) : MS := (mSeq (mIf (mB (mOp fEq (mVar 2) (mC (.int 2)))) (B__law_bent_7 K G) mNext)
  (B__law_bent_10 K G))
@[reducible] def B__law_bent_12 (K : PySem.W.Frag) (G : Den) : MS := (mSeq (mIf (mB (mOp fEq (mVar 2) (mC (.int 1)))) (B__law_bent_6 K G) mNext)
  (B__law_bent_11 K G))
@[reducible] def B__law_bent_13 (K : PySem.W.Frag) (G : Den) : MS := (mSeq (mAsg 4 (mCall0 dDraw (mCons (mVar 0) (mCons (mCB (fl1 fLen) (mCons (mVar 1) mNil)) mNil))))
  (B__law_bent_12 K G))
@[reducible] def B__law_bent_14 (K : PySem.W.Frag) (G : Den) : MS := (mSeq (mIf (mOr (mNot (mB (mIsi Lk.isTup (mVar 1)))) (B__law_bent_1 K G)) (B__law_bent_5 K G) mNext)
  (B__law_bent_13 K G))
def b__law_bent (K : PySem.W.Frag) (G : Den) : MS := (mSeq (mAsg 2 (mCall0 dDraw (mCons (mVar 0) (mCons (mC (.int 7)) mNil))))
  (B__law_bent_14 K G))
def d__law_bent (K : PySem.W.Frag) : Nat → Den
  | 0 => fun _ _ _ _ => False
  | n + 1 => runF 2 5 (b__law_bent K (d__law_bent K n))
@[reducible] def B__law_is_int_1 (K : PySem.W.Frag) : ME := (mAndV (mB (mNotV (mB (mIsi Lk.isBool (mVar 0))))) (mChain fLe fLe (mD (mVar 1)) (mD (mVar 0)) (mD (mVar 2))))
def b__law_is_int (K : PySem.W.Frag) : MS := (mRet (mAndV (mB (mIsi Lk.isInt (mVar 0))) (B__law_is_int_1 K)))
def d__law_is_int (K : PySem.W.Frag) : Den := runF 3 3 (b__law_is_int K)
@[reducible] def B__law_is_rule_day_1 (K : PySem.W.Frag) (G : Den) : MT := (mOr (mB (mOp fLt (mCB (fl1 fLen) (mCons (mVar 0) mNil)) (mC (.int 3)))) (mNot (mB (mIsi Lk.isStr (mOp fIx (mVar 0) (mC (.int 0)))))))
@[reducible] def B__law_is_rule_day_2 (K : PySem.W.Frag) (G : Den) : MT := (mB (mCall0 (d__law_is_int K) (mCons (mOp fIx (mVar 0) (mC (.int 1))) (mCons (mC (.int 1)) (mCons (mC (.int 12)) mNil)))))
@[reducible] def B__law_is_rule_day_3 (K : PySem.W.Frag) (G : Den) : MT := (mAnd (mB (mOp fEq (mCB (fl1 fLen) (mCons (mVar 0) mNil)) (mC (.int 3)))) (B__law_is_rule_day_2 K G))
@[reducible] def B__law_is_rule_day_4 (K : PySem.W.Frag) (G : Den) : MS := (mRet (mCall0 (d__law_is_int K) (mCons (mOp fIx (mVar 0) (mC (.int 2))) (mCons (mC (.int 1)) (mCons (mCall0 (d__law_month K) (mCons (mC (.int 2000)) (mCons (mOp fIx (mVar 0) (mC (.int 1))) mNil))) mNil)))))
@[reducible] def B__law_is_rule_day_5 (K : PySem.W.Frag) (G : Den) : ME := (mCall0 (d__law_is_int K) (mCons (mOp fIx (mVar 0) (mC (.int 3))) (mCons (mUn fNeg (mC (.int 1))) (mCons (mUn fNeg (mC (.int 1))) mNil))))
@[reducible] def B__law_is_rule_day_6 (K : PySem.W.Frag) (G : Den) : ME := (mOrV (mB (mCall0 (d__law_is_int K) (mCons (mOp fIx (mVar 0) (mC (.int 3))) (mCons (mC (.int 1)) (mCons (mC (.int 5)) mNil))))) (B__law_is_rule_day_5 K G))
@[reducible] def B__law_is_rule_day_7 (K : PySem.W.Frag) (G : Den) : ME := (mAndV (mB (mCall0 (d__law_is_int K) (mCons (mOp fIx (mVar 0) (mC (.int 2))) (mCons (mC (.int 0)) (mCons (mC (.int 6)) mNil))))) (B__law_is_rule_day_6 K G))
@[reducible] def B__law_is_rule_day_8 (K : PySem.W.Frag) (G : Den) : MS := (mRet (mAndV (mB (mCall0 (d__law_is_int K) (mCons (mOp fIx (mVar 0) (mC (.int 1))) (mCons (mC (.int 1)) (mCons (mC (.int 12)) mNil))))) (B__law_is_rule_day_7 K G)))
@[reducible] def B__law_is_rule_day_9 (K : PySem.W.Frag) (G : Den) : ME := (mAndV (mB (mOp fNe (mOp fIx (mVar 0) (mC (.int 2))) (mC (.int 0)))) (mCall0 G (mCons (mOp fIx (mVar 0) (mC (.int 1))) (mCons (mOp fSub (mVar 1) (mC (.int 1))) mNil))))
@[reducible] def B__law_is_rule_day_10 (K : PySem.W.Frag) (G : Den) : MS := (mRet (mAndV (mB (mCall0 (d__law_is_int K) (mCons (mOp fIx (mVar 0) (mC (.int 2))) (mCons (mUn fNeg (mC (.int 40))) (mCons (mC (.int 40)) mNil))))) (B__law_is_rule_day_9 K G)))
@[reducible] def B__law_is_rule_day_11 (K : PySem.W.Frag) (G : Den) : ME := (mCall0 (d__law_is_int K) (mCons (mOp fIx (mVar 0) (mC (.int 2))) (mCons (mC (.int 0)) (mCons (mC (.int 6)) mNil))))
@[reducible] def B__law_is_rule_day_12 (K : PySem.W.Frag) (G : Den) : MS := (mRet (mAndV (mB (mVar 2)) (mCall0 G (mCons (mOp fIx (mVar 0) (mC (.int 1))) (mCons (mOp fSub (mVar 1) (mC (.int 1))) mNil)))))
@[reducible] def B__law_is_rule_day_13 (K : PySem.W.Frag) (G : Den) : MS := (mSeq (mAsg 2 (mAndV (mB (mCall0 (d__law_is_int K) (mCons (mOp fIx (mVar 0) (mC (.int 3))) (mCons (mUn fNeg (mC (.int 6))) (mCons (mC (.int 6)) mNil))))) (mAndV (mB (mOp fNe (mOp fIx (mVar 0) (mC (.int 3))) (mC (.int 0)))) (B__law_is_rule_day_11 K G))))
  (B__law_is_rule_day_12 K G))
@[reducible] def B__law_is_rule_day_14 (K : PySem.W.Frag) (G : Den) : MS := (mSeq (mIf (mAnd (mB (mOp fEq (mOp fIx (mVar 0) (mC (.int 0))) (mC (.str "moved")))) (mB (mOp fEq (mCB (fl1 fLen) (mCons (mVar 0) mNil)) (mC (.int 4))))) (B__law_is_rule_day_13 K G) mNext)
  (mRet (mC (.bool false))))
@[reducible] def B__law_is_rule_day_15 (K : PySem.W.Frag) (G : Den) : MS := (mSeq (mIf (mAnd (mB (mOp fEq (mOp fIx (mVar 0) (mC (.int 0))) (mC (.str "shift")))) (mB (mOp fEq (mCB (fl1 fLen) (mCons (mVar 0) mNil)) (mC (.int 3))))) (B__law_is_rule_day_10 K G) mNext)
  (B__law_is_rule_day_14 K G))
@[reducible] def B__law_is_rule_day_16 (K : PySem.W.Frag) (G : Den) : MS := (mSeq (mIf (mAnd (mB (mOp fEq (mOp fIx (mVar 0) (mC (.int 0))) (mC (.str "nth")))) (mB (mOp fEq (mCB (fl1 fLen) (mCons (mVar 0) mNil)) (mC (.int 4))))) (B__law_is_rule_day_8 K G) mNext)
  (B__law_is_rule_day_15 K G))
@[reducible] def B__law_is_rule_day_17 (K : PySem.W.Frag) (G : Den) : MS := (mSeq (mIf (mAnd (mB (mOp fEq (mOp fIx (mVar 0) (mC (.int 0))) (mC (.str "date")))) (B__law_is_rule_day_3 K G)) (B__law_is_rule_day_4 K G) mNext)
  (B__law_is_rule_day_16 K G))
def b__law_is_rule_day (K : PySem.W.Frag) (G : Den) : MS := (mSeq (mIf (mOr (mNot (mB (mIsi Lk.isTup (mVar 0)))) (mOr (mB (mOp fEq (mVar 1) (mC (.int 0)))) (B__law_is_rule_day_1 K G))) (mRet (mC (.bool false))) mNext)
  (B__law_is_rule_day_17 K G))
def d__law_is_rule_day (K : PySem.W.Frag) : Nat → Den
  | 0 => fun _ _ _ _ => False
  | n + 1 => runF 2 3 (b__law_is_rule_day K (d__law_is_rule_day K n))
@[reducible] def B__law_told_right_1 (K : PySem.W.Frag) : MT := (mB (mChain fLe fLe (mD (mC (.int 0))) (mD (mVar 5)) (mD (mCall0 (d__law_number K) (mCons (mDis (fun ds => .dat (.tuple ds)) (mCons (mFz (mOp fPow (mC (.int 10)) (mC (.int 30)))) (mCons (mFz (mC (.int 12))) (mCons (mFz (mC (.int 31))) mNil)))) mNil)))))
@[reducible] def B__law_told_right_2 (K : PySem.W.Frag) : MS := (mIf (mB (mOp fNe (mCall0 (swap2 (d_told_day K)) (mCons (mVar 2) (mCons (mVar 3) mNil))) (mVar 6))) (mRet (mC (.bool false))) mNext)
@[reducible] def B__law_told_right_3 (K : PySem.W.Frag) : MS := (mSeq (mAsg 6 (mIfE (mAnd (mB (mOp fNotN (mVar 5) (mC .none))) (B__law_told_right_1 K)) (mCall0 (d__law_dated K) (mCons (mVar 5) mNil)) (mC .none)))
  (B__law_told_right_2 K))
@[reducible] def B__law_told_right_4 (K : PySem.W.Frag) : MS := (mSeq (mAsg 5 (mCall0 (d__law_when_day K 4) (mCons (mVar 3) (mCons (mVar 2) mNil))))
  (B__law_told_right_3 K))
@[reducible] def B__law_told_right_5 (K : PySem.W.Frag) : MT := (mNot (mB (mIsE K (He.ga K "BadWhen") (mCaught K (He.ga K "KeptError") (mCall (d_told_day K) (mCons (mVar 7) (mCons (mVar 2) mNil)))))))
@[reducible] def B__law_told_right_6 (K : PySem.W.Frag) : MS := (mRet (mIsE K (He.ga K "BadYear") (mCaught K (He.ga K "KeptError") (mCall (d_told_day K) (mCons (mVar 3) (mCons (mVar 8) mNil))))))
@[reducible] def B__law_told_right_7 (K : PySem.W.Frag) : MS := (mSeq (mAsg 8 (mCall0 (d__law_pick K) (mCons (mVar 0) (mCons (mDis (fun ds => .lst ds) (mCons (mFz (mC (.int 0))) (mCons (mFz (mC .none)) (mCons (mFz (mC (.bool true))) (mCons (mFz (mOp fAdd (mOp fPow (mC (.int 10)) (mC (.int 30))) (mC (.int 1)))) (mCons (mFz (mC (.str "2001"))) mNil)))))) mNil))))
  (B__law_told_right_6 K))
@[reducible] def B__law_told_right_8 (K : PySem.W.Frag) : MS := (mSeq (mIf (mAnd (mNot (mB (mCall0 (d__law_is_rule_day K 5) (mCons (mVar 7) (mCons (mC (.int 4)) mNil))))) (B__law_told_right_5 K)) (mRet (mC (.bool false))) mNext)
  (B__law_told_right_7 K))
@[reducible] def B__law_told_right_9 (K : PySem.W.Frag) : MS := (mSeq (mAsg 7 (mCall0 (d__law_pick K) (mCons (mVar 0) (mCons (mDis (fun ds => .lst ds) (mCons (mFz (mDis (fun ds => .dat (.tuple ds)) (mCons (mFz (mC (.str "shift"))) (mCons (mFz (mDis (fun ds => .dat (.tuple ds)) (mCons (mFz (mC (.str "shift"))) (mCons (mFz (mDis (fun ds => .dat (.tuple ds)) (mCons (mFz (mC (.str "moved"))) (mCons (mFz (mDis (fun ds => .dat (.tuple ds)) (mCons (mFz (mC (.str "shift"))) (mCons (mFz (mVar 3)) (mCons (mFz (mC (.int 1))) mNil))))) (mCons (mFz (mC (.int 3))) (mCons (mFz (mC (.int 1))) mNil)))))) (mCons (mFz (mC (.int 1))) mNil))))) (mCons (mFz (mC (.int 1))) mNil))))) (mCons (mFz (mCall0 (d__law_bent K 9) (mCons (mVar 0) (mCons (mVar 3) mNil)))) (mCons (mFz (mSl (mVar 3) mONone (mOSome (mD (mC (.int 2)))))) (mCons (mFz (mC .none)) mNil))))) mNil))))
  (B__law_told_right_8 K))
@[reducible] def B__law_told_right_10 (K : PySem.W.Frag) : MS := (mSeq (mAsg 3 (mCall0 (d__law_day_rule K 5) (mCons (mVar 0) (mCons (mC (.int 4)) mNil))))
  (B__law_told_right_9 K))
def b__law_told_right (K : PySem.W.Frag) : MS := (mSeq (mFor (mIt (mOp fIx (mVar 1) (mC (.int 2)))) (mgT 2 (mgCons (mgN 3) (mgCons (mgN 4) mgNil))) (B__law_told_right_4 K))
  (B__law_told_right_10 K))
def d__law_told_right (K : PySem.W.Frag) : Den := runF 3 9 (b__law_told_right K)
@[reducible] def B_is_date_1 (K : PySem.W.Frag) : MT := (mNot (mB (mCall0 (d_is_whole K) (mCons (mOp fIx (mVar 0) (mC (.int 1))) (mCons (mC (.int 1)) (mCons (mC (.int 12)) mNil))))))
@[reducible] def B_is_date_2 (K : PySem.W.Frag) : MS := (mRet (mCall0 (d_is_whole K) (mCons (mOp fIx (mVar 0) (mC (.int 2))) (mCons (mC (.int 1)) (mCons (mCall0 (d_month_days K) (mCons (mOp fIx (mVar 0) (mC (.int 0))) (mCons (mOp fIx (mVar 0) (mC (.int 1))) mNil))) mNil)))))
@[reducible] def B_is_date_3 (K : PySem.W.Frag) : MS := (mSeq (mIf (mOr (mNot (mB (mCall0 (d_is_whole K) (mCons (mOp fIx (mVar 0) (mC (.int 0))) (mCons (mC (.int 1)) (mCons (mC k_LAST_YEAR) mNil)))))) (B_is_date_1 K)) (mRet (mC (.bool false))) mNext)
  (B_is_date_2 K))
def b_is_date (K : PySem.W.Frag) : MS := (mSeq (mIf (mOr (mNot (mB (mIsi Lk.isTup (mVar 0)))) (mB (mOp fNe (mCB (fl1 fLen) (mCons (mVar 0) mNil)) (mC (.int 3))))) (mRet (mC (.bool false))) mNext)
  (B_is_date_3 K))
def d_is_date (K : PySem.W.Frag) : Den := runF 1 1 (b_is_date K)
@[reducible] def B_is_name_1 (K : PySem.W.Frag) : MT := (mOr (mNot (mB (mChain fLe fLe (mD (mC (.int 1))) (mD (mCB (fl1 fLen) (mCons (mVar 0) mNil))) (mD (mC (.int 8)))))) (mB (mOp fEq (mVar 0) (mC (.str "any")))))
@[reducible] def B_is_name_2 (K : PySem.W.Frag) : MS := (mRet (mCB (fl1 fAll) (mCons (mLc (mIt (mVar 0)) (mgN 1) mYes (mOp fIn (mVar 1) (mC k_LETTERS)) [1]) mNil)))
def b_is_name (K : PySem.W.Frag) : MS := (mSeq (mIf (mOr (mNot (mB (mIsi Lk.isStr (mVar 0)))) (B_is_name_1 K)) (mRet (mC (.bool false))) mNext)
  (B_is_name_2 K))
def d_is_name (K : PySem.W.Frag) : Den := runF 1 2 (b_is_name K)
@[reducible] def B_is_plan_of_1 (K : PySem.W.Frag) : MT := (mNot (mB (mChain fLe fLe (mD (mC (.int 1))) (mD (mCB (fl1 fLen) (mCons (mVar 0) mNil))) (mD (mVar 1)))))
@[reducible] def B_is_plan_of_2 (K : PySem.W.Frag) : MT := (mNot (mB (mCall0 (d_is_whole K) (mCons (mOp fIx (mVar 4) (mC (.int 0))) (mCons (mOp fAdd (mVar 2) (mC (.int 1))) (mCons (mC (.int 23)) mNil))))))
@[reducible] def B_is_plan_of_3 (K : PySem.W.Frag) : MS := (mAsgG (mgT 2 (mgCons (mgN 2) (mgCons (mgN 3) mgNil))) (mD (mVar 4)))
@[reducible] def B_is_plan_of_4 (K : PySem.W.Frag) : MS := (mSeq (mIf (mOr (mNot (mB (mCall0 (d_is_name K) (mCons (mOp fIx (mVar 4) (mC (.int 1))) mNil)))) (mB (mOp fEq (mOp fIx (mVar 4) (mC (.int 1))) (mVar 3)))) (mRet (mC (.bool false))) mNext)
  (B_is_plan_of_3 K))
@[reducible] def B_is_plan_of_5 (K : PySem.W.Frag) : MS := (mSeq (mIf (mOr (mNot (mB (mIsi Lk.isTup (mVar 4)))) (mOr (mB (mOp fNe (mCB (fl1 fLen) (mCons (mVar 4) mNil)) (mC (.int 2)))) (B_is_plan_of_2 K))) (mRet (mC (.bool false))) mNext)
  (B_is_plan_of_4 K))
@[reducible] def B_is_plan_of_6 (K : PySem.W.Frag) : MS := (mRet (mOp fEq (mOp fIx (mOp fIx (mVar 0) (mC (.int 0))) (mC (.int 0))) (mC (.int 0))))
@[reducible] def B_is_plan_of_7 (K : PySem.W.Frag) : MS := (mSeq (mFor (mIt (mVar 0)) (mgN 4) (B_is_plan_of_5 K))
  (B_is_plan_of_6 K))
@[reducible] def B_is_plan_of_8 (K : PySem.W.Frag) : MS := (mSeq (mPar [2, 3] (mCons (mMv (mUn fNeg (mC (.int 1)))) (mCons (mMv (mC (.str ""))) mNil)))
  (B_is_plan_of_7 K))
def b_is_plan_of (K : PySem.W.Frag) : MS := (mSeq (mIf (mOr (mNot (mB (mIsi Lk.isTup (mVar 0)))) (B_is_plan_of_1 K)) (mRet (mC (.bool false))) mNext)
  (B_is_plan_of_8 K))
def d_is_plan_of (K : PySem.W.Frag) : Den := runF 2 5 (b_is_plan_of K)
@[reducible] def B_is_dates_1 (K : PySem.W.Frag) : MT := (mOr (mNot (mB (mCall0 (d_is_date K) (mCons (mOp fIx (mVar 4) (mC (.int 0))) mNil)))) (mNot (mB (mCall0 (d_is_plan_of K) (mCons (mOp fIx (mVar 4) (mC (.int 1))) (mCons (mVar 2) mNil))))))
@[reducible] def B_is_dates_2 (K : PySem.W.Frag) : MS := (mSeq (mIf (mB (mOp fLe (mOp fIx (mVar 4) (mC (.int 0))) (mVar 3))) (mRet (mC (.bool false))) mNext)
  (mAsg 3 (mOp fIx (mVar 4) (mC (.int 0)))))
@[reducible] def B_is_dates_3 (K : PySem.W.Frag) : MS := (mSeq (mIf (mOr (mNot (mB (mIsi Lk.isTup (mVar 4)))) (mOr (mB (mOp fNe (mCB (fl1 fLen) (mCons (mVar 4) mNil)) (mC (.int 2)))) (B_is_dates_1 K))) (mRet (mC (.bool false))) mNext)
  (B_is_dates_2 K))
@[reducible] def B_is_dates_4 (K : PySem.W.Frag) : MS := (mSeq (mFor (mIt (mVar 0)) (mgN 4) (B_is_dates_3 K))
  (mRet (mC (.bool true))))
@[reducible] def B_is_dates_5 (K : PySem.W.Frag) : MS := (mSeq (mAsg 3 (mDis (fun ds => .dat (.tuple ds)) (mCons (mFz (mC (.int 0))) (mCons (mFz (mC (.int 0))) (mCons (mFz (mC (.int 0))) mNil)))))
  (B_is_dates_4 K))
def b_is_dates (K : PySem.W.Frag) : MS := (mSeq (mIf (mOr (mNot (mB (mIsi Lk.isTup (mVar 0)))) (mB (mOp fGt (mCB (fl1 fLen) (mCons (mVar 0) mNil)) (mVar 1)))) (mRet (mC (.bool false))) mNext)
  (B_is_dates_5 K))
def d_is_dates (K : PySem.W.Frag) : Den := runF 3 5 (b_is_dates K)
@[reducible] def B_is_calendar_1 (K : PySem.W.Frag) : MT := (mOr (mNot (mB (mIsi Lk.isStr (mOp fIx (mVar 0) (mC (.int 0)))))) (mB (mOp fNe (mOp fIx (mVar 0) (mC (.int 0))) (mC (.str "calendar")))))
@[reducible] def B_is_calendar_2 (K : PySem.W.Frag) : MT := (mNot (mB (mCB (fl1 fAll) (mCons (mLc (mIt (mVar 2)) (mgN 5) mYes (mCall0 (d_is_plan_of K) (mCons (mVar 5) (mCons (mC (.int 6)) mNil))) [5]) mNil))))
@[reducible] def B_is_calendar_3 (K : PySem.W.Frag) : MT := (mNot (mB (mCall0 (d_is_plan_of K) (mCons (mOp fIx (mVar 6) (mC (.int 1))) (mCons (mC (.int 6)) mNil)))))
@[reducible] def B_is_calendar_4 (K : PySem.W.Frag) : MT := (mOr (mNot (mB (mCall0 (d_is_when K) (mCons (mOp fIx (mVar 6) (mC (.int 0))) mNil)))) (B_is_calendar_3 K))
@[reducible] def B_is_calendar_5 (K : PySem.W.Frag) : MS := (mIf (mOr (mNot (mB (mIsi Lk.isTup (mVar 6)))) (mOr (mB (mOp fNe (mCB (fl1 fLen) (mCons (mVar 6) mNil)) (mC (.int 2)))) (B_is_calendar_4 K))) (mRet (mC (.bool false))) mNext)
@[reducible] def B_is_calendar_6 (K : PySem.W.Frag) : MS := (mRet (mCall0 (d_is_dates K) (mCons (mVar 4) (mCons (mC (.int 8)) (mCons (mC (.int 6)) mNil)))))
@[reducible] def B_is_calendar_7 (K : PySem.W.Frag) : MS := (mSeq (mFor (mIt (mVar 3)) (mgN 6) (B_is_calendar_5 K))
  (B_is_calendar_6 K))
@[reducible] def B_is_calendar_8 (K : PySem.W.Frag) : MS := (mSeq (mIf (mOr (mNot (mB (mIsi Lk.isTup (mVar 3)))) (mB (mOp fGt (mCB (fl1 fLen) (mCons (mVar 3) mNil)) (mC k_MOST_RULES)))) (mRet (mC (.bool false))) mNext)
  (B_is_calendar_7 K))
@[reducible] def B_is_calendar_9 (K : PySem.W.Frag) : MS := (mSeq (mIf (mOr (mNot (mB (mIsi Lk.isTup (mVar 2)))) (mOr (mB (mOp fNe (mCB (fl1 fLen) (mCons (mVar 2) mNil)) (mC (.int 7)))) (B_is_calendar_2 K))) (mRet (mC (.bool false))) mNext)
  (B_is_calendar_8 K))
@[reducible] def B_is_calendar_10 (K : PySem.W.Frag) : MS := (mSeq (mAsgG (mgT 4 (mgCons (mgN 1) (mgCons (mgN 2) (mgCons (mgN 3) (mgCons (mgN 4) mgNil))))) (mD (mVar 0)))
  (B_is_calendar_9 K))
def b_is_calendar (K : PySem.W.Frag) : MS := (mSeq (mIf (mOr (mNot (mB (mIsi Lk.isTup (mVar 0)))) (mOr (mB (mOp fNe (mCB (fl1 fLen) (mCons (mVar 0) mNil)) (mC (.int 4)))) (B_is_calendar_1 K))) (mRet (mC (.bool false))) mNext)
  (B_is_calendar_10 K))
def d_is_calendar (K : PySem.W.Frag) : Den := runF 1 7 (b_is_calendar K)
@[reducible] def B__law_days_1 (K : PySem.W.Frag) : ME := (mLc (mIt (mDis (fun ds => .lst ds) (mCons (mFz (mC (.int 0))) (mCons (mFz (mCall0 (d__law_pick K) (mCons (mVar 0) (mCons (mDis (fun ds => .lst ds) (mCons (mFz (mC (.int 1))) (mCons (mFz (mUn fNeg (mC (.int 1)))) mNil))) mNil)))) mNil)))) (mgN 7) mYes (mCall0 (d__law_dated K) (mCons (mOp fAdd (mVar 6) (mVar 7)) mNil)) [7])
@[reducible] def B__law_days_2 (K : PySem.W.Frag) : MS := (mAsg 2 (mOp fAdd (mVar 2) (mIfE (mB (mOp fNotN (mVar 6) (mC .none))) (B__law_days_1 K) (mDis (fun ds => .lst ds) mNil))))
@[reducible] def B__law_days_3 (K : PySem.W.Frag) : MS := (mSeq (mAsg 6 (mCall0 (d__law_when_day K 4) (mCons (mVar 5) (mCons (mCall0 (d__law_year K) (mCons (mVar 0) mNil)) mNil))))
  (B__law_days_2 K))
@[reducible] def B__law_days_4 (K : PySem.W.Frag) : MS := (mRet (mLc (mIt (mVar 2)) (mgN 3) (mB (mChain fLe fLe (mD (mC (.int 1))) (mD (mOp fIx (mVar 3) (mC (.int 0)))) (mD (mOp fPow (mC (.int 10)) (mC (.int 30)))))) (mVar 3) [3]))
@[reducible] def B__law_days_5 (K : PySem.W.Frag) : MS := (mSeq (mFor (mIt (mOp fIx (mVar 1) (mC (.int 2)))) (mgT 2 (mgCons (mgN 5) (mgCons (mgN 4) mgNil))) (B__law_days_3 K))
  (B__law_days_4 K))
def b__law_days (K : PySem.W.Frag) : MS := (mSeq (mAsg 2 (mOp fAdd (mDis (fun ds => .lst ds) (mCons (mFz (mCall0 (d__law_date K) (mCons (mVar 0) mNil))) (mCons (mFz (mCall0 (d__law_date K) (mCons (mVar 0) mNil))) mNil))) (mLc (mIt (mOp fIx (mVar 1) (mC (.int 3)))) (mgT 2 (mgCons (mgN 3) (mgCons (mgN 4) mgNil))) mYes (mVar 3) [3, 4])))
  (B__law_days_5 K))
def d__law_days (K : PySem.W.Frag) : Den := runF 2 8 (b__law_days K)
@[reducible] def B__law_special_1 (K : PySem.W.Frag) : MS := (mIf (mAnd (mB (mOp fNotN (mVar 8) (mC .none))) (mB (mChain fLe fLt (mD (mVar 2)) (mD (mVar 8)) (mD (mVar 3))))) (mDPut 4 (mD (mVar 8)) (mD (mVar 6))) mNext)
@[reducible] def B__law_special_2 (K : PySem.W.Frag) : MS := (mSeq (mAsg 8 (mCall0 (d__law_when_day K 4) (mCons (mVar 5) (mCons (mVar 7) mNil))))
  (B__law_special_1 K))
@[reducible] def B__law_special_3 (K : PySem.W.Frag) : MS := (mFor (mIt (mDis (fun ds => .lst ds) (mCons (mFz (mOp fSub (mVar 1) (mC (.int 1)))) (mCons (mFz (mVar 1)) (mCons (mFz (mOp fAdd (mVar 1) (mC (.int 1)))) mNil))))) (mgN 7) (B__law_special_2 K))
@[reducible] def B__law_special_4 (K : PySem.W.Frag) : MS := (mSeq (mFor (mIt (mUn fRev (mVar 0))) (mgT 2 (mgCons (mgN 5) (mgCons (mgN 6) mgNil))) (B__law_special_3 K))
  (mRet (mVar 4)))
def b__law_special (K : PySem.W.Frag) : MS := (mSeq (mPar [2, 3, 4] (mCons (mMv (mCall0 (d__law_number K) (mCons (mDis (fun ds => .dat (.tuple ds)) (mCons (mFz (mVar 1)) (mCons (mFz (mC (.int 1))) (mCons (mFz (mC (.int 1))) mNil)))) mNil))) (mCons (mMv (mCall0 (d__law_number K) (mCons (mDis (fun ds => .dat (.tuple ds)) (mCons (mFz (mOp fAdd (mVar 1) (mC (.int 1)))) (mCons (mFz (mC (.int 1))) (mCons (mFz (mC (.int 1))) mNil)))) mNil))) (mCons (mMv mDNew) mNil))))
  (B__law_special_4 K))
def d__law_special (K : PySem.W.Frag) : Den := runF 2 9 (b__law_special K)
@[reducible] def B__law_plan_of_1 (K : PySem.W.Frag) : MS := (mRet (mGet2 (mCall0 (d__law_special K) (mCons (mOp fIx (mVar 0) (mC (.int 2))) (mCons (mOp fIx (mVar 1) (mC (.int 0))) mNil))) (mD (mVar 4)) (mD (mOp fIx (mOp fIx (mVar 0) (mC (.int 1))) (mOp fMod (mCB (fl1 fIntI) (mCons (mVar 4) mNil)) (mC (.int 7)))))))
@[reducible] def B__law_plan_of_2 (K : PySem.W.Frag) : MS := (mSeq (mAsg 4 (mCall0 (d__law_number K) (mCons (mVar 1) mNil)))
  (B__law_plan_of_1 K))
def b__law_plan_of (K : PySem.W.Frag) : MS := (mSeq (mFor (mIt (mOp fIx (mVar 0) (mC (.int 3)))) (mgT 2 (mgCons (mgN 2) (mgCons (mgN 3) mgNil))) (mIf (mB (mOp fEq (mVar 2) (mVar 1))) (mRet (mVar 3)) mNext))
  (B__law_plan_of_2 K))
def d__law_plan_of (K : PySem.W.Frag) : Den := runF 2 5 (b__law_plan_of K)
def b_need_calendar (K : PySem.W.Frag) : MS := (mIf (mNot (mB (mCall0 (d_is_calendar K) (mCons (mVar 0) mNil)))) (mRaise (He.ga K "BadCalendar")) mNext)
def d_need_calendar (K : PySem.W.Frag) : Den := runF 1 1 (b_need_calendar K)
def b_need_date (K : PySem.W.Frag) : MS := (mIf (mNot (mB (mCall0 (d_is_date K) (mCons (mVar 0) mNil)))) (mRaise (He.ga K "BadDate")) mNext)
def d_need_date (K : PySem.W.Frag) : Den := runF 1 1 (b_need_date K)
def b_days_of (K : PySem.W.Frag) : MS := (mRet (mIfE (mB (mCall0 (d_is_leap K) (mCons (mVar 0) mNil))) (mC (.int 366)) (mC (.int 365))))
def d_days_of (K : PySem.W.Frag) : Den := runF 1 1 (b_days_of K)
@[reducible] def B_year_table_1 (K : PySem.W.Frag) : MT := (mB (mChain fLe fLt (mD (mC (.int 0))) (mD (mOp fSub (mVar 8) (mVar 2))) (mD (mCB (fl1 fLen) (mCons (mVar 3) mNil)))))
@[reducible] def B_year_table_2 (K : PySem.W.Frag) : MS := (mIf (mAnd (mB (mOp fNotN (mVar 8) (mC .none))) (B_year_table_1 K)) (mLPut 3 (mD (mOp fSub (mVar 8) (mVar 2))) (mD (mVar 6))) mNext)
@[reducible] def B_year_table_3 (K : PySem.W.Frag) : MS := (mSeq (mAsg 8 (mCall0 (d_day_of K 4) (mCons (mVar 5) (mCons (mVar 7) mNil))))
  (B_year_table_2 K))
@[reducible] def B_year_table_4 (K : PySem.W.Frag) : MS := (mFor (mIt (mDis (fun ds => .dat (.tuple ds)) (mCons (mFz (mOp fSub (mVar 1) (mC (.int 1)))) (mCons (mFz (mVar 1)) (mCons (mFz (mOp fAdd (mVar 1) (mC (.int 1)))) mNil))))) (mgN 7) (B_year_table_3 K))
@[reducible] def B_year_table_5 (K : PySem.W.Frag) : MS := (mSeq (mFor (mIt (mUn fRev (mOp fIx (mVar 0) (mC (.int 2))))) (mgT 2 (mgCons (mgN 5) (mgCons (mgN 6) mgNil))) (B_year_table_4 K))
  (mRet (mVar 3)))
@[reducible] def B_year_table_6 (K : PySem.W.Frag) : MS := (mSeq (mAsg 3 (mLc (mRng1 (mCons (mFz (mCall0 (d_days_of K) (mCons (mVar 1) mNil))) mNil)) (mgN 4) mYes (mOp fIx (mOp fIx (mVar 0) (mC (.int 1))) (mOp fMod (mOp fAdd (mVar 2) (mVar 4)) (mC (.int 7)))) [4]))
  (B_year_table_5 K))
def b_year_table (K : PySem.W.Frag) : MS := (mSeq (mAsg 2 (mCall0 (d_year_begin K) (mCons (mVar 1) mNil)))
  (B_year_table_6 K))
def d_year_table (K : PySem.W.Frag) : Den := runF 2 9 (b_year_table K)
def b_number_at (K : PySem.W.Frag) : MS := (mRet (mOp fAdd (mCall0 (d_year_begin K) (mCons (mOp fIx (mVar 0) (mC (.int 0))) mNil)) (mCall0 (d_day_in_year K) (mCons (mOp fIx (mVar 0) (mC (.int 0))) (mCons (mOp fIx (mVar 0) (mC (.int 1))) (mCons (mOp fIx (mVar 0) (mC (.int 2))) mNil))))))
def d_number_at (K : PySem.W.Frag) : Den := runF 1 1 (b_number_at K)
@[reducible] def B_plan_on_1 (K : PySem.W.Frag) : MS := (mRet (mOp fIx (mCall0 (d_year_table K) (mCons (mVar 0) (mCons (mOp fIx (mVar 1) (mC (.int 0))) mNil))) (mOp fSub (mCall0 (d_number_at K) (mCons (mVar 1) mNil)) (mCall0 (d_year_begin K) (mCons (mOp fIx (mVar 1) (mC (.int 0))) mNil)))))
@[reducible] def B_plan_on_2 (K : PySem.W.Frag) : MS := (mSeq (mFor (mIt (mOp fIx (mVar 0) (mC (.int 3)))) (mgT 2 (mgCons (mgN 2) (mgCons (mgN 3) mgNil))) (mIf (mB (mOp fEq (mVar 2) (mVar 1))) (mRet (mVar 3)) mNext))
  (B_plan_on_1 K))
@[reducible] def B_plan_on_3 (K : PySem.W.Frag) : MS := (mSeq (mDrop (mCall (d_need_date K) (mCons (mVar 1) mNil)))
  (B_plan_on_2 K))
def b_plan_on (K : PySem.W.Frag) : MS := (mSeq (mDrop (mCall (d_need_calendar K) (mCons (mVar 0) mNil)))
  (B_plan_on_3 K))
def d_plan_on (K : PySem.W.Frag) : Den := runF 2 4 (b_plan_on K)
def b_need_hour (K : PySem.W.Frag) : MS := (mIf (mNot (mB (mCall0 (d_is_whole K) (mCons (mVar 0) (mCons (mC (.int 0)) (mCons (mC (.int 23)) mNil)))))) (mRaise (He.ga K "BadHour")) mNext)
def d_need_hour (K : PySem.W.Frag) : Den := runF 1 1 (b_need_hour K)
def b_mode_in (K : PySem.W.Frag) : MS := (mRet (mOp fIx (mLc (mIt (mVar 0)) (mgT 2 (mgCons (mgN 2) (mgCons (mgN 3) mgNil))) (mB (mOp fLe (mVar 2) (mVar 1))) (mVar 3) [2, 3]) (mUn fNeg (mC (.int 1)))))
def d_mode_in (K : PySem.W.Frag) : Den := runF 2 4 (b_mode_in K)
@[reducible] def B_mode_at_1 (K : PySem.W.Frag) : MS := (mRet (mCall0 (d_mode_in K) (mCons (mVar 3) (mCons (mVar 2) mNil))))
@[reducible] def B_mode_at_2 (K : PySem.W.Frag) : MS := (mSeq (mDrop (mCall (d_need_hour K) (mCons (mVar 2) mNil)))
  (B_mode_at_1 K))
def b_mode_at (K : PySem.W.Frag) : MS := (mSeq (mAsg 3 (mCall (d_plan_on K) (mCons (mVar 0) (mCons (mVar 1) mNil))))
  (B_mode_at_2 K))
def d_mode_at (K : PySem.W.Frag) : Den := runF 3 4 (b_mode_at K)
@[reducible] def B__law_mode_1 (K : PySem.W.Frag) : MS := (mRet (mOp fIx (mVar 2) (mOp fSub (mCB (fl1 fLen) (mCons (mVar 2) mNil)) (mC (.int 1)))))
def b__law_mode (K : PySem.W.Frag) : MS := (mSeq (mAsg 2 (mLc (mIt (mVar 0)) (mgT 2 (mgCons (mgN 3) (mgCons (mgN 4) mgNil))) (mB (mOp fLe (mVar 3) (mVar 1))) (mVar 4) [3, 4]))
  (B__law_mode_1 K))
def d__law_mode (K : PySem.W.Frag) : Den := runF 2 5 (b__law_mode K)
@[reducible] def B__law_calendar_right_1 (K : PySem.W.Frag) : MT := (mB (mOp fNe (mCall (d_mode_at K) (mCons (mVar 1) (mCons (mVar 2) (mCons (mVar 4) mNil)))) (mCall0 (d__law_mode K) (mCons (mVar 3) (mCons (mVar 4) mNil)))))
@[reducible] def B__law_calendar_right_2 (K : PySem.W.Frag) : MS := (mIf (mOr (mB (mOp fNe (mCall0 (swap2 (d_plan_on K)) (mCons (mVar 2) (mCons (mVar 1) mNil))) (mVar 3))) (B__law_calendar_right_1 K)) (mRet (mC (.bool false))) mNext)
@[reducible] def B__law_calendar_right_3 (K : PySem.W.Frag) : MS := (mSeq (mPar [3, 4] (mCons (mMv (mCall0 (d__law_plan_of K) (mCons (mVar 1) (mCons (mVar 2) mNil)))) (mCons (mMv (mCall0 dDraw (mCons (mVar 0) (mCons (mC (.int 24)) mNil)))) mNil)))
  (B__law_calendar_right_2 K))
@[reducible] def B__law_calendar_right_4 (K : PySem.W.Frag) : MS := (mRet (mIsE K (He.ga K "BadHour") (mCaught K (He.ga K "KeptError") (mCall (d_mode_at K) (mCons (mVar 1) (mCons (mVar 2) (mCons (mVar 5) mNil)))))))
@[reducible] def B__law_calendar_right_5 (K : PySem.W.Frag) : MS := (mSeq (mPar [2, 5] (mCons (mMv (mCall0 (d__law_date K) (mCons (mVar 0) mNil))) (mCons (mMv (mCall0 (d__law_pick K) (mCons (mVar 0) (mCons (mDis (fun ds => .lst ds) (mCons (mFz (mC (.int 24))) (mCons (mFz (mUn fNeg (mC (.int 1)))) (mCons (mFz (mC .none)) (mCons (mFz (mC (.bool true))) (mCons (mFz (mC (.str "0"))) (mCons (mFz (mOp fPow (mC (.int 10)) (mC (.int 30)))) mNil))))))) mNil)))) mNil)))
  (B__law_calendar_right_4 K))
def b__law_calendar_right (K : PySem.W.Frag) : MS := (mSeq (mFor (mIt (mCall0 (d__law_days K) (mCons (mVar 0) (mCons (mVar 1) mNil)))) (mgN 2) (B__law_calendar_right_3 K))
  (B__law_calendar_right_5 K))
def d__law_calendar_right (K : PySem.W.Frag) : Den := runF 2 6 (b__law_calendar_right K)
def b__law_tells (K : PySem.W.Frag) : MS := (mRet (mIfE (mB (mVar 1)) (mOp fIsB (mVar 0) (mC (.bool true))) (mOp fIsB (mVar 0) (mC (.bool false)))))
def d__law_tells (K : PySem.W.Frag) : Den := runF 2 2 (b__law_tells K)
@[reducible] def B__law_is_mode_1 (K : PySem.W.Frag) : MT := (mOr (mB (mOp fGt (mCB (fl1 fLen) (mCons (mVar 0) mNil)) (mC (.int 8)))) (mB (mOp fEq (mVar 0) (mC (.str "any")))))
@[reducible] def B__law_is_mode_2 (K : PySem.W.Frag) : MS := (mRet (mOp fEq (mLc (mIt (mVar 0)) (mgN 1) (mB (mOp fNotIn (mVar 1) (mC (.str "abcdefghijklmnopqrstuvwxyz")))) (mC (.int 1)) [1]) (mDis (fun ds => .lst ds) mNil)))
def b__law_is_mode (K : PySem.W.Frag) : MS := (mSeq (mIf (mOr (mNot (mB (mIsi Lk.isStr (mVar 0)))) (mOr (mB (mOp fLt (mCB (fl1 fLen) (mCons (mVar 0) mNil)) (mC (.int 1)))) (B__law_is_mode_1 K))) (mRet (mC (.bool false))) mNext)
  (B__law_is_mode_2 K))
def d__law_is_mode (K : PySem.W.Frag) : Den := runF 1 2 (b__law_is_mode K)
@[reducible] def B__law_is_plan_1 (K : PySem.W.Frag) : MT := (mOr (mB (mOp fLt (mCB (fl1 fLen) (mCons (mVar 0) mNil)) (mC (.int 1)))) (mB (mOp fGt (mCB (fl1 fLen) (mCons (mVar 0) mNil)) (mC (.int 6)))))
@[reducible] def B__law_is_plan_2 (K : PySem.W.Frag) : MT := (mOr (mNot (mB (mCall0 (d__law_is_int K) (mCons (mOp fIx (mVar 1) (mC (.int 0))) (mCons (mC (.int 0)) (mCons (mC (.int 23)) mNil)))))) (mNot (mB (mCall0 (d__law_is_mode K) (mCons (mOp fIx (mVar 1) (mC (.int 1))) mNil)))))
@[reducible] def B__law_is_plan_3 (K : PySem.W.Frag) : MS := (mIf (mOr (mNot (mB (mIsi Lk.isTup (mVar 1)))) (mOr (mB (mOp fNe (mCB (fl1 fLen) (mCons (mVar 1) mNil)) (mC (.int 2)))) (B__law_is_plan_2 K))) (mRet (mC (.bool false))) mNext)
@[reducible] def B__law_is_plan_4 (K : PySem.W.Frag) : MS := (mRet (mOp fEq (mLc (mRng2 (mCons (mFz (mC (.int 1))) (mCons (mFz (mCB (fl1 fLen) (mCons (mVar 0) mNil))) mNil))) (mgN 5) (mB (mOp fEq (mOp fIx (mOp fIx (mVar 0) (mVar 5)) (mC (.int 1))) (mOp fIx (mOp fIx (mVar 0) (mOp fSub (mVar 5) (mC (.int 1)))) (mC (.int 1))))) (mVar 5) [5]) (mDis (fun ds => .lst ds) mNil)))
@[reducible] def B__law_is_plan_5 (K : PySem.W.Frag) : MS := (mSeq (mIf (mOr (mB (mOp fNe (mOp fIx (mVar 2) (mC (.int 0))) (mC (.int 0)))) (mB (mOp fNe (mVar 2) (mUn fSortSetI (mVar 2))))) (mRet (mC (.bool false))) mNext)
  (B__law_is_plan_4 K))
@[reducible] def B__law_is_plan_6 (K : PySem.W.Frag) : MS := (mSeq (mAsg 2 (mLc (mIt (mVar 0)) (mgT 2 (mgCons (mgN 3) (mgCons (mgN 4) mgNil))) mYes (mVar 3) [3, 4]))
  (B__law_is_plan_5 K))
@[reducible] def B__law_is_plan_7 (K : PySem.W.Frag) : MS := (mSeq (mFor (mIt (mVar 0)) (mgN 1) (B__law_is_plan_3 K))
  (B__law_is_plan_6 K))
def b__law_is_plan (K : PySem.W.Frag) : MS := (mSeq (mIf (mOr (mNot (mB (mIsi Lk.isTup (mVar 0)))) (B__law_is_plan_1 K)) (mRet (mC (.bool false))) mNext)
  (B__law_is_plan_7 K))
def d__law_is_plan (K : PySem.W.Frag) : Den := runF 1 6 (b__law_is_plan K)
@[reducible] def B__law_is_day_1 (K : PySem.W.Frag) : MT := (mNot (mB (mCall0 (d__law_is_int K) (mCons (mOp fIx (mVar 0) (mC (.int 0))) (mCons (mC (.int 1)) (mCons (mOp fPow (mC (.int 10)) (mC (.int 30))) mNil))))))
@[reducible] def B__law_is_day_2 (K : PySem.W.Frag) : ME := (mCall0 (d__law_is_int K) (mCons (mOp fIx (mVar 0) (mC (.int 2))) (mCons (mC (.int 1)) (mCons (mCall0 (d__law_month K) (mCons (mOp fIx (mVar 0) (mC (.int 0))) (mCons (mOp fIx (mVar 0) (mC (.int 1))) mNil))) mNil))))
@[reducible] def B__law_is_day_3 (K : PySem.W.Frag) : MS := (mRet (mAndV (mB (mCall0 (d__law_is_int K) (mCons (mOp fIx (mVar 0) (mC (.int 1))) (mCons (mC (.int 1)) (mCons (mC (.int 12)) mNil))))) (B__law_is_day_2 K)))
def b__law_is_day (K : PySem.W.Frag) : MS := (mSeq (mIf (mOr (mNot (mB (mIsi Lk.isTup (mVar 0)))) (mOr (mB (mOp fNe (mCB (fl1 fLen) (mCons (mVar 0) mNil)) (mC (.int 3)))) (B__law_is_day_1 K))) (mRet (mC (.bool false))) mNext)
  (B__law_is_day_3 K))
def d__law_is_day (K : PySem.W.Frag) : Den := runF 1 1 (b__law_is_day K)
@[reducible] def B__law_is_yearly_1 (K : PySem.W.Frag) : MT := (mOr (mNot (mB (mIsi Lk.isStr (mOp fIx (mVar 0) (mC (.int 0)))))) (mB (mOp fNe (mOp fIx (mVar 0) (mC (.int 0))) (mC (.str "calendar")))))
@[reducible] def B__law_is_yearly_2 (K : PySem.W.Frag) : MT := (mB (mOp fNe (mLc (mIt (mVar 1)) (mgN 4) (mNot (mB (mCall0 (d__law_is_plan K) (mCons (mVar 4) mNil)))) (mC (.int 1)) [4]) (mDis (fun ds => .lst ds) mNil)))
@[reducible] def B__law_is_yearly_3 (K : PySem.W.Frag) : MT := (mOr (mB (mOp fNe (mCB (fl1 fLen) (mCons (mVar 6) mNil)) (mC (.int 2)))) (mNot (mB (mCall0 (d__law_is_plan K) (mCons (mOp fIx (mVar 6) (mC (.int 1))) mNil)))))
@[reducible] def B__law_is_yearly_4 (K : PySem.W.Frag) : MS := (mIf (mOr (mNot (mB (mIsi Lk.isTup (mVar 6)))) (B__law_is_yearly_3 K)) (mRet (mC (.bool false))) mNext)
@[reducible] def B__law_is_yearly_5 (K : PySem.W.Frag) : MS := (mSeq (mIf (mOr (mNot (mB (mIsi Lk.isTup (mVar 5)))) (mB (mOp fGt (mCB (fl1 fLen) (mCons (mVar 5) mNil)) (mC (.int 8))))) (mRet (mC (.bool false))) mNext)
  (mFor (mIt (mVar 5)) (mgN 6) (B__law_is_yearly_4 K)))
@[reducible] def B__law_is_yearly_6 (K : PySem.W.Frag) : MT := (mB (mOp fNe (mLc (mIt (mVar 3)) (mgN 6) (mNot (mB (mCall0 (d__law_is_day K) (mCons (mOp fIx (mVar 6) (mC (.int 0))) mNil)))) (mC (.int 1)) [6]) (mDis (fun ds => .lst ds) mNil)))
@[reducible] def B__law_is_yearly_7 (K : PySem.W.Frag) : MS := (mRet (mOp fEq (mLc (mIt (mVar 3)) (mgT 2 (mgCons (mgN 7) (mgCons (mgN 4) mgNil))) mYes (mVar 7) [7, 4]) (mUn fSortSetT (mLc (mIt (mVar 3)) (mgT 2 (mgCons (mgN 7) (mgCons (mgN 4) mgNil))) mYes (mVar 7) [7, 4]))))
@[reducible] def B__law_is_yearly_8 (K : PySem.W.Frag) : MS := (mSeq (mIf (mOr (mB (mOp fNe (mLc (mIt (mVar 2)) (mgN 6) (mNot (mB (mCall0 (d__law_is_rule_day K 5) (mCons (mOp fIx (mVar 6) (mC (.int 0))) (mCons (mC (.int 4)) mNil))))) (mC (.int 1)) [6]) (mDis (fun ds => .lst ds) mNil))) (B__law_is_yearly_6 K)) (mRet (mC (.bool false))) mNext)
  (B__law_is_yearly_7 K))
@[reducible] def B__law_is_yearly_9 (K : PySem.W.Frag) : MS := (mSeq (mFor (mIt (mDis (fun ds => .lst ds) (mCons (mFz (mVar 2)) (mCons (mFz (mVar 3)) mNil)))) (mgN 5) (B__law_is_yearly_5 K))
  (B__law_is_yearly_8 K))
@[reducible] def B__law_is_yearly_10 (K : PySem.W.Frag) : MS := (mSeq (mIf (mOr (mNot (mB (mIsi Lk.isTup (mVar 1)))) (mOr (mB (mOp fNe (mCB (fl1 fLen) (mCons (mVar 1) mNil)) (mC (.int 7)))) (B__law_is_yearly_2 K))) (mRet (mC (.bool false))) mNext)
  (B__law_is_yearly_9 K))
@[reducible] def B__law_is_yearly_11 (K : PySem.W.Frag) : MS := (mSeq (mPar [1, 2, 3] (mCons (mMv (mOp fIx (mVar 0) (mC (.int 1)))) (mCons (mMv (mOp fIx (mVar 0) (mC (.int 2)))) (mCons (mMv (mOp fIx (mVar 0) (mC (.int 3)))) mNil))))
  (B__law_is_yearly_10 K))
def b__law_is_yearly (K : PySem.W.Frag) : MS := (mSeq (mIf (mOr (mNot (mB (mIsi Lk.isTup (mVar 0)))) (mOr (mB (mOp fNe (mCB (fl1 fLen) (mCons (mVar 0) mNil)) (mC (.int 4)))) (B__law_is_yearly_1 K))) (mRet (mC (.bool false))) mNext)
  (B__law_is_yearly_11 K))
def d__law_is_yearly (K : PySem.W.Frag) : Den := runF 1 8 (b__law_is_yearly K)
@[reducible] def B_law_1 (K : PySem.W.Frag) : MS := (mIf (mOr (mB (mOp fEq (mIsE K (He.ga K "BadCalendar") (mVar 6)) (mCall0 (d__law_is_yearly K) (mCons (mVar 5) mNil)))) (mAnd (mB (mIsNone true (mVar 6))) (mNot (mB (mIsE K (He.ga K "BadCalendar") (mVar 6)))))) (mRet (mC (.bool false))) mNext)
@[reducible] def B_law_2 (K : PySem.W.Frag) : MS := (mSeq (mAsg 6 (mCaught K (He.ga K "KeptError") (mCall (d_plan_on K) (mCons (mVar 5) (mCons (mDis (fun ds => .dat (.tuple ds)) (mCons (mFz (mC (.int 2001))) (mCons (mFz (mC (.int 1))) (mCons (mFz (mC (.int 1))) mNil)))) mNil)))))
  (B_law_1 K))
@[reducible] def B_law_3 (K : PySem.W.Frag) : MS := (mSeq (mIf (mNot (mB (mCall0 (d__law_tells K) (mCons (mCall0 (d_is_calendar K) (mCons (mVar 5) mNil)) (mCons (mCall0 (d__law_is_yearly K) (mCons (mVar 5) mNil)) mNil))))) (mRet (mC (.bool false))) mNext)
  (B_law_2 K))
@[reducible] def B_law_4 (K : PySem.W.Frag) : MS := (mSeq (mAsg 5 (mCall0 (d__law_bent K 9) (mCons (mVar 1) (mCons (mVar 3) mNil))))
  (B_law_3 K))
@[reducible] def B_law_5 (K : PySem.W.Frag) : MS := (mFor (mRng1 (mCons (mFz (mC (.int 5))) mNil)) (mgN 4) (B_law_4 K))
@[reducible] def B_law_6 (K : PySem.W.Frag) : MS := (mSeq (mIf (mNot (mB (mCall (d__law_told_right K) (mCons (mVar 1) (mCons (mVar 3) (mCons (mCall0 (d__law_year K) (mCons (mVar 1) mNil)) mNil)))))) (mRet (mC (.bool false))) mNext)
  (B_law_5 K))
@[reducible] def B_law_7 (K : PySem.W.Frag) : MS := (mSeq (mIf (mOr (mB (mOp fNotB (mCall0 (d_is_calendar K) (mCons (mVar 3) mNil)) (mC (.bool true)))) (mNot (mB (mCall (d__law_calendar_right K) (mCons (mVar 1) (mCons (mVar 3) mNil)))))) (mRet (mC (.bool false))) mNext)
  (B_law_6 K))
@[reducible] def B_law_8 (K : PySem.W.Frag) : MS := (mSeq (mAsg 3 (mCall0 (d__law_calendar K) (mCons (mVar 1) (mCons (mDis (fun ds => .lst ds) (mCons (mFz (mC (.str "day"))) (mCons (mFz (mC (.str "night"))) (mCons (mFz (mC (.str "feast"))) (mCons (mFz (mC (.str "x"))) mNil))))) (mCons (mOp fEq (mCall0 dDraw (mCons (mVar 1) (mCons (mC (.int 2)) mNil))) (mC (.int 0))) mNil)))))
  (B_law_7 K))
@[reducible] def B_law_9 (K : PySem.W.Frag) : MS := (mSeq (mFor (mRng1 (mCons (mFz (mOp fAdd (mC (.int 1)) (mCB (fl2 fMin2) (mCons (mCB (fl1 fLen) (mCons (mVar 0) mNil)) (mCons (mC (.int 2)) mNil))))) mNil)) (mgN 2) (B_law_8 K))
  (mRet (mC (.bool true))))
def b_law (K : PySem.W.Frag) : MS := (mSeq (mAsg 1 (mCall0 dBegun (mCons (mVar 0) mNil)))
  (B_law_9 K))
def d_law (K : PySem.W.Frag) : Den := runF 1 7 (b_law K)
end K81

/-! part Pd -/
namespace K81
open PySem PySem.Spec PyProof.Rows L2 Evl Lk LamX Mk
section
variable {P : Program} {w : World} {K : PySem.W.Frag} {mg : Str → Option Value} {base : Heap} {f : Addr} {fd : FuncData} {TT : List (Addr × Str)}
/-! ### the state of the draws (the same in every law) -/
theorem ok__law_begun (T : Txt K mg) (F : Fn K "_law_begun" s__law_begun f fd) : FnOk P w K mg base CX0 1 f fd ["script"] (spBegunA K) := by
  refine fn_run F sc__law_begun ?l fun cdv A outer s H E hr => ⟨_, (pss_cons (ps_setLc (i := 1) (own := [("cell", 2)]) (by rfl) sc__law_begun.nd rfl rfl (sw_true rfl rfl rfl (by decide +kernel)) (pi_list (pv 0)) (blkOk_by (own := [("cell", 2)]) (N := N__law_begun) (sc := defScope s__law_begun) (by decide +kernel)) (fun _ _ _ _ _ => (pg_name (i := 2) sc__law_begun.nd rfl (Or.inl rfl))) (fun _ _ _ _ _ => (pts_one (pt_cmpR op_ge (pe_callB cl_abs (by rfl) T.n_abs (by decide +kernel) (pa_cons (pv 2) pa_nil)) (pe_op op_pow pe_int pe_int) (nomark _)))) (fun _ _ _ _ _ => (pe_op op_sub (pe_callB cl_abs (by rfl) T.n_abs (by decide +kernel) (pa_cons (pv 2) pa_nil)) (pe_op op_pow pe_int pe_int))))
  (pss_one (ps_ret (pe_disp (pps_cons pe_str (pv 1) (pps_cons pe_str (by exact (pe_lc (own := [("cell", 2)]) (by rfl) sc__law_begun.nd (pi_list (pv 0)) (blkOk_by (own := [("cell", 2)]) (N := N__law_begun) (sc := defScope s__law_begun) (by decide +kernel)) (fun _ _ _ _ _ => (pg_name (i := 2) sc__law_begun.nd rfl (Or.inl rfl))) (fun _ _ _ _ _ => pts_nil) (fun _ _ _ _ _ => (pe_callB cl_abs (by rfl) T.n_abs (by decide +kernel) (pa_cons (pv 2) pa_nil))))) (pps_cons pe_str pe_int (pps_cons pe_str pe_int pps_nil)))) (by rfl) (by rfl) (fun z => by cases z) (by decide))))), ?p⟩
  case l =>
    rintro vs H Q E ⟨l, cs, rfl, _⟩
    rfl
  case p =>
    rintro vs Q ⟨l, cs, rfl, hl, hz, k⟩
    have at_i : ∀ (i : Nat) (x : V), (cs.map V.int)[i]? = some x → x = .int (cs.getD i 0) := fun i x h => by
      rw [List.getElem?_map] at h
      obtain ⟨y, hy, rfl⟩ := Option.map_eq_some_iff.mp h
      rw [List.getD_eq_getElem?_getD, hy]
      rfl
    have hz' : (cs.map V.int).length ≤ 40000 := by rw [List.length_map]; exact hz
    let ab : Int → Int := fun c => if c < 0 then -c else c
    have gv : ∀ (n : Nat) (f : Nat → Bool) (h : Nat → Int), given n f (fun i => V.int (h i)) = (((List.range n).filter f).map h).map V.int := fun n f h => by
      unfold given
      rw [List.map_map]
      rfl
    refine q_asgL (xs := given (cs.map V.int).length (fun i => decide ((10 : Int) ^ 18 ≤ ab (cs.getD i 0))) fun i => .int (ab (cs.getD i 0) - 10 ^ 18)) ?lc fun g H1 hg e1 h1 => ?_
    case lc =>
      refine el_lcL (xs := cs.map V.int) (fun i => decide ((10 : Int) ^ 18 ≤ ab (cs.getD i 0))) (fun i => .int (ab (cs.getD i 0) - 10 ^ 18)) (ev_var rfl) hl hz' (fun _ => rfl) (fun i x H1 e1 hi => ?_) fun i x H1 e1 hi _ => ?_
      · obtain rfl := at_i i x hi
        exact et_is (by wtm_at "et") (by rfl)
      · obtain rfl := at_i i x hi
        exact ev_is (by wtm_at "ev") (by rfl)
    refine fun p hp => ?_
    have hgp : g ≠ p := by
      rintro rfl
      rw [h1] at hp
      cases hp
    have e2 : Ex H1 (upd H1 p (.dK [])) := Ex.new hp
    refine r_pairEv (v := .ref g) (ev_var rfl) fun H2 e2' => ?_
    refine r_pairEvL (xs := given (cs.map V.int).length (fun _ => true) fun i => .int (ab (cs.getD i 0))) ?lc2 fun c H3 hc e3 h3 => ?_
    case lc2 =>
      refine el_lcL (xs := cs.map V.int) (fun _ => true) (fun i => .int (ab (cs.getD i 0))) (ev_var rfl) (ex_l (e1.trans (e2.trans e2')) hl) hz' (fun _ => rfl) (fun i x H1 e1 hi => et_yes) fun i x H2 e2 hi _ => ?_
      obtain rfl := at_i i x hi
      exact ev_is (by wtm_at "ev") (by rfl)
    refine r_pairEv ev_c fun H4 e4 => r_pairEv ev_c fun H5 e5 => ?_
    have e6 : Ex H1 H3 := e2.trans (e2'.trans e3)
    have e7 : Ex H3 H5 := e4.trans e5
    refine ⟨(e2'.trans (e3.trans e7)) _ _ upd_same, stD g c 0 0, rfl, show 4 ≤ 15 by decide, ?_⟩
    have h1' : H5 g = some (.lst (given (cs.map V.int).length (fun i => decide ((10 : Int) ^ 18 ≤ ab (cs.getD i 0))) fun i => .int (ab (cs.getD i 0) - 10 ^ 18))) := e7 _ _ (e6 _ _ h1)
    have h3' := e7 _ _ h3
    have hpn : H p = none := by
      cases q : H p with
      | none => rfl
      | some o =>
        have := e1 _ _ q
        rw [hp] at this
        cases this
    have hgc : g ≠ c := by
      rintro rfl
      rw [(e2.trans e2') _ _ h1] at hc
      cases hc
    have hpc : c ≠ p := by
      rintro rfl
      rw [e2' _ _ upd_same] at hc
      cases hc
    rw [gv] at h1' h3'
    refine k p g c _ ?_ ⟨_, _, 0, 0, ⟨upd_same, by rw [upd_ne hgp]; exact h1', by rw [upd_ne hpc]; exact h3', hgc⟩, by decide, by decide⟩ hpn hg ?_
    · exact Ex.mut (e1.trans (e6.trans e7)) hpn
    · cases q : H c with
      | none => rfl
      | some o =>
        have := ((e1.trans e2).trans e2') _ _ q
        rw [hc] at this
        cases this
theorem ok__law_mixed (T : Txt K mg) (F : Fn K "_law_mixed" s__law_mixed f fd) : FnOk P w K mg base CX0 1 f fd ["state"] spMixedA := by
  refine fn_run F sc__law_mixed ?l fun cdv A outer s H E hr => ⟨_, (pss_cons (ps_par (i := 1) (j := 2) (by rfl) sc__law_mixed.nd rfl rfl (by decide) rfl rfl (pa_cons (pe_op op_add (pe_dget (hu_of hr) (pv 0) pe_str (fun _ _ => rfl)) pe_int) (pa_cons pe_int pa_nil)) (by rfl))
  (pss_cons (ps_dput (hu_of hr) (pv 0) pe_str (pv 1) rfl)
  (pss_cons (ps_for PassesOwn.never rfl (pi_list (pe_lst (pa_cons pe_int (pa_cons pe_int (pa_cons pe_int (pa_cons pe_int pa_nil)))))) (pg_name (i := 3) sc__law_mixed.nd rfl (Or.inl rfl)) (pss_cons (ps_set (i := 4) sc__law_mixed.nd rfl (Or.inl rfl) (pe_op op_add (pe_op op_mul pe_int (pv 1)) (pe_op op_fdiv (pv 3) pe_int)))
  (pss_cons (ps_for PassesOwn.never rfl (pi_list (pe_dget (hu_of hr) (pv 0) pe_str (fun _ _ => rfl))) (pg_name (i := 5) sc__law_mixed.nd rfl (Or.inl rfl)) (pss_one (ps_set (i := 4) sc__law_mixed.nd rfl (Or.inl rfl) (pe_op op_mod (pe_callTy cl_int (by rfl) T.n_int (by decide +kernel) (pa_cons (pe_op op_add (pe_op op_add (pe_op op_mul (pv 4) pe_int) (pv 5)) (pv 1)) pa_nil)) (pv 3)))))
  (pss_one (ps_set (i := 2) sc__law_mixed.nd rfl (Or.inl rfl) (pe_op op_add (pe_op op_mul (pv 2) pe_int) (pe_op op_mod (pe_callTy cl_int (by rfl) T.n_int (by decide +kernel) (pa_cons (pe_op op_pow (pv 4) pe_int) pa_nil)) (pv 3))))))))
  (pss_one (ps_ret (pv 2)))))), ?p⟩
  case l =>
    rintro vs H Q E ⟨a, g, c, n, rfl, _⟩
    rfl
  case p =>
    rintro vs Q ⟨a, g, c, n, rfl, ⟨gs, cs, r, t, st, t0, tn⟩, hn, k⟩
    refine q_par (x := .int (t + 1)) (y := .int 0) (ea_cons (ev_op (ev_dget (ev_var rfl) st.hd stD_turn) (by wtm_at "ev") (by wtm_at "rv")) (ea_cons (by wtm_at "ev") ea_nil)) fun H1 e1 => ?_
    have st1 := st.ex e1
    refine q_dput ⟨_, rfl, dput_end (T := fun σ H => _) (ev_var rfl) st1.hd stD_len fun H2 e2 => ?_⟩
    rw [put_turn]
    have st2 : StD (upd H2 a (.dK (stD g c r (t + 1)))) a g c gs cs r (t + 1) := (st1.ex e2).put
    have kp2 : Kp a g H (upd H2 a (.dK (stD g c r (t + 1)))) := ((Kp.of e1).trans (Kp.of e2)).trans Kp.a
    generalize upd H2 a (.dK (stD g c r (t + 1))) = H3 at st2 kp2
    have hb : 0 ≤ 69621 * (t + 1) ∧ 69621 * (t + 1) < 100000000000000000 := by
      have h : n < 1000000000000 := hn
      omega
    refine q_forNLn (xs := primes.map V.int) (el_lst (vs := [.int 2147483629, .int 2147483647, .int 2147483563, .int 2147483587]) (by wtm_at "ea") (by decide)) (fun p i σ' H' => Ex H3 H' ∧ H' p = some (.lst (primes.map V.int)) ∧ ∃ (z : Int) (x y u : Option V), σ' = [some (.ref a), some (.int (t + 1)), some (.int z), x, y, u])
      (fun p H4 _ e4 h4 => ⟨e4, h4, 0, none, none, none, rfl⟩) (fun p i σ' H' _ q => sq_of q.2.1) ?_ ?_
    · rintro p i x σ' H' hx ⟨e4, hp, z, x', y, u, rfl⟩
      obtain ⟨q, rfl, q1, q2⟩ := primes_at i x hx
      have st4 := st2.ex e4
      refine q_asg (v := .int (69621 * (t + 1) + q / 41)) (by wtm_at "ev") fun H5 e5 => ?_
      have st5 := st4.ex e5
      refine q_forLn (a := c) (xs := cs.map V.int) (ev_dget (ev_var rfl) st5.hd stD_cells) (sq_of st5.hc) (fun i σ2 H6 => Ex H5 H6 ∧ ∃ (b : Int) (u : Option V), 0 ≤ b ∧ b < 1000000000000000000 ∧ σ2 = [some (.ref a), some (.int (t + 1)), some (.int z), some (.int q), some (.int b), u])
        (fun H6 e6 => ⟨e6, _, u, ?_, ?_, rfl⟩) (fun i σ2 H6 _ w => sq_of (st5.ex w.1).hc) ?_ ?_
      · omega
      · omega
      · rintro i x σ2 H6 hx ⟨e6, b, u, b0, b1, rfl⟩
        rw [List.getElem?_map] at hx
        obtain ⟨y, hy, rfl⟩ := Option.map_eq_some_iff.mp hx
        refine s_asg (v := .int ((b * 48271 + y + (t + 1)) % q)) (by wtm_at "ev") fun H7 e7 => ⟨e6.trans e7, _, _, ?_, ?_, rfl⟩
        · exact Int.emod_nonneg _ (by omega)
        · have := Int.emod_lt_of_pos (b * 48271 + y + (t + 1)) (show 0 < q by omega)
          omega
      · rintro σ2 H6 ⟨e6, b, u, b0, b1, rfl⟩
        refine s_asg (v := .int (z * 2147483659 + b ^ (5 : Int).toNat % q)) (ev_op (by wtm_at "ev") (ev_op (ev_intI (ev_op (by wtm_at "ev") (by wtm_at "ev") (rv_I ⟨by decide, by decide, by omega⟩))) (by wtm_at "ev") (rv_I (by omega))) (by wtm_at "rv")) fun H7 e7 => ?_
        exact ⟨((e4.trans e5).trans e6).trans e7, (e6.trans e7) _ _ (e5 _ _ hp), _, _, _, _, rfl⟩
    · rintro p σ' H' ⟨e4, hp, z, x', y, u, rfl⟩
      refine s_ret (v := .int z) (ev_var rfl) fun H5 e5 => ?_
      exact k z H5 (kp2.trans ((Kp.of e4).trans (Kp.of e5))) ⟨gs, cs, r, t + 1, st2.ex (e4.trans e5), by omega, by omega⟩
abbrev C__law_mixed (P : Program) (w : World) (K : PySem.W.Frag) (mg : Str → Option Value) (base : Heap) : Prop := Cl P w K mg base CX0 1 "_law_mixed" spMixedA
theorem ok__law_draw (T : Txt K mg) (c__law_mixed : C__law_mixed P w K mg base) (F : Fn K "_law_draw" s__law_draw f fd) : FnOk P w K mg base CX0 2 f fd ["state", "room"] spDrawA := by
  refine fn_run F sc__law_draw ?l fun cdv A outer s H E hr => ⟨_, (Evl.pss_cut (ps_if (pt_cmpR op_eq (pe_dget (hu_of hr) (pv 0) pe_str (fun _ _ => rfl)) pe_int (nomark _)) (pss_one (ps_dput (hu_of hr) (pv 0) pe_str (pe_ifExp (pt_cmpR (op_neD hr.units) (pe_dget (hu_of hr) (pv 0) pe_str (fun _ _ => rfl)) (pe_lst pa_nil) (nomark _)) (pe_bm PySem.F.plainAttrs_list PySem.F.slot_list_pop PySem.F.type_list_pop mt_popAt (pe_dget (hu_of hr) (pv 0) pe_str (fun _ _ => rfl)) (pa_cons pe_int pa_nil)) (pe_k c__law_mixed hr (by decide) rfl (by exact (pa_cons (pv 0) pa_nil)))) rfl)) pss_nil)
  (pss_cons (ps_set (i := 2) sc__law_draw.nd rfl (Or.inl rfl) (pe_op op_mod (pe_callTy cl_int (by rfl) T.n_int (by decide +kernel) (pa_cons (pe_dget (hu_of hr) (pv 0) pe_str (fun _ _ => rfl)) pa_nil)) (pv 1)))
  (pss_cons (ps_dput (hu_of hr) (pv 0) pe_str (pe_op op_fdivW (pe_dget (hu_of hr) (pv 0) pe_str (fun _ _ => rfl)) (pv 1)) rfl)
  (pss_one (ps_ret (pv 2)))))), ?p⟩
  case l =>
    rintro vs H Q E ⟨a, g, c, n, room, rfl, _⟩
    rfl
  case p =>
    rintro vs Q ⟨a, g, c, n, room, rfl, ⟨gs, cs, r, t, st, t0, tn⟩, hn, h0, hz, k⟩
    refine q_cut (M := fun σ' H' => σ' = [some (.ref a), some (.int room), none] ∧ Kp a g H H' ∧ StA H' a g c (n + 1)) ?_ ?_
    · refine s_when (b := decide (r = 0)) (et_is (et_test (ev_op (ev_dget (ev_var rfl) st.hd stD_rest) ev_c (by wtm_at "rv"))) (dec_vi' r 0)) (fun hb H1 e1 => ?_) fun hb H1 e1 => ?_
      · have st1 := st.ex e1
        have fin : ∀ (x : Int) (gs' : List Int) (H2 : Hp) (t' : Int), Kp a g H H2 → StD H2 a g c gs' cs r t' → 0 ≤ t' → t' ≤ (n + 1 : Nat) → (tVar 0) [some (.ref a), some (.int room), none] H2 fun x' H3 => ∃ a' H4, x' = .ref a' ∧ DPut H3 a' (.str "rest") (.int x) H4 ∧ [some (V.ref a), some (.int room), none] = [some (.ref a), some (.int room), none] ∧ Kp a g H H4 ∧ StA H4 a g c (n + 1) :=
          fun x gs' H2 t' kp st2 t0 tn => dput_end (T := fun σ' H4 => σ' = [some (.ref a), some (.int room), none] ∧ Kp a g H H4 ∧ StA H4 a g c (n + 1)) (ev_var rfl) st2.hd stD_len fun H3 e3 => ⟨rfl, (kp.trans (Kp.of e3)).trans Kp.a, gs', cs, x, t', by rw [put_rest]; exact (st2.ex e3).put, t0, tn⟩
        refine r_dput (r_if (b := !PyData.eqv (.list (gs.map .int)) (.list [])) (et_test (ev_neD (ed_ev (ev_dget (ev_var rfl) st1.hd stD_great) (.lst (sq_of st1.hg) (dps_ints gs))) (ed_lst eda_nil) (sh_ints gs) rfl)) (fun hb2 H2 e2 => ?_) fun hb2 H2 e2 => ?_)
        · have st2 := st1.ex e2
          rcases gs with _ | ⟨x, gs⟩
          · exact absurd hb2 (by decide)
          · refine r_pop0 (ev_dget (ev_var rfl) st2.hd stD_great) st2.hg fun H3 e3 => ?_
            have st3 := (st2.ex e3).pop (gs' := gs)
            exact fin x gs _ t (((Kp.of e1).trans (Kp.of e2)).trans ((Kp.of e3).trans Kp.g)) st3 t0 (by omega)
        · have st2 := st1.ex e2
          refine ⟨_, rfl, a, g, c, n, rfl, ⟨gs, cs, r, t, st2, t0, tn⟩, hn, fun x H3 kp3 st3 => ?_⟩
          obtain ⟨gs', cs', r', t', st3, t0', tn'⟩ := st3
          exact dput_end (T := fun σ' H4 => σ' = [some (.ref a), some (.int room), none] ∧ Kp a g H H4 ∧ StA H4 a g c (n + 1)) (ev_var rfl) st3.hd stD_len fun H4 e4 =>
            ⟨rfl, (((Kp.of e1).trans (Kp.of e2)).trans (kp3.trans (Kp.of e4))).trans Kp.a, gs', cs', x, t', by rw [put_rest]; exact (st3.ex e4).put, t0', tn'⟩
      · exact ⟨rfl, Kp.of e1, gs, cs, r, t, st.ex e1, t0, by omega⟩
    · rintro σ' H1 ⟨rfl, kp1, gs, cs, r, t, st1, t0, tn⟩
      refine q_asg (v := .int (r % room)) (ev_op (ev_intI (ev_dget (ev_var rfl) st1.hd stD_rest)) (by wtm_at "ev") (rv_I h0)) fun H2 e2 => ?_
      have st2 := st1.ex e2
      refine q_dput (ev_op (z := .int (r / room)) (ev_dget (ev_var rfl) st2.hd stD_rest) (ev_var rfl) (rv_I ⟨h0, hz⟩) H2 (Ex.refl H2) _ fun H3 e3 => dput_end (T := fun σ H => _) (ev_var rfl) (st2.ex e3).hd stD_len fun H4 e4 => ?_)
      refine s_ret (v := .int (r % room)) (ev_var rfl) fun H5 e5 => ?_
      refine k _ H5 (Int.emod_nonneg _ (by omega)) (Int.emod_lt_of_pos _ h0) ((((kp1.trans (Kp.of e2)).trans ((Kp.of e3).trans (Kp.of e4))).trans Kp.a).trans (Kp.of e5)) ⟨gs, cs, r / room, t, ?_, t0, tn⟩
      rw [put_rest] at e5
      exact ((st2.ex (e3.trans e4)).put).ex e5
end
end K81

/-! part Pb -/
namespace K81
open PySem PySem.Spec PyProof.Rows L2 Evl Lk LamX Mk
section
variable {P : Program} {w : World} {K : PySem.W.Frag} {mg : Str → Option Value} {base : Heap} {f : Addr} {fd : FuncData} {TT : List (Addr × Str)}
structure Cg (K : PySem.W.Frag) (mg : Str → Option Value) : Prop where
  ex : ∃ g fd, Fn K "_law_caught" s__law_caught g fd ∧ mg "_law_caught" = some (.ref g)
  ke : mg "KeptError" = some (.ref (He.ga K "KeptError"))
/-- caught(lambda: f(..)) -/
theorem e_caught {X : Cx} {j k k0 : Nat} {xd q y : Str} {G : Den} {W : WX} {mr : MA} {ta : TA} {params : Arguments} {e : Expr} {es : List Expr} {scope : Scope} {p p1 p2 lpos pos : Pos} (hr : Room j X.A) (Gc : Cg X.K X.mg) (LD : LamD X.K X.mg X.base TT xd q)
    (hg : Gl X "_law_caught") (hcode : X.env.code = .ref (He.codeOf X.K (xd, none))) (hq : X.env.qual ++ "<lambda>" = q) (hk : k + 2 ≤ j) (L : LamS X.env.scope scope) (hdef : defaultsOf params X.env = ([], []))
    (hbind : ∀ (q : Str) (cl : List (Str × Addr)) (pm cv ctv : Value), bindArgs (PySem.W.kla_fn "<lambda>" q params (.Call (.Name y p1) (e :: es) [] p2) scope cl pm cv ctv) ⟨[], []⟩ = pure [])
    (c : Cd X.prog X.w X.K X.mg X.base TT k0 y G) (hk0 : k0 ≤ k) (hgl : ∀ (A : Around) (outer : List Env) (s : Shared) (H : Hp) (E : XK) (f' c' : Addr), Gl (lamCx X A outer s H E scope f' c') y)
    (ha : ∀ (A : Around) (outer : List Env) (s : Shared) (H : Hp) (E : XK) (f' c' : Addr) (W : WX), QA (lamCx X A outer s H E scope f' c') K TT W (e :: es) ta mr) (hK : X.K = K := by rfl)
    (hdb : (y == ("__debug__" : Str)) = false := by decide) (he : ∀ (A : Around) (outer : List Env) (s : Shared) (H : Hp) (E : XK) (f' c' : Addr), starEach (e :: es) (lamCx X A outer s H E scope f' c').env = (false, eval e (lamCx X A outer s H E scope f' c').env) :: starEach es (lamCx X A outer s H E scope f' c').env := by intros; rfl)
    (hpl : ∀ (A : Around) (outer : List Env) (s : Shared) (H : Hp) (E : XK) (f' c' : Addr), (backTo p2 (starEach es (lamCx X A outer s H E scope f' c').env)).any (·.1) = false := by intros; rfl) :
    QE X K TT W (.Call (.Name "_law_caught" p) [.Lambda params (.Call (.Name y p1) (e :: es) [] p2) scope lpos] [] pos) (tCg TT X.K (He.ga X.K "KeptError") (spM X.K TT G) ta) (mCaught K (He.ga K "KeptError") (mCall G mr)) := by
  subst hK
  obtain ⟨g, fd, D, hm⟩ := Gc.ex
  refine ⟨?_, sim_caught (fun W => (ha X.A [] X.s_0 X.H_0 (fun _ _ _ => False) 0 0 W).s) rfl rfl⟩
  exact pe_caught (k := k) (a := "action") (n := "error") (y := "found") (e := "KeptError") D hg hm rfl (fun _ _ _ _ _ _ us hl => match us, hl with | [_], _ => rfl) sc__law_caught sc__law_caught.nd (.inl rfl) rfl Gc.ke rfl rfl rfl rfl rfl rfl rfl (by decide) (by decide) (by decide)
    LD hcode hq (hr.mono hk) L hdef hbind fun A outer s H E f' c' hr' => pe_kR (takes_of rfl rfl rfl rfl) c hr' hk0 (hgl A outer s H E f' c') (ha A outer s H E f' c' (fun cls d _ H => E cls d H)).p hdb (he A outer s H E f' c') (hpl A outer s H E f' c')
theorem ok__law_pick (T : Txt K mg) (c__law_draw : Cd P w K mg base TT 2 "_law_draw" dDraw) (F : Fn K "_law_pick" s__law_pick f fd) : FnOk P w K mg base (L2.CX P w) 3 f fd ["state", "some"] (spM K TT (d__law_pick K)) :=
  fn_m F sc__law_pick fun cdv A outer s H E hr => ⟨_, (b_one (s_ret (e_ix (e_v 1) (e_call0 c__law_draw hr (by decide) rfl (a_cons (e_v 0) (a_cons (e_cb (callOr cl_len call_len_str) ps_len (by rfl) T.n_len (by decide +kernel) (a_cons (e_v 1) a_nil)) a_nil))) (fun _ _ => rfl))))⟩
theorem ok__law_plan (T : Txt K mg) (c__law_draw : Cd P w K mg base TT 2 "_law_draw" dDraw) (c__law_pick : Cd P w K mg base TT 3 "_law_pick" (d__law_pick K)) (F : Fn K "_law_plan" s__law_plan f fd) : FnOk P w K mg base (L2.CX P w) 4 f fd ["state", "modes", "many"] (spM K TT (d__law_plan K)) :=
  fn_m F sc__law_plan fun cdv A outer s H E hr => ⟨_, (b_cons (s_par (i := 3) (j := 4) (by rfl) sc__law_plan.nd rfl rfl (by decide) rfl rfl (m_cons (e_sortSetI rfl hr.units (by rfl) T.n_sorted (by rfl) T.n_set (by exact (e_lc (own := [("lap", 5)]) (by rfl) sc__law_plan.nd (i_rng1 (by rfl) T.n_range (f_cons (e_call0 c__law_draw hr (by decide) rfl (a_cons (e_v 0) (a_cons (e_v 2) a_nil))) a_nil)) (blkOk_by (own := [("lap", 5)]) (N := N__law_plan) (sc := defScope s__law_plan) (by decide +kernel)) (fun _ _ _ _ _ => by exact (g_n (i := 5) sc__law_plan.nd rfl (Or.inl rfl))) (gonly_n (by decide)) (fun _ _ _ _ _ => by exact ts_nil) (fun _ _ _ _ _ => by exact (e_add e_int (e_call0 c__law_draw hr (by decide) rfl (a_cons (e_v 0) (a_cons e_int a_nil)))))))) (m_cons (e_lst a_nil) a_nil)) (by rfl))
  (b_cons (s_for (passes_of rfl) rfl (i_any (e_add (e_lst (f_cons e_int a_nil)) (e_v 3))) (g_n (i := 6) sc__law_plan.nd rfl (Or.inl rfl)) (b_cons (s_set (i := 7) sc__law_plan.nd rfl (Or.inl rfl) (e_call0 c__law_pick hr (by decide) rfl (a_cons (e_v 0) (a_cons (e_v 1) a_nil))))
  (b_one (s_if (t_w (w_or (t_cmp (c_eq hr.units) (e_v 4) (e_lst a_nil) (nomark _)) (w_or1 (t_cmp (c_ne hr.units) (e_ix (e_ix (e_v 4) (e_sub (e_cb (callOr cl_len call_len_str) ps_len (by rfl) T.n_len (by decide +kernel) (a_cons (e_v 4) a_nil)) e_int) (fun _ _ => rfl)) e_int (fun _ _ => rfl)) (e_v 7) (nomark _))))) (b_one (s_expr (e_lm PySem.F.plainAttrs_list PySem.F.slot_list_append PySem.F.type_list_append mt_append ls_append (i := 4) (by rfl) (Or.inl rfl) (by decide) (by decide) (f_cons (e_tup (f_cons (e_v 6) (f_cons (e_v 7) a_nil))) a_nil)))) b_nil))))
  (b_one (s_ret (e_tuple (by rfl) T.n_tuple (e_v 4))))))⟩
theorem ok__law_leap (T : Txt K mg) (F : Fn K "_law_leap" s__law_leap f fd) : FnOk P w K mg base (L2.CX P w) 1 f fd ["year"] (spM K TT (d__law_leap K)) :=
  fn_m F sc__law_leap fun cdv A outer s H E hr => ⟨_, (b_one (s_ret (e_or (e_cmp (c_eq hr.units) (e_mod (e_cty cl_int ps_int (by rfl) T.n_int (by decide +kernel) (a_cons (e_v 0) a_nil)) e_int) e_int (nomark _)) (e_one (e_and (e_cmp (c_eq hr.units) (e_mod (e_cty cl_int ps_int (by rfl) T.n_int (by decide +kernel) (a_cons (e_v 0) a_nil)) e_int) e_int (nomark _)) (e_one (e_cmp (c_ne hr.units) (e_mod (e_cty cl_int ps_int (by rfl) T.n_int (by decide +kernel) (a_cons (e_v 0) a_nil)) e_int) e_int (nomark _))))))))⟩
theorem ok__law_month (T : Txt K mg) (c__law_leap : Cd P w K mg base TT 1 "_law_leap" (d__law_leap K)) (F : Fn K "_law_month" s__law_month f fd) : FnOk P w K mg base (L2.CX P w) 2 f fd ["year", "month"] (spM K TT (d__law_month K)) :=
  fn_m F sc__law_month fun cdv A outer s H E hr => ⟨_, (b_cons (s_if (t_cmp (c_eq hr.units) (e_v 1) e_int (nomark _)) (b_one (s_ret (e_if (t_val (e_call0 c__law_leap hr (by decide) rfl (a_cons (e_v 0) a_nil))) e_int e_int))) b_nil)
  (b_one (s_ret (e_if (t_cmp (c_in (units1 hr)) (e_v 1) (e_lst (f_cons e_int (f_cons e_int (f_cons e_int (f_cons e_int a_nil))))) (by rfl)) e_int e_int))))⟩
theorem ok__law_day_rule (n : Nat) (T : Txt K mg) (c__law_draw : Cd P w K mg base TT 2 "_law_draw" dDraw) (c__law_pick : Cd P w K mg base TT 3 "_law_pick" (d__law_pick K)) (c__law_month : Cd P w K mg base TT 2 "_law_month" (d__law_month K)) (c__law_day_rule : Cd P w K mg base TT (3 + n) "_law_day_rule" (d__law_day_rule K n)) (F : Fn K "_law_day_rule" s__law_day_rule f fd) : FnOk P w K mg base (L2.CX P w) (3 + n + 1) f fd ["state", "deep"] (spM K TT (d__law_day_rule K (n + 1))) :=
  fn_m F sc__law_day_rule fun cdv A outer s H E hr => ⟨_, (b_cons (s_par (i := 2) (j := 3) (by rfl) sc__law_day_rule.nd rfl rfl (by decide) rfl rfl (m_cons (e_call0 c__law_draw hr (by omega) rfl (a_cons (e_v 0) (a_cons e_int a_nil))) (m_cons (e_add e_int (e_call0 c__law_draw hr (by omega) rfl (a_cons (e_v 0) (a_cons e_int a_nil)))) a_nil)) (by rfl))
  (b_cons (s_if (t_w (w_and (t_cmp c_gt (e_v 1) e_int (nomark _)) (w_and1 (t_cmp c_lt (e_v 2) e_int (nomark _))))) (b_cons (s_set (i := 4) sc__law_day_rule.nd rfl (Or.inl rfl) (e_call0 c__law_pick hr (by omega) rfl (a_cons (e_v 0) (a_cons (e_lst (f_cons e_int (f_cons (e_neg e_int) (f_cons e_int (f_cons (e_neg e_int) (f_cons e_int (f_cons (e_neg e_int) (f_cons e_int (f_cons e_int a_nil))))))))) a_nil))))
  (b_one (s_ret (e_tup (f_cons e_str (f_cons (e_call0 c__law_day_rule hr (by omega) rfl (a_cons (e_v 0) (a_cons (e_sub (e_v 1) e_int) a_nil))) (f_cons (e_v 4) a_nil))))))) b_nil)
  (b_cons (s_if (t_w (w_and (t_cmp c_gt (e_v 1) e_int (nomark _)) (w_and1 (t_cmp (c_eq hr.units) (e_v 2) e_int (nomark _))))) (b_one (s_ret (e_tup (f_cons e_str (f_cons (e_call0 c__law_day_rule hr (by omega) rfl (a_cons (e_v 0) (a_cons (e_sub (e_v 1) e_int) a_nil))) (f_cons (e_call0 c__law_draw hr (by omega) rfl (a_cons (e_v 0) (a_cons e_int a_nil))) (f_cons (e_call0 c__law_pick hr (by omega) rfl (a_cons (e_v 0) (a_cons (e_lst (f_cons e_int (f_cons e_int (f_cons (e_neg e_int) (f_cons e_int (f_cons (e_neg e_int) (f_cons (e_neg e_int) a_nil))))))) a_nil))) a_nil))))))) b_nil)
  (b_cons (s_if (t_cmp (c_eq hr.units) (e_v 2) e_int (nomark _)) (b_one (s_ret (e_tup (f_cons e_str (f_cons (e_call0 c__law_pick hr (by omega) rfl (a_cons (e_v 0) (a_cons (e_lst (f_cons (e_v 3) (f_cons e_int a_nil))) a_nil))) (f_cons (e_call0 c__law_draw hr (by omega) rfl (a_cons (e_v 0) (a_cons e_int a_nil))) (f_cons (e_call0 c__law_pick hr (by omega) rfl (a_cons (e_v 0) (a_cons (e_lst (f_cons e_int (f_cons (e_neg e_int) (f_cons e_int (f_cons e_int (f_cons e_int a_nil)))))) a_nil))) a_nil))))))) b_nil)
  (b_cons (s_set (i := 3) sc__law_day_rule.nd rfl (Or.inl rfl) (e_call0 c__law_pick hr (by omega) rfl (a_cons (e_v 0) (a_cons (e_lst (f_cons (e_v 3) (f_cons e_int (f_cons e_int (f_cons e_int a_nil))))) a_nil))))
  (b_one (s_ret (e_tup (f_cons e_str (f_cons (e_v 3) (f_cons (e_call0 c__law_pick hr (by omega) rfl (a_cons (e_v 0) (a_cons (e_lst (f_cons e_int (f_cons (e_call0 c__law_month hr (by omega) rfl (a_cons e_int (a_cons (e_v 3) a_nil))) (f_cons (e_add e_int (e_call0 c__law_draw hr (by omega) rfl (a_cons (e_v 0) (a_cons e_int a_nil)))) a_nil)))) a_nil))) a_nil)))))))))))⟩
theorem ok__law_year (T : Txt K mg) (c__law_draw : Cd P w K mg base TT 2 "_law_draw" dDraw) (c__law_pick : Cd P w K mg base TT 3 "_law_pick" (d__law_pick K)) (F : Fn K "_law_year" s__law_year f fd) : FnOk P w K mg base (L2.CX P w) 4 f fd ["state"] (spM K TT (d__law_year K)) :=
  fn_m F sc__law_year fun cdv A outer s H E hr => ⟨_, (b_cons (s_set (i := 1) sc__law_year.nd rfl (Or.inl rfl) (e_add e_int (e_call0 c__law_draw hr (by decide) rfl (a_cons (e_v 0) (a_cons (e_sub (e_pow e_int e_int) e_int) a_nil)))))
  (b_cons (s_set (i := 2) sc__law_year.nd rfl (Or.inl rfl) (e_lst (f_cons (e_add e_int (e_call0 c__law_draw hr (by decide) rfl (a_cons (e_v 0) (a_cons e_int a_nil)))) (f_cons (e_add e_int (e_call0 c__law_draw hr (by decide) rfl (a_cons (e_v 0) (a_cons e_int a_nil)))) (f_cons (e_add e_int (e_call0 c__law_draw hr (by decide) rfl (a_cons (e_v 0) (a_cons e_int a_nil)))) (f_cons (e_v 1) (f_cons e_int (f_cons e_int (f_cons e_int (f_cons (e_v 1) a_nil))))))))))
  (b_one (s_ret (e_call0 c__law_pick hr (by decide) rfl (a_cons (e_v 0) (a_cons (e_v 2) a_nil)))))))⟩
theorem ok__law_date (T : Txt K mg) (c__law_year : Cd P w K mg base TT 4 "_law_year" (d__law_year K)) (c__law_pick : Cd P w K mg base TT 3 "_law_pick" (d__law_pick K)) (c__law_draw : Cd P w K mg base TT 2 "_law_draw" dDraw) (c__law_month : Cd P w K mg base TT 2 "_law_month" (d__law_month K)) (F : Fn K "_law_date" s__law_date f fd) : FnOk P w K mg base (L2.CX P w) 5 f fd ["state"] (spM K TT (d__law_date K)) :=
  fn_m F sc__law_date fun cdv A outer s H E hr => ⟨_, (b_cons (s_set (i := 1) sc__law_date.nd rfl (Or.inl rfl) (e_call0 c__law_year hr (by decide) rfl (a_cons (e_v 0) a_nil)))
  (b_cons (s_set (i := 2) sc__law_date.nd rfl (Or.inl rfl) (e_call0 c__law_pick hr (by decide) rfl (a_cons (e_v 0) (a_cons (e_lst (f_cons (e_add e_int (e_call0 c__law_draw hr (by decide) rfl (a_cons (e_v 0) (a_cons e_int a_nil)))) (f_cons e_int (f_cons e_int (f_cons e_int a_nil))))) a_nil))))
  (b_cons (s_set (i := 3) sc__law_date.nd rfl (Or.inl rfl) (e_call0 c__law_month hr (by decide) rfl (a_cons (e_v 1) (a_cons (e_v 2) a_nil))))
  (b_one (s_ret (e_tup (f_cons (e_v 1) (f_cons (e_v 2) (f_cons (e_call0 c__law_pick hr (by decide) rfl (a_cons (e_v 0) (a_cons (e_lst (f_cons (e_add e_int (e_call0 c__law_draw hr (by decide) rfl (a_cons (e_v 0) (a_cons (e_v 3) a_nil)))) (f_cons (e_v 3) (f_cons e_int (f_cons (e_cb (cl_min rfl) ps_min2 (by rfl) T.n_min (by decide +kernel) (a_cons (e_v 3) (a_cons e_int a_nil))) a_nil))))) a_nil))) a_nil)))))))))⟩
theorem ok__law_calendar (T : Txt K mg) (c__law_plan : Cd P w K mg base TT 4 "_law_plan" (d__law_plan K)) (c__law_pick : Cd P w K mg base TT 3 "_law_pick" (d__law_pick K)) (c__law_day_rule : Cd P w K mg base TT 8 "_law_day_rule" (d__law_day_rule K 5)) (c__law_date : Cd P w K mg base TT 5 "_law_date" (d__law_date K)) (F : Fn K "_law_calendar" s__law_calendar f fd) : FnOk P w K mg base (L2.CX P w) 9 f fd ["state", "modes", "dense"] (spM K TT (d__law_calendar K)) :=
  fn_m F sc__law_calendar fun cdv A outer s H E hr => ⟨_, (b_cons (s_set (i := 3) sc__law_calendar.nd rfl (Or.inr rfl) (by exact (e_lc (own := [("lap", 4)]) (by rfl) sc__law_calendar.nd (i_rng1 (by rfl) T.n_range (f_cons e_int a_nil)) (blkOk_by (own := [("lap", 4)]) (N := N__law_calendar) (sc := defScope s__law_calendar) (by decide +kernel)) (fun _ _ _ _ _ => by exact (g_n (i := 4) sc__law_calendar.nd rfl (Or.inl rfl))) (gonly_n (by decide)) (fun _ _ _ _ _ => by exact ts_nil) (fun _ _ _ _ _ => by exact (e_call0 c__law_plan hr (by decide) rfl (a_cons (e_v 0) (a_cons (e_v 1) (a_cons (e_if (t_val (e_v 2)) e_int e_int) a_nil))))))))
  (b_cons (s_set (i := 5) sc__law_calendar.nd rfl (Or.inl rfl) (e_if (t_val (e_v 2)) (e_tuple (by rfl) T.n_tuple (by exact (e_lc (own := [("lap", 4)]) (by rfl) sc__law_calendar.nd (i_rng1 (by rfl) T.n_range (f_cons e_int a_nil)) (blkOk_by (own := [("lap", 4)]) (N := N__law_calendar) (sc := defScope s__law_calendar) (by decide +kernel)) (fun _ _ _ _ _ => by exact (g_n (i := 4) sc__law_calendar.nd rfl (Or.inl rfl))) (gonly_n (by decide)) (fun _ _ _ _ _ => by exact ts_nil) (fun _ _ _ _ _ => by exact (e_call0 c__law_pick hr (by decide) rfl (a_cons (e_v 0) (a_cons (e_sl (e_v 3) o_none (o_some e_int)) a_nil))))))) (e_mul (e_tup (f_cons (e_ix (e_v 3) e_int (fun _ _ => rfl)) a_nil)) e_int)))
  (b_cons (s_set (i := 6) sc__law_calendar.nd rfl (Or.inl rfl) (e_tuple (by rfl) T.n_tuple (by exact (e_lc (own := [("lap", 4)]) (by rfl) sc__law_calendar.nd (i_rng1 (by rfl) T.n_range (f_cons (e_call0 c__law_pick hr (by decide) rfl (a_cons (e_v 0) (a_cons (e_lst (f_cons e_int (f_cons e_int (f_cons e_int (f_cons e_int (f_cons e_int a_nil)))))) a_nil))) a_nil)) (blkOk_by (own := [("lap", 4)]) (N := N__law_calendar) (sc := defScope s__law_calendar) (by decide +kernel)) (fun _ _ _ _ _ => by exact (g_n (i := 4) sc__law_calendar.nd rfl (Or.inl rfl))) (gonly_n (by decide)) (fun _ _ _ _ _ => by exact ts_nil) (fun _ _ _ _ _ => by exact (e_tup (f_cons (e_call0 c__law_day_rule hr (by decide) rfl (a_cons (e_v 0) (a_cons e_int a_nil))) (f_cons (e_call0 c__law_plan hr (by decide) rfl (a_cons (e_v 0) (a_cons (e_v 1) (a_cons e_int a_nil)))) a_nil))))))))
  (b_cons (s_set (i := 7) sc__law_calendar.nd rfl (Or.inl rfl) (e_sortSetT rfl hr.units (by rfl) T.n_sorted (by rfl) T.n_set (by exact (e_lc (own := [("lap", 4)]) (by rfl) sc__law_calendar.nd (i_rng1 (by rfl) T.n_range (f_cons (e_call0 c__law_pick hr (by decide) rfl (a_cons (e_v 0) (a_cons (e_lst (f_cons e_int (f_cons e_int (f_cons e_int (f_cons e_int a_nil))))) a_nil))) a_nil)) (blkOk_by (own := [("lap", 4)]) (N := N__law_calendar) (sc := defScope s__law_calendar) (by decide +kernel)) (fun _ _ _ _ _ => by exact (g_n (i := 4) sc__law_calendar.nd rfl (Or.inl rfl))) (gonly_n (by decide)) (fun _ _ _ _ _ => by exact ts_nil) (fun _ _ _ _ _ => by exact (e_call0 c__law_date hr (by decide) rfl (a_cons (e_v 0) a_nil)))))))
  (b_one (s_ret (e_tup (f_cons e_str (f_cons (e_v 5) (f_cons (e_v 6) (f_cons (e_tuple (by rfl) T.n_tuple (by exact (e_lc (own := [("day", 8)]) (by rfl) sc__law_calendar.nd (i_any (e_v 7)) (blkOk_by (own := [("day", 8)]) (N := N__law_calendar) (sc := defScope s__law_calendar) (by decide +kernel)) (fun _ _ _ _ _ => by exact (g_n (i := 8) sc__law_calendar.nd rfl (Or.inl rfl))) (gonly_n (by decide)) (fun _ _ _ _ _ => by exact ts_nil) (fun _ _ _ _ _ => by exact (e_tup (f_cons (e_v 8) (f_cons (e_call0 c__law_plan hr (by decide) rfl (a_cons (e_v 0) (a_cons (e_v 1) (a_cons e_int a_nil)))) a_nil))))))) a_nil)))))))))))⟩
theorem ok__law_number (T : Txt K mg) (F : Fn K "_law_number" s__law_number f fd) : FnOk P w K mg base (L2.CX P w) 1 f fd ["date"] (spM K TT (d__law_number K)) :=
  fn_m F sc__law_number fun cdv A outer s H E hr => ⟨_, (b_cons (s_asgG (e_v 0) (g_tup rfl (gs_cons (g_n (i := 1) sc__law_number.nd rfl (Or.inl rfl)) (gs_cons (g_n (i := 2) sc__law_number.nd rfl (Or.inl rfl)) (gs_cons (g_n (i := 3) sc__law_number.nd rfl (Or.inl rfl)) gs_nil)))))
  (b_cons (s_set (i := 4) sc__law_number.nd rfl (Or.inl rfl) (e_if (t_cmp c_lt (e_v 2) e_int (nomark _)) (e_sub (e_v 1) e_int) (e_v 1)))
  (b_cons (s_set (i := 5) sc__law_number.nd rfl (Or.inl rfl) (e_if (t_cmp c_gt (e_v 2) e_int (nomark _)) (e_sub (e_v 2) e_int) (e_add (e_v 2) e_int)))
  (b_cons (s_par (i := 6) (j := 7) (by rfl) sc__law_number.nd rfl rfl (by decide) rfl rfl (m_cons (e_fdiv (e_v 4) e_int) (m_cons (e_sub (e_v 4) (e_mul (e_fdiv (e_v 4) e_int) e_int)) a_nil)) (by rfl))
  (b_cons (s_set (i := 8) sc__law_number.nd rfl (Or.inl rfl) (e_sub (e_add (e_fdiv (e_add (e_mul e_int (e_v 5)) e_int) e_int) (e_v 3)) e_int))
  (b_one (s_ret (e_sub (e_add (e_sub (e_add (e_add (e_mul (e_v 6) e_int) (e_mul (e_v 7) e_int)) (e_fdiv (e_v 7) e_int)) (e_fdiv (e_v 7) e_int)) (e_v 8)) e_int))))))))⟩
theorem ok__law_when_day (n : Nat) (T : Txt K mg) (c__law_month : Cd P w K mg base TT 2 "_law_month" (d__law_month K)) (c__law_number : Cd P w K mg base TT 1 "_law_number" (d__law_number K)) (c__law_when_day : Cd P w K mg base TT (2 + n) "_law_when_day" (d__law_when_day K n)) (F : Fn K "_law_when_day" s__law_when_day f fd) : FnOk P w K mg base (L2.CX P w) (2 + n + 1) f fd ["when", "year"] (spM K TT (d__law_when_day K (n + 1))) :=
  fn_m F sc__law_when_day fun cdv A outer s H E hr => ⟨_, (b_cons (s_if (t_cmp (c_eq hr.units) (e_ix (e_v 0) e_int (fun _ _ => rfl)) e_str (nomark _)) (b_one (s_ret (e_if (t_cmp (c_le hr.units0) (e_ix (e_v 0) e_int (fun _ _ => rfl)) (e_call0 c__law_month hr (by omega) rfl (a_cons (e_v 1) (a_cons (e_ix (e_v 0) e_int (fun _ _ => rfl)) a_nil))) (nomark _)) (e_call0 c__law_number hr (by omega) rfl (a_cons (e_tup (f_cons (e_v 1) (f_cons (e_ix (e_v 0) e_int (fun _ _ => rfl)) (f_cons (e_ix (e_v 0) e_int (fun _ _ => rfl)) a_nil)))) a_nil)) e_non))) b_nil)
  (b_cons (s_if (t_cmp (c_eq hr.units) (e_ix (e_v 0) e_int (fun _ _ => rfl)) e_str (nomark _)) (b_cons (s_parN (is := [2, 3]) rfl (m_cons (e_call0 c__law_number hr (by omega) rfl (a_cons (e_tup (f_cons (e_v 1) (f_cons (e_ix (e_v 0) e_int (fun _ _ => rfl)) (f_cons e_int a_nil)))) a_nil)) (m_cons (e_call0 c__law_month hr (by omega) rfl (a_cons (e_v 1) (a_cons (e_ix (e_v 0) e_int (fun _ _ => rfl)) a_nil))) a_nil)) (gs_cons (g_n (i := 2) sc__law_when_day.nd rfl (Or.inr rfl)) (gs_cons (g_n (i := 3) sc__law_when_day.nd rfl (Or.inl rfl)) gs_nil)) rfl rfl (by decide))
  (b_cons (s_setLc (i := 4) (own := [("at", 5)]) (by rfl) sc__law_when_day.nd rfl rfl (sw_true rfl rfl rfl (by decide +kernel)) (i_rng1 (by rfl) T.n_range (f_cons (e_v 3) a_nil)) (blkOk_by (own := [("at", 5)]) (N := N__law_when_day) (sc := defScope s__law_when_day) (by decide +kernel)) (fun _ _ _ _ _ => by exact (g_n (i := 5) sc__law_when_day.nd rfl (Or.inl rfl))) (gonly_n (by decide)) (fun _ _ _ _ _ => by exact (ts_one (t_cmp (c_eq hr.units) (e_mod (e_cty cl_int ps_int (by rfl) T.n_int (by decide +kernel) (a_cons (e_add (e_v 2) (e_v 5)) a_nil)) e_int) (e_ix (e_v 0) e_int (fun _ _ => rfl)) (nomark _)))) (fun _ _ _ _ _ => by exact (e_add (e_v 2) (e_v 5))))
  (b_cons (s_if (t_cmp (c_eq hr.units) (e_ix (e_v 0) e_int (fun _ _ => rfl)) (e_neg e_int) (nomark _)) (b_one (s_ret (e_ix (e_v 4) (e_sub (e_cb (callOr cl_len call_len_str) ps_len (by rfl) T.n_len (by decide +kernel) (a_cons (e_v 4) a_nil)) e_int) (fun _ _ => rfl)))) b_nil)
  (b_one (s_ret (e_if (t_cmp (c_le hr.units0) (e_ix (e_v 0) e_int (fun _ _ => rfl)) (e_cb (callOr cl_len call_len_str) ps_len (by rfl) T.n_len (by decide +kernel) (a_cons (e_v 4) a_nil)) (nomark _)) (e_ix (e_v 4) (e_sub (e_ix (e_v 0) e_int (fun _ _ => rfl)) e_int) (fun _ _ => rfl)) e_non)))))) b_nil)
  (b_cons (s_set (i := 6) sc__law_when_day.nd rfl (Or.inl rfl) (e_call0 c__law_when_day hr (by omega) rfl (a_cons (e_ix (e_v 0) e_int (fun _ _ => rfl)) (a_cons (e_v 1) a_nil))))
  (b_cons (s_if (t_w (w_or (t_cmp c_isN (e_v 6) e_non (nomark _)) (w_or1 (t_w (w_and (t_cmp (c_eq hr.units) (e_ix (e_v 0) e_int (fun _ _ => rfl)) e_str (nomark _)) (w_and1 (t_cmp (c_ne hr.units) (e_mod (e_cty cl_int ps_int (by rfl) T.n_int (by decide +kernel) (a_cons (e_v 6) a_nil)) e_int) (e_ix (e_v 0) e_int (fun _ _ => rfl)) (nomark _)))))))) (b_one (s_ret (e_v 6))) b_nil)
  (b_one (s_ret (e_add (e_v 6) (e_ix (e_v 0) (e_sub (e_cb (callOr cl_len call_len_str) ps_len (by rfl) T.n_len (by decide +kernel) (a_cons (e_v 0) a_nil)) e_int) (fun _ _ => rfl)))))))))⟩
theorem ok__law_dated (T : Txt K mg) (F : Fn K "_law_dated" s__law_dated f fd) : FnOk P w K mg base (L2.CX P w) 1 f fd ["number"] (spM K TT (d__law_dated K)) :=
  fn_m F sc__law_dated fun cdv A outer s H E hr => ⟨_, (b_cons (s_set (i := 1) sc__law_dated.nd rfl (Or.inl rfl) (e_add (e_v 0) e_int))
  (b_cons (s_par (i := 2) (j := 3) (by rfl) sc__law_dated.nd rfl rfl (by decide) rfl rfl (m_cons (e_fdiv (e_v 1) e_int) (m_cons (e_sub (e_v 1) (e_mul (e_fdiv (e_v 1) e_int) e_int)) a_nil)) (by rfl))
  (b_cons (s_set (i := 4) sc__law_dated.nd rfl (Or.inl rfl) (e_fdiv (e_sub (e_add (e_sub (e_v 3) (e_fdiv (e_v 3) e_int)) (e_fdiv (e_v 3) e_int)) (e_fdiv (e_v 3) e_int)) e_int))
  (b_cons (s_set (i := 5) sc__law_dated.nd rfl (Or.inl rfl) (e_sub (e_v 3) (e_sub (e_add (e_mul e_int (e_v 4)) (e_fdiv (e_v 4) e_int)) (e_fdiv (e_v 4) e_int))))
  (b_cons (s_set (i := 6) sc__law_dated.nd rfl (Or.inl rfl) (e_fdiv (e_add (e_mul e_int (e_v 5)) e_int) e_int))
  (b_cons (s_par (i := 7) (j := 8) (by rfl) sc__law_dated.nd rfl rfl (by decide) rfl rfl (m_cons (e_add (e_sub (e_v 5) (e_fdiv (e_add (e_mul e_int (e_v 6)) e_int) e_int)) e_int) (m_cons (e_if (t_cmp c_lt (e_v 6) e_int (nomark _)) (e_add (e_v 6) e_int) (e_sub (e_v 6) e_int)) a_nil)) (by rfl))
  (b_one (s_ret (e_tup (f_cons (e_add (e_add (e_v 4) (e_mul (e_v 2) e_int)) (e_cty cl_int ps_int (by rfl) T.n_int (by decide +kernel) (a_cons (e_cmp c_lt (e_v 8) e_int (nomark _)) a_nil))) (f_cons (e_v 8) (f_cons (e_v 7) a_nil))))))))))))⟩
theorem ok_is_whole (T : Txt K mg) (F : Fn K "is_whole" s_is_whole f fd) : FnOk P w K mg base (L2.CX P w) 1 f fd ["value", "low", "high"] (spM K TT (d_is_whole K)) :=
  fn_m F sc_is_whole fun cdv A outer s H E hr => ⟨_, (b_one (s_ret (e_and (e_isi Lk.kit_int (by rfl) T.n_isinstance (by rfl) T.n_int (by decide +kernel) (e_v 0)) (e_and (e_not (e_isi Lk.kit_bool (by rfl) T.n_isinstance (by rfl) T.n_bool (by decide +kernel) (e_v 0))) (e_one (e_chain (c_le hr.units0) (c_le hr.units0) (e_v 1) (e_v 0) (e_v 2)))))))⟩
theorem ok_need_year (T : Txt K mg) (c_is_whole : Cd P w K mg base TT 1 "is_whole" (d_is_whole K)) (F : Fn K "need_year" s_need_year f fd) : FnOk P w K mg base (L2.CX P w) 2 f fd ["year"] (spM K TT (d_need_year K)) :=
  fn_m F sc_need_year fun cdv A outer s H E hr => ⟨_, (b_one (s_if (t_not (t_val (e_call0 c_is_whole hr (by decide) rfl (a_cons (e_v 0) (a_cons e_int (a_cons (e_gl rfl T.v_LAST_YEAR) a_nil)))))) (b_one (s_raise rfl (takes_of rfl rfl rfl rfl) T.x_BadYear rfl (raises_own T.x_BadYear.sb T.x_BadYear.ty))) b_nil))⟩
theorem ok_year_begin (T : Txt K mg) (F : Fn K "year_begin" s_year_begin f fd) : FnOk P w K mg base (L2.CX P w) 1 f fd ["year"] (spM K TT (d_year_begin K)) :=
  fn_m F sc_year_begin fun cdv A outer s H E hr => ⟨_, (b_cons (s_set (i := 1) sc_year_begin.nd rfl (Or.inl rfl) (e_sub (e_v 0) e_int))
  (b_one (s_ret (e_add (e_sub (e_add (e_mul e_int (e_v 1)) (e_fdiv (e_v 1) e_int)) (e_fdiv (e_v 1) e_int)) (e_fdiv (e_v 1) e_int)))))⟩
theorem ok_is_leap (T : Txt K mg) (F : Fn K "is_leap" s_is_leap f fd) : FnOk P w K mg base (L2.CX P w) 1 f fd ["year"] (spM K TT (d_is_leap K)) :=
  fn_m F sc_is_leap fun cdv A outer s H E hr => ⟨_, (b_one (s_ret (e_or (e_and (e_cmp (c_eq hr.units) (e_mod (e_v 0) e_int) e_int (nomark _)) (e_one (e_cmp (c_ne hr.units) (e_mod (e_v 0) e_int) e_int (nomark _)))) (e_one (e_cmp (c_eq hr.units) (e_mod (e_v 0) e_int) e_int (nomark _))))))⟩
theorem ok_month_days (T : Txt K mg) (c_is_leap : Cd P w K mg base TT 1 "is_leap" (d_is_leap K)) (F : Fn K "month_days" s_month_days f fd) : FnOk P w K mg base (L2.CX P w) 2 f fd ["year", "month"] (spM K TT (d_month_days K)) :=
  fn_m F sc_month_days fun cdv A outer s H E hr => ⟨_, (b_one (s_ret (e_if (t_w (w_and (t_cmp (c_eq hr.units) (e_v 1) e_int (nomark _)) (w_and1 (t_val (e_call0 c_is_leap hr (by decide) rfl (a_cons (e_v 0) a_nil)))))) e_int (e_ix (e_gl rfl T.v_LENGTHS) (e_sub (e_v 1) e_int) (fun _ _ => rfl)))))⟩
theorem ok_day_in_year (T : Txt K mg) (c_month_days : Cd P w K mg base TT 2 "month_days" (d_month_days K)) (F : Fn K "day_in_year" s_day_in_year f fd) : FnOk P w K mg base (L2.CX P w) 3 f fd ["year", "month", "day"] (spM K TT (d_day_in_year K)) :=
  fn_m F sc_day_in_year fun cdv A outer s H E hr => ⟨_, (b_one (s_ret (e_sub (e_add (e_cb (cr_sum rfl) ps_sum (by rfl) T.n_sum (by decide +kernel) (a_cons (by exact (e_lc (own := [("one", 3)]) (by rfl) sc_day_in_year.nd (i_rng2 (by rfl) T.n_range (f_cons e_int (f_cons (e_v 1) a_nil))) (blkOk_by (own := [("one", 3)]) (N := N_day_in_year) (sc := defScope s_day_in_year) (by decide +kernel)) (fun _ _ _ _ _ => by exact (g_n (i := 3) sc_day_in_year.nd rfl (Or.inl rfl))) (gonly_n (by decide)) (fun _ _ _ _ _ => by exact ts_nil) (fun _ _ _ _ _ => by exact (e_call0 c_month_days hr (by decide) rfl (a_cons (e_v 0) (a_cons (e_v 3) a_nil)))))) a_nil)) (e_v 2)) e_int)))⟩
theorem ok_nth_day (T : Txt K mg) (c_year_begin : Cd P w K mg base TT 1 "year_begin" (d_year_begin K)) (c_day_in_year : Cd P w K mg base TT 3 "day_in_year" (d_day_in_year K)) (c_month_days : Cd P w K mg base TT 2 "month_days" (d_month_days K)) (F : Fn K "nth_day" s_nth_day f fd) : FnOk P w K mg base (L2.CX P w) 4 f fd ["year", "month", "day", "n"] (spM K TT (d_nth_day K)) :=
  fn_m F sc_nth_day fun cdv A outer s H E hr => ⟨_, (b_cons (s_set (i := 4) sc_nth_day.nd rfl (Or.inr rfl) (e_add (e_call0 c_year_begin hr (by decide) rfl (a_cons (e_v 0) a_nil)) (e_call0 c_day_in_year hr (by decide) rfl (a_cons (e_v 0) (a_cons (e_v 1) (a_cons e_int a_nil))))))
  (b_cons (s_setLc (i := 5) (own := [("at", 6)]) (by rfl) sc_nth_day.nd rfl rfl (sw_true rfl rfl rfl (by decide +kernel)) (i_rng1 (by rfl) T.n_range (f_cons (e_call0 c_month_days hr (by decide) rfl (a_cons (e_v 0) (a_cons (e_v 1) a_nil))) a_nil)) (blkOk_by (own := [("at", 6)]) (N := N_nth_day) (sc := defScope s_nth_day) (by decide +kernel)) (fun _ _ _ _ _ => by exact (g_n (i := 6) sc_nth_day.nd rfl (Or.inl rfl))) (gonly_n (by decide)) (fun _ _ _ _ _ => by exact (ts_one (t_cmp (c_eq hr.units) (e_mod (e_add (e_v 4) (e_v 6)) e_int) (e_v 2) (nomark _)))) (fun _ _ _ _ _ => by exact (e_add (e_v 4) (e_v 6))))
  (b_cons (s_if (t_cmp (c_eq hr.units) (e_v 3) (e_neg e_int) (nomark _)) (b_one (s_ret (e_ix (e_v 5) (e_sub (e_cb (callOr cl_len call_len_str) ps_len (by rfl) T.n_len (by decide +kernel) (a_cons (e_v 5) a_nil)) e_int) (fun _ _ => rfl)))) b_nil)
  (b_one (s_ret (e_if (t_cmp (c_le hr.units0) (e_v 3) (e_cb (callOr cl_len call_len_str) ps_len (by rfl) T.n_len (by decide +kernel) (a_cons (e_v 5) a_nil)) (nomark _)) (e_ix (e_v 5) (e_sub (e_v 3) e_int) (fun _ _ => rfl)) e_non))))))⟩
theorem ok_day_of (n : Nat) (T : Txt K mg) (c_is_leap : Cd P w K mg base TT 1 "is_leap" (d_is_leap K)) (c_year_begin : Cd P w K mg base TT 1 "year_begin" (d_year_begin K)) (c_day_in_year : Cd P w K mg base TT 3 "day_in_year" (d_day_in_year K)) (c_nth_day : Cd P w K mg base TT 4 "nth_day" (d_nth_day K)) (c_day_of : Cd P w K mg base TT (4 + n) "day_of" (d_day_of K n)) (F : Fn K "day_of" s_day_of f fd) : FnOk P w K mg base (L2.CX P w) (4 + n + 1) f fd ["when", "year"] (spM K TT (d_day_of K (n + 1))) :=
  fn_m F sc_day_of fun cdv A outer s H E hr => ⟨_, (b_cons (s_if (t_cmp (c_eq hr.units) (e_ix (e_v 0) e_int (fun _ _ => rfl)) e_str (nomark _)) (b_cons (s_if (t_w (w_and (t_cmp (c_eq hr.units) (e_sl (e_v 0) (o_some e_int) o_none) (e_tup (f_cons e_int (f_cons e_int a_nil))) (nomark _)) (w_and1 (t_not (t_val (e_call0 c_is_leap hr (by omega) rfl (a_cons (e_v 1) a_nil))))))) (b_one (s_ret e_non)) b_nil)
  (b_one (s_ret (e_add (e_call0 c_year_begin hr (by omega) rfl (a_cons (e_v 1) a_nil)) (e_call0 c_day_in_year hr (by omega) rfl (a_cons (e_v 1) (a_cons (e_ix (e_v 0) e_int (fun _ _ => rfl)) (a_cons (e_ix (e_v 0) e_int (fun _ _ => rfl)) a_nil)))))))) b_nil)
  (b_cons (s_if (t_cmp (c_eq hr.units) (e_ix (e_v 0) e_int (fun _ _ => rfl)) e_str (nomark _)) (b_one (s_ret (e_call0 c_nth_day hr (by omega) rfl (a_cons (e_v 1) (a_cons (e_ix (e_v 0) e_int (fun _ _ => rfl)) (a_cons (e_ix (e_v 0) e_int (fun _ _ => rfl)) (a_cons (e_ix (e_v 0) e_int (fun _ _ => rfl)) a_nil))))))) b_nil)
  (b_cons (s_set (i := 2) sc_day_of.nd rfl (Or.inl rfl) (e_call0 c_day_of hr (by omega) rfl (a_cons (e_ix (e_v 0) e_int (fun _ _ => rfl)) (a_cons (e_v 1) a_nil))))
  (b_cons (s_if (t_cmp c_isN (e_v 2) e_non (nomark _)) (b_one (s_ret e_non)) b_nil)
  (b_cons (s_if (t_cmp (c_eq hr.units) (e_ix (e_v 0) e_int (fun _ _ => rfl)) e_str (nomark _)) (b_one (s_ret (e_add (e_v 2) (e_ix (e_v 0) e_int (fun _ _ => rfl))))) b_nil)
  (b_one (s_ret (e_if (t_cmp (c_eq hr.units) (e_mod (e_v 2) e_int) (e_ix (e_v 0) e_int (fun _ _ => rfl)) (nomark _)) (e_add (e_v 2) (e_ix (e_v 0) e_int (fun _ _ => rfl))) (e_v 2)))))))))⟩
theorem ok_month_and_day (T : Txt K mg) (c_month_days : Cd P w K mg base TT 2 "month_days" (d_month_days K)) (F : Fn K "month_and_day" s_month_and_day f fd) : FnOk P w K mg base (L2.CX P w) 3 f fd ["year", "at"] (spM K TT (d_month_and_day K)) :=
  fn_m F sc_month_and_day fun cdv A outer s H E hr => ⟨_, (b_cons (s_set (i := 2) sc_month_and_day.nd rfl (Or.inl rfl) e_int)
  (b_cons (s_while (passes_of rfl) (t_cmp c_ge (e_v 1) (e_call0 c_month_days hr (by decide) rfl (a_cons (e_v 0) (a_cons (e_v 2) a_nil))) (nomark _)) (b_cons (s_aug (i := 1) sc_month_and_day.nd rfl (Or.inl rfl) (e_call0 c_month_days hr (by decide) rfl (a_cons (e_v 0) (a_cons (e_v 2) a_nil))) ip_sub)
  (b_one (s_aug (i := 2) sc_month_and_day.nd rfl (Or.inl rfl) e_int ip_add))))
  (b_one (s_ret (e_tup (f_cons (e_v 2) (f_cons (e_add (e_v 1) e_int) a_nil)))))))⟩
theorem ok_date_at (T : Txt K mg) (c_year_begin : Cd P w K mg base TT 1 "year_begin" (d_year_begin K)) (c_month_and_day : Cd P w K mg base TT 3 "month_and_day" (d_month_and_day K)) (F : Fn K "date_at" s_date_at f fd) : FnOk P w K mg base (L2.CX P w) 4 f fd ["number"] (spM K TT (d_date_at K)) :=
  fn_m F sc_date_at fun cdv A outer s H E hr => ⟨_, (b_cons (s_par (i := 1) (j := 2) (by rfl) sc_date_at.nd rfl rfl (by decide) rfl rfl (m_cons (e_fdiv (e_v 0) (e_gl rfl T.v_ROUND_DAYS)) (m_cons (e_mod (e_v 0) (e_gl rfl T.v_ROUND_DAYS)) a_nil)) (by rfl))
  (b_cons (s_set (i := 3) sc_date_at.nd rfl (Or.inl rfl) (e_add e_int (e_fdiv (e_v 2) e_int)))
  (b_cons (s_while (passes_of rfl) (t_cmp (c_le hr.units0) (e_call0 c_year_begin hr (by decide) rfl (a_cons (e_add (e_v 3) e_int) a_nil)) (e_v 2) (nomark _)) (b_one (s_aug (i := 3) sc_date_at.nd rfl (Or.inl rfl) e_int ip_add)))
  (b_one (s_ret (e_tup (f_cons (e_add (e_mul e_int (e_v 1)) (e_v 3)) (f_star (e_call0 c_month_and_day hr (by decide) rfl (a_cons (e_v 3) (a_cons (e_sub (e_v 2) (e_call0 c_year_begin hr (by decide) rfl (a_cons (e_v 3) a_nil))) a_nil))) a_nil))))))))⟩
theorem ok_is_when_of (n : Nat) (T : Txt K mg) (c_is_whole : Cd P w K mg base TT 1 "is_whole" (d_is_whole K)) (c_month_days : Cd P w K mg base TT 2 "month_days" (d_month_days K)) (c_is_when_of : Cd P w K mg base TT (2 + n) "is_when_of" (d_is_when_of K n)) (F : Fn K "is_when_of" s_is_when_of f fd) : FnOk P w K mg base (L2.CX P w) (2 + n + 1) f fd ["value", "deep"] (spM K TT (d_is_when_of K (n + 1))) :=
  fn_m F sc_is_when_of fun cdv A outer s H E hr => ⟨_, (b_cons (s_if (t_w (w_or (t_not (t_val (e_isi Lk.kit_tup (by rfl) T.n_isinstance (by rfl) T.n_tuple (by decide +kernel) (e_v 0)))) (w_or (t_cmp (c_eq hr.units) (e_v 1) e_int (nomark _)) (w_or (t_cmp (c_eq hr.units) (e_v 0) (e_tup a_nil) (nomark _)) (w_or1 (t_not (t_val (e_isi Lk.kit_str (by rfl) T.n_isinstance (by rfl) T.n_str (by decide +kernel) (e_ix (e_v 0) e_int (fun _ _ => rfl)))))))))) (b_one (s_ret e_bl)) b_nil)
  (b_cons (s_if (t_cmp (c_eq hr.units) (e_ix (e_v 0) e_int (fun _ _ => rfl)) e_str (nomark _)) (b_one (s_ret (e_and (e_cmp (c_eq hr.units) (e_cb (callOr cl_len call_len_str) ps_len (by rfl) T.n_len (by decide +kernel) (a_cons (e_v 0) a_nil)) e_int (nomark _)) (e_and (e_call0 c_is_whole hr (by omega) rfl (a_cons (e_ix (e_v 0) e_int (fun _ _ => rfl)) (a_cons e_int (a_cons e_int a_nil)))) (e_one (e_call0 c_is_whole hr (by omega) rfl (a_cons (e_ix (e_v 0) e_int (fun _ _ => rfl)) (a_cons e_int (a_cons (e_call0 c_month_days hr (by omega) rfl (a_cons e_int (a_cons (e_ix (e_v 0) e_int (fun _ _ => rfl)) a_nil))) a_nil))))))))) b_nil)
  (b_cons (s_if (t_cmp (c_eq hr.units) (e_ix (e_v 0) e_int (fun _ _ => rfl)) e_str (nomark _)) (b_cons (s_if (t_w (w_or (t_cmp (c_ne hr.units) (e_cb (callOr cl_len call_len_str) ps_len (by rfl) T.n_len (by decide +kernel) (a_cons (e_v 0) a_nil)) e_int (nomark _)) (w_or (t_not (t_val (e_call0 c_is_whole hr (by omega) rfl (a_cons (e_ix (e_v 0) e_int (fun _ _ => rfl)) (a_cons e_int (a_cons e_int a_nil)))))) (w_or1 (t_not (t_val (e_call0 c_is_whole hr (by omega) rfl (a_cons (e_ix (e_v 0) e_int (fun _ _ => rfl)) (a_cons e_int (a_cons e_int a_nil)))))))))) (b_one (s_ret e_bl)) b_nil)
  (b_one (s_ret (e_and (e_call0 c_is_whole hr (by omega) rfl (a_cons (e_ix (e_v 0) e_int (fun _ _ => rfl)) (a_cons (e_neg e_int) (a_cons e_int a_nil)))) (e_one (e_cmp (c_ne hr.units) (e_ix (e_v 0) e_int (fun _ _ => rfl)) e_int (nomark _))))))) b_nil)
  (b_cons (s_if (t_cmp (c_eq hr.units) (e_ix (e_v 0) e_int (fun _ _ => rfl)) e_str (nomark _)) (b_one (s_ret (e_and (e_cmp (c_eq hr.units) (e_cb (callOr cl_len call_len_str) ps_len (by rfl) T.n_len (by decide +kernel) (a_cons (e_v 0) a_nil)) e_int (nomark _)) (e_and (e_call0 c_is_when_of hr (by omega) rfl (a_cons (e_ix (e_v 0) e_int (fun _ _ => rfl)) (a_cons (e_sub (e_v 1) e_int) a_nil))) (e_and (e_call0 c_is_whole hr (by omega) rfl (a_cons (e_ix (e_v 0) e_int (fun _ _ => rfl)) (a_cons (e_neg e_int) (a_cons e_int a_nil)))) (e_one (e_cmp (c_ne hr.units) (e_ix (e_v 0) e_int (fun _ _ => rfl)) e_int (nomark _)))))))) b_nil)
  (b_cons (s_if (t_cmp (c_eq hr.units) (e_ix (e_v 0) e_int (fun _ _ => rfl)) e_str (nomark _)) (b_cons (s_if (t_w (w_or (t_cmp (c_ne hr.units) (e_cb (callOr cl_len call_len_str) ps_len (by rfl) T.n_len (by decide +kernel) (a_cons (e_v 0) a_nil)) e_int (nomark _)) (w_or (t_not (t_val (e_call0 c_is_when_of hr (by omega) rfl (a_cons (e_ix (e_v 0) e_int (fun _ _ => rfl)) (a_cons (e_sub (e_v 1) e_int) a_nil))))) (w_or1 (t_not (t_val (e_call0 c_is_whole hr (by omega) rfl (a_cons (e_ix (e_v 0) e_int (fun _ _ => rfl)) (a_cons e_int (a_cons e_int a_nil)))))))))) (b_one (s_ret e_bl)) b_nil)
  (b_one (s_ret (e_and (e_call0 c_is_whole hr (by omega) rfl (a_cons (e_ix (e_v 0) e_int (fun _ _ => rfl)) (a_cons (e_neg e_int) (a_cons e_int a_nil)))) (e_one (e_cmp (c_ne hr.units) (e_ix (e_v 0) e_int (fun _ _ => rfl)) e_int (nomark _))))))) b_nil)
  (b_one (s_ret e_bl)))))))⟩
theorem ok_is_when (T : Txt K mg) (c_is_when_of : Cd P w K mg base TT 7 "is_when_of" (d_is_when_of K 5)) (F : Fn K "is_when" s_is_when f fd) : FnOk P w K mg base (L2.CX P w) 8 f fd ["value"] (spM K TT (d_is_when K)) :=
  fn_m F sc_is_when fun cdv A outer s H E hr => ⟨_, (b_one (s_ret (e_call0 c_is_when_of hr (by decide) rfl (a_cons (e_v 0) (a_cons (e_gl rfl T.v_DEEPEST) a_nil)))))⟩
theorem ok_told_day (T : Txt K mg) (c_is_when : Cd P w K mg base TT 8 "is_when" (d_is_when K)) (c_need_year : Cd P w K mg base TT 2 "need_year" (d_need_year K)) (c_day_of : Cd P w K mg base TT 8 "day_of" (d_day_of K 4)) (c_year_begin : Cd P w K mg base TT 1 "year_begin" (d_year_begin K)) (c_date_at : Cd P w K mg base TT 4 "date_at" (d_date_at K)) (F : Fn K "told_day" s_told_day f fd) : FnOk P w K mg base (L2.CX P w) 9 f fd ["when", "year"] (spM K TT (d_told_day K)) :=
  fn_m F sc_told_day fun cdv A outer s H E hr => ⟨_, (b_cons (s_if (t_not (t_val (e_call0 c_is_when hr (by decide) rfl (a_cons (e_v 0) a_nil)))) (b_one (s_raise rfl (takes_of rfl rfl rfl rfl) T.x_BadWhen rfl (raises_own T.x_BadWhen.sb T.x_BadWhen.ty))) b_nil)
  (b_cons (s_expr (e_call (takes_of rfl rfl rfl rfl) c_need_year hr (by decide) rfl (a_cons (e_v 1) a_nil)))
  (b_cons (s_set (i := 2) sc_told_day.nd rfl (Or.inl rfl) (e_call0 c_day_of hr (by decide) rfl (a_cons (e_v 0) (a_cons (e_v 1) a_nil))))
  (b_cons (s_if (t_w (w_or (t_cmp c_isN (e_v 2) e_non (nomark _)) (w_or1 (t_not (t_chain (c_le hr.units0) c_lt e_int (e_v 2) (e_call0 c_year_begin hr (by decide) rfl (a_cons (e_add (e_gl rfl T.v_LAST_YEAR) e_int) a_nil))))))) (b_one (s_ret e_non)) b_nil)
  (b_one (s_ret (e_call0 c_date_at hr (by decide) rfl (a_cons (e_v 2) a_nil))))))))⟩
theorem ok__law_bent (n : Nat) (T : Txt K mg) (c__law_draw : Cd P w K mg base TT 2 "_law_draw" dDraw) (c__law_pick : Cd P w K mg base TT 3 "_law_pick" (d__law_pick K)) (c__law_bent : Cd P w K mg base TT (3 + n) "_law_bent" (d__law_bent K n)) (F : Fn K "_law_bent" s__law_bent f fd) : FnOk P w K mg base (L2.CX P w) (3 + n + 1) f fd ["state", "value"] (spM K TT (d__law_bent K (n + 1))) :=
  fn_m F sc__law_bent fun cdv A outer s H E hr => ⟨_, (b_cons (s_set (i := 2) sc__law_bent.nd rfl (Or.inl rfl) (e_call0 c__law_draw hr (by omega) rfl (a_cons (e_v 0) (a_cons e_int a_nil))))
  (b_cons (s_if (t_w (w_or (t_not (t_val (e_isi Lk.kit_tup (by rfl) T.n_isinstance (by rfl) T.n_tuple (by decide +kernel) (e_v 1)))) (w_or (t_cmp (c_eq hr.units) (e_v 2) e_int (nomark _)) (w_or1 (t_cmp (c_eq hr.units) (e_cb (callOr cl_len call_len_str) ps_len (by rfl) T.n_len (by decide +kernel) (a_cons (e_v 1) a_nil)) e_int (nomark _)))))) (b_cons (s_set (i := 3) sc__law_bent.nd rfl (Or.inl rfl) (e_lst (f_cons e_non (f_cons e_str (f_cons e_str (f_cons e_int (f_cons e_int (f_cons e_int (f_cons (e_neg e_int) (f_cons e_int (f_cons e_int (f_cons e_int (f_cons e_bl (f_cons e_str (f_cons e_str (f_cons e_str (f_cons (e_tup a_nil) (f_cons (e_lst (f_cons (e_v 1) a_nil)) (f_cons e_dnew (f_cons (e_tup (f_cons (e_tup (f_cons e_int (f_cons e_str a_nil))) a_nil)) a_nil))))))))))))))))))))
  (b_one (s_ret (e_call0 c__law_pick hr (by omega) rfl (a_cons (e_v 0) (a_cons (e_add (e_v 3) (e_if (t_val (e_isi Lk.kit_int (by rfl) T.n_isinstance (by rfl) T.n_int (by decide +kernel) (e_v 1))) (e_lst (f_cons (e_add (e_v 1) e_int) (f_cons (e_sub (e_v 1) e_int) a_nil))) (e_lst (f_cons (e_tup (f_cons (e_v 1) a_nil)) (f_cons (e_v 1) a_nil))))) a_nil)))))) b_nil)
  (b_cons (s_set (i := 4) sc__law_bent.nd rfl (Or.inl rfl) (e_call0 c__law_draw hr (by omega) rfl (a_cons (e_v 0) (a_cons (e_cb (callOr cl_len call_len_str) ps_len (by rfl) T.n_len (by decide +kernel) (a_cons (e_v 1) a_nil)) a_nil))))
  (b_cons (s_if (t_cmp (c_eq hr.units) (e_v 2) e_int (nomark _)) (b_one (s_ret (e_add (e_sl (e_v 1) o_none (o_some (e_v 4))) (e_sl (e_v 1) (o_some (e_add (e_v 4) e_int)) o_none)))) b_nil)
  (b_cons (s_if (t_cmp (c_eq hr.units) (e_v 2) e_int (nomark _)) (b_one (s_ret (e_add (e_add (e_sl (e_v 1) o_none (o_some (e_v 4))) (e_tup (f_cons (e_ix (e_v 1) (e_v 4) (fun _ _ => rfl)) a_nil))) (e_sl (e_v 1) (o_some (e_v 4)) o_none)))) b_nil)
  (b_cons (s_if (t_w (w_and (t_cmp (c_eq hr.units) (e_v 2) e_int (nomark _)) (w_and1 (t_cmp c_gt (e_v 4) e_int (nomark _))))) (b_one (s_ret (e_add (e_add (e_sl (e_v 1) o_none (o_some (e_sub (e_v 4) e_int))) (e_tup (f_cons (e_ix (e_v 1) (e_v 4) (fun _ _ => rfl)) (f_cons (e_ix (e_v 1) (e_sub (e_v 4) e_int) (fun _ _ => rfl)) a_nil)))) (e_sl (e_v 1) (o_some (e_add (e_v 4) e_int)) o_none)))) b_nil)
  (b_one (s_ret (e_add (e_add (e_sl (e_v 1) o_none (o_some (e_v 4))) (e_tup (f_cons (e_call0 c__law_bent hr (by omega) rfl (a_cons (e_v 0) (a_cons (e_ix (e_v 1) (e_v 4) (fun _ _ => rfl)) a_nil))) a_nil))) (e_sl (e_v 1) (o_some (e_add (e_v 4) e_int)) o_none))))))))))⟩
theorem ok__law_is_int (T : Txt K mg) (F : Fn K "_law_is_int" s__law_is_int f fd) : FnOk P w K mg base (L2.CX P w) 1 f fd ["value", "low", "high"] (spM K TT (d__law_is_int K)) :=
  fn_m F sc__law_is_int fun cdv A outer s H E hr => ⟨_, (b_one (s_ret (e_and (e_isi Lk.kit_int (by rfl) T.n_isinstance (by rfl) T.n_int (by decide +kernel) (e_v 0)) (e_and (e_not (e_isi Lk.kit_bool (by rfl) T.n_isinstance (by rfl) T.n_bool (by decide +kernel) (e_v 0))) (e_one (e_chain (c_le hr.units0) (c_le hr.units0) (e_v 1) (e_v 0) (e_v 2)))))))⟩
theorem ok__law_is_rule_day (n : Nat) (T : Txt K mg) (c__law_is_int : Cd P w K mg base TT 1 "_law_is_int" (d__law_is_int K)) (c__law_month : Cd P w K mg base TT 2 "_law_month" (d__law_month K)) (c__law_is_rule_day : Cd P w K mg base TT (2 + n) "_law_is_rule_day" (d__law_is_rule_day K n)) (F : Fn K "_law_is_rule_day" s__law_is_rule_day f fd) : FnOk P w K mg base (L2.CX P w) (2 + n + 1) f fd ["value", "deep"] (spM K TT (d__law_is_rule_day K (n + 1))) :=
  fn_m F sc__law_is_rule_day fun cdv A outer s H E hr => ⟨_, (b_cons (s_if (t_w (w_or (t_not (t_val (e_isi Lk.kit_tup (by rfl) T.n_isinstance (by rfl) T.n_tuple (by decide +kernel) (e_v 0)))) (w_or (t_cmp (c_eq hr.units) (e_v 1) e_int (nomark _)) (w_or (t_cmp c_lt (e_cb (callOr cl_len call_len_str) ps_len (by rfl) T.n_len (by decide +kernel) (a_cons (e_v 0) a_nil)) e_int (nomark _)) (w_or1 (t_not (t_val (e_isi Lk.kit_str (by rfl) T.n_isinstance (by rfl) T.n_str (by decide +kernel) (e_ix (e_v 0) e_int (fun _ _ => rfl)))))))))) (b_one (s_ret e_bl)) b_nil)
  (b_cons (s_if (t_w (w_and (t_cmp (c_eq hr.units) (e_ix (e_v 0) e_int (fun _ _ => rfl)) e_str (nomark _)) (w_and (t_cmp (c_eq hr.units) (e_cb (callOr cl_len call_len_str) ps_len (by rfl) T.n_len (by decide +kernel) (a_cons (e_v 0) a_nil)) e_int (nomark _)) (w_and1 (t_val (e_call0 c__law_is_int hr (by omega) rfl (a_cons (e_ix (e_v 0) e_int (fun _ _ => rfl)) (a_cons e_int (a_cons e_int a_nil))))))))) (b_one (s_ret (e_call0 c__law_is_int hr (by omega) rfl (a_cons (e_ix (e_v 0) e_int (fun _ _ => rfl)) (a_cons e_int (a_cons (e_call0 c__law_month hr (by omega) rfl (a_cons e_int (a_cons (e_ix (e_v 0) e_int (fun _ _ => rfl)) a_nil))) a_nil)))))) b_nil)
  (b_cons (s_if (t_w (w_and (t_cmp (c_eq hr.units) (e_ix (e_v 0) e_int (fun _ _ => rfl)) e_str (nomark _)) (w_and1 (t_cmp (c_eq hr.units) (e_cb (callOr cl_len call_len_str) ps_len (by rfl) T.n_len (by decide +kernel) (a_cons (e_v 0) a_nil)) e_int (nomark _))))) (b_one (s_ret (e_and (e_call0 c__law_is_int hr (by omega) rfl (a_cons (e_ix (e_v 0) e_int (fun _ _ => rfl)) (a_cons e_int (a_cons e_int a_nil)))) (e_and (e_call0 c__law_is_int hr (by omega) rfl (a_cons (e_ix (e_v 0) e_int (fun _ _ => rfl)) (a_cons e_int (a_cons e_int a_nil)))) (e_one (e_or (e_call0 c__law_is_int hr (by omega) rfl (a_cons (e_ix (e_v 0) e_int (fun _ _ => rfl)) (a_cons e_int (a_cons e_int a_nil)))) (e_one (e_call0 c__law_is_int hr (by omega) rfl (a_cons (e_ix (e_v 0) e_int (fun _ _ => rfl)) (a_cons (e_neg e_int) (a_cons (e_neg e_int) a_nil))))))))))) b_nil)
  (b_cons (s_if (t_w (w_and (t_cmp (c_eq hr.units) (e_ix (e_v 0) e_int (fun _ _ => rfl)) e_str (nomark _)) (w_and1 (t_cmp (c_eq hr.units) (e_cb (callOr cl_len call_len_str) ps_len (by rfl) T.n_len (by decide +kernel) (a_cons (e_v 0) a_nil)) e_int (nomark _))))) (b_one (s_ret (e_and (e_call0 c__law_is_int hr (by omega) rfl (a_cons (e_ix (e_v 0) e_int (fun _ _ => rfl)) (a_cons (e_neg e_int) (a_cons e_int a_nil)))) (e_and (e_cmp (c_ne hr.units) (e_ix (e_v 0) e_int (fun _ _ => rfl)) e_int (nomark _)) (e_one (e_call0 c__law_is_rule_day hr (by omega) rfl (a_cons (e_ix (e_v 0) e_int (fun _ _ => rfl)) (a_cons (e_sub (e_v 1) e_int) a_nil)))))))) b_nil)
  (b_cons (s_if (t_w (w_and (t_cmp (c_eq hr.units) (e_ix (e_v 0) e_int (fun _ _ => rfl)) e_str (nomark _)) (w_and1 (t_cmp (c_eq hr.units) (e_cb (callOr cl_len call_len_str) ps_len (by rfl) T.n_len (by decide +kernel) (a_cons (e_v 0) a_nil)) e_int (nomark _))))) (b_cons (s_set (i := 2) sc__law_is_rule_day.nd rfl (Or.inl rfl) (e_and (e_call0 c__law_is_int hr (by omega) rfl (a_cons (e_ix (e_v 0) e_int (fun _ _ => rfl)) (a_cons (e_neg e_int) (a_cons e_int a_nil)))) (e_and (e_cmp (c_ne hr.units) (e_ix (e_v 0) e_int (fun _ _ => rfl)) e_int (nomark _)) (e_one (e_call0 c__law_is_int hr (by omega) rfl (a_cons (e_ix (e_v 0) e_int (fun _ _ => rfl)) (a_cons e_int (a_cons e_int a_nil))))))))
  (b_one (s_ret (e_and (e_v 2) (e_one (e_call0 c__law_is_rule_day hr (by omega) rfl (a_cons (e_ix (e_v 0) e_int (fun _ _ => rfl)) (a_cons (e_sub (e_v 1) e_int) a_nil)))))))) b_nil)
  (b_one (s_ret e_bl)))))))⟩
theorem ok__law_told_right (T : Txt K mg) (Gc : Cg K mg) (LD : LamD K mg base TT "_law_told_right" "_law_told_right.<locals>.<lambda>") (c__law_when_day : Cd P w K mg base TT 6 "_law_when_day" (d__law_when_day K 4)) (c__law_number : Cd P w K mg base TT 1 "_law_number" (d__law_number K)) (c__law_dated : Cd P w K mg base TT 1 "_law_dated" (d__law_dated K)) (c_told_day : Cd P w K mg base TT 9 "told_day" (d_told_day K)) (v_told_day : Cdv P w K mg base TT 9 "told_day" ["year", "when"] (d_told_day K)) (c__law_day_rule : Cd P w K mg base TT 8 "_law_day_rule" (d__law_day_rule K 5)) (c__law_pick : Cd P w K mg base TT 3 "_law_pick" (d__law_pick K)) (c__law_bent : Cd P w K mg base TT 12 "_law_bent" (d__law_bent K 9)) (c__law_is_rule_day : Cd P w K mg base TT 7 "_law_is_rule_day" (d__law_is_rule_day K 5)) (F : Fn K "_law_told_right" s__law_told_right f fd) (hf : f = He.fAd K ("_law_told_right", none)) : FnOk P w K mg base (L2.CX P w) 13 f fd ["state", "calendar", "year"] (spM K TT (d__law_told_right K)) :=
  fn_ml F hf sc__law_told_right fun A outer s H E hr => ⟨_, (b_cons (s_for (passes_of rfl) rfl (i_any (e_ix (e_v 1) e_int (fun _ _ => rfl))) (g_tup rfl (gs_cons (g_n (i := 3) sc__law_told_right.nd rfl (Or.inr rfl)) (gs_cons (g_n (i := 4) sc__law_told_right.nd rfl (Or.inl rfl)) gs_nil))) (b_cons (s_set (i := 5) sc__law_told_right.nd rfl (Or.inl rfl) (e_call0 c__law_when_day hr (by decide) rfl (a_cons (e_v 3) (a_cons (e_v 2) a_nil))))
  (b_cons (s_set (i := 6) sc__law_told_right.nd rfl (Or.inl rfl) (e_if (t_w (w_and (t_cmp c_notN (e_v 5) e_non (nomark _)) (w_and1 (t_chain (c_le hr.units0) (c_le hr.units0) e_int (e_v 5) (e_call0 c__law_number hr (by decide) rfl (a_cons (e_tup (f_cons (e_pow e_int e_int) (f_cons e_int (f_cons e_int a_nil)))) a_nil)))))) (e_call0 c__law_dated hr (by decide) rfl (a_cons (e_v 5) a_nil)) e_non))
  (b_one (s_if (t_cmp (c_ne hr.units) (e_kw2 v_told_day hr (by decide) rfl (k_cons (e_v 2) (k_cons (e_v 3) k_nil))) (e_v 6) (nomark _)) (b_one (s_ret e_bl)) b_nil)))))
  (b_cons (s_set (i := 3) sc__law_told_right.nd rfl (Or.inr rfl) (e_call0 c__law_day_rule hr (by decide) rfl (a_cons (e_v 0) (a_cons e_int a_nil))))
  (b_cons (s_set (i := 7) sc__law_told_right.nd rfl (Or.inr rfl) (e_call0 c__law_pick hr (by decide) rfl (a_cons (e_v 0) (a_cons (e_lst (f_cons (e_tup (f_cons e_str (f_cons (e_tup (f_cons e_str (f_cons (e_tup (f_cons e_str (f_cons (e_tup (f_cons e_str (f_cons (e_v 3) (f_cons e_int a_nil)))) (f_cons e_int (f_cons e_int a_nil))))) (f_cons e_int a_nil)))) (f_cons e_int a_nil)))) (f_cons (e_call0 c__law_bent hr (by decide) rfl (a_cons (e_v 0) (a_cons (e_v 3) a_nil))) (f_cons (e_sl (e_v 3) o_none (o_some e_int)) (f_cons e_non a_nil))))) a_nil))))
  (b_cons (s_if (t_w (w_and (t_not (t_val (e_call0 c__law_is_rule_day hr (by decide) rfl (a_cons (e_v 7) (a_cons e_int a_nil))))) (w_and1 (t_not (t_val (e_isE (by rfl) T.n_isinstance (by rfl) T.x_BadWhen.gl (e_caught (k := 9) hr Gc LD rfl rfl rfl (by decide) (lamS_by (by rfl)) rfl (fun _ _ _ _ _ => rfl) c_told_day (by decide) (fun _ _ _ _ _ _ _ => rfl) (fun _ _ _ _ _ _ _ _ => by exact (a_cons (e_v 7) (a_cons (e_v 2) a_nil)))) (.own _))))))) (b_one (s_ret e_bl)) b_nil)
  (b_cons (s_set (i := 8) sc__law_told_right.nd rfl (Or.inr rfl) (e_call0 c__law_pick hr (by decide) rfl (a_cons (e_v 0) (a_cons (e_lst (f_cons e_int (f_cons e_non (f_cons e_bl (f_cons (e_add (e_pow e_int e_int) e_int) (f_cons e_str a_nil)))))) a_nil))))
  (b_one (s_ret (e_isE (by rfl) T.n_isinstance (by rfl) T.x_BadYear.gl (e_caught (k := 9) hr Gc LD rfl rfl rfl (by decide) (lamS_by (by rfl)) rfl (fun _ _ _ _ _ => rfl) c_told_day (by decide) (fun _ _ _ _ _ _ _ => rfl) (fun _ _ _ _ _ _ _ _ => by exact (a_cons (e_v 3) (a_cons (e_v 8) a_nil)))) (.own _)))))))))⟩
theorem ok_is_date (T : Txt K mg) (c_is_whole : Cd P w K mg base TT 1 "is_whole" (d_is_whole K)) (c_month_days : Cd P w K mg base TT 2 "month_days" (d_month_days K)) (F : Fn K "is_date" s_is_date f fd) : FnOk P w K mg base (L2.CX P w) 3 f fd ["value"] (spM K TT (d_is_date K)) :=
  fn_m F sc_is_date fun cdv A outer s H E hr => ⟨_, (b_cons (s_if (t_w (w_or (t_not (t_val (e_isi Lk.kit_tup (by rfl) T.n_isinstance (by rfl) T.n_tuple (by decide +kernel) (e_v 0)))) (w_or1 (t_cmp (c_ne hr.units) (e_cb (callOr cl_len call_len_str) ps_len (by rfl) T.n_len (by decide +kernel) (a_cons (e_v 0) a_nil)) e_int (nomark _))))) (b_one (s_ret e_bl)) b_nil)
  (b_cons (s_if (t_w (w_or (t_not (t_val (e_call0 c_is_whole hr (by decide) rfl (a_cons (e_ix (e_v 0) e_int (fun _ _ => rfl)) (a_cons e_int (a_cons (e_gl rfl T.v_LAST_YEAR) a_nil)))))) (w_or1 (t_not (t_val (e_call0 c_is_whole hr (by decide) rfl (a_cons (e_ix (e_v 0) e_int (fun _ _ => rfl)) (a_cons e_int (a_cons e_int a_nil))))))))) (b_one (s_ret e_bl)) b_nil)
  (b_one (s_ret (e_call0 c_is_whole hr (by decide) rfl (a_cons (e_ix (e_v 0) e_int (fun _ _ => rfl)) (a_cons e_int (a_cons (e_call0 c_month_days hr (by decide) rfl (a_cons (e_ix (e_v 0) e_int (fun _ _ => rfl)) (a_cons (e_ix (e_v 0) e_int (fun _ _ => rfl)) a_nil))) a_nil))))))))⟩
theorem ok_is_name (T : Txt K mg) (F : Fn K "is_name" s_is_name f fd) : FnOk P w K mg base (L2.CX P w) 1 f fd ["value"] (spM K TT (d_is_name K)) :=
  fn_m F sc_is_name fun cdv A outer s H E hr => ⟨_, (b_cons (s_if (t_w (w_or (t_not (t_val (e_isi Lk.kit_str (by rfl) T.n_isinstance (by rfl) T.n_str (by decide +kernel) (e_v 0)))) (w_or (t_not (t_chain (c_le hr.units0) (c_le hr.units0) e_int (e_cb (callOr cl_len call_len_str) ps_len (by rfl) T.n_len (by decide +kernel) (a_cons (e_v 0) a_nil)) e_int)) (w_or1 (t_cmp (c_eq hr.units) (e_v 0) e_str (nomark _)))))) (b_one (s_ret e_bl)) b_nil)
  (b_one (s_ret (e_cb (cr_all rfl) ps_all (by rfl) T.n_all (by decide +kernel) (a_cons (by exact (e_lc (own := [("letter", 1)]) (by rfl) sc_is_name.nd (i_any (e_v 0)) (blkOk_by (own := [("letter", 1)]) (N := N_is_name) (sc := defScope s_is_name) (by decide +kernel)) (fun _ _ _ _ _ => by exact (g_n (i := 1) sc_is_name.nd rfl (Or.inl rfl))) (gonly_n (by decide)) (fun _ _ _ _ _ => by exact ts_nil) (fun _ _ _ _ _ => by exact (e_cmp (c_in (units1 hr)) (e_v 1) (e_gl rfl T.v_LETTERS) (by rfl))))) a_nil)))))⟩
theorem ok_is_plan_of (T : Txt K mg) (c_is_whole : Cd P w K mg base TT 1 "is_whole" (d_is_whole K)) (c_is_name : Cd P w K mg base TT 1 "is_name" (d_is_name K)) (F : Fn K "is_plan_of" s_is_plan_of f fd) : FnOk P w K mg base (L2.CX P w) 2 f fd ["value", "most"] (spM K TT (d_is_plan_of K)) :=
  fn_m F sc_is_plan_of fun cdv A outer s H E hr => ⟨_, (b_cons (s_if (t_w (w_or (t_not (t_val (e_isi Lk.kit_tup (by rfl) T.n_isinstance (by rfl) T.n_tuple (by decide +kernel) (e_v 0)))) (w_or1 (t_not (t_chain (c_le hr.units0) (c_le hr.units0) e_int (e_cb (callOr cl_len call_len_str) ps_len (by rfl) T.n_len (by decide +kernel) (a_cons (e_v 0) a_nil)) (e_v 1)))))) (b_one (s_ret e_bl)) b_nil)
  (b_cons (s_parN (is := [2, 3]) rfl (m_cons (e_neg e_int) (m_cons e_str a_nil)) (gs_cons (g_n (i := 2) sc_is_plan_of.nd rfl (Or.inl rfl)) (gs_cons (g_n (i := 3) sc_is_plan_of.nd rfl (Or.inl rfl)) gs_nil)) rfl rfl (by decide))
  (b_cons (s_for (passes_of rfl) rfl (i_any (e_v 0)) (g_n (i := 4) sc_is_plan_of.nd rfl (Or.inl rfl)) (b_cons (s_if (t_w (w_or (t_not (t_val (e_isi Lk.kit_tup (by rfl) T.n_isinstance (by rfl) T.n_tuple (by decide +kernel) (e_v 4)))) (w_or (t_cmp (c_ne hr.units) (e_cb (callOr cl_len call_len_str) ps_len (by rfl) T.n_len (by decide +kernel) (a_cons (e_v 4) a_nil)) e_int (nomark _)) (w_or1 (t_not (t_val (e_call0 c_is_whole hr (by decide) rfl (a_cons (e_ix (e_v 4) e_int (fun _ _ => rfl)) (a_cons (e_add (e_v 2) e_int) (a_cons e_int a_nil)))))))))) (b_one (s_ret e_bl)) b_nil)
  (b_cons (s_if (t_w (w_or (t_not (t_val (e_call0 c_is_name hr (by decide) rfl (a_cons (e_ix (e_v 4) e_int (fun _ _ => rfl)) a_nil)))) (w_or1 (t_cmp (c_eq hr.units) (e_ix (e_v 4) e_int (fun _ _ => rfl)) (e_v 3) (nomark _))))) (b_one (s_ret e_bl)) b_nil)
  (b_one (s_asgG (e_v 4) (g_tup rfl (gs_cons (g_n (i := 2) sc_is_plan_of.nd rfl (Or.inl rfl)) (gs_cons (g_n (i := 3) sc_is_plan_of.nd rfl (Or.inl rfl)) gs_nil))))))))
  (b_one (s_ret (e_cmp (c_eq hr.units) (e_ix (e_ix (e_v 0) e_int (fun _ _ => rfl)) e_int (fun _ _ => rfl)) e_int (nomark _)))))))⟩
theorem ok_is_dates (T : Txt K mg) (c_is_plan_of : Cd P w K mg base TT 2 "is_plan_of" (d_is_plan_of K)) (c_is_date : Cd P w K mg base TT 3 "is_date" (d_is_date K)) (F : Fn K "is_dates" s_is_dates f fd) : FnOk P w K mg base (L2.CX P w) 4 f fd ["dates", "most", "longest"] (spM K TT (d_is_dates K)) :=
  fn_m F sc_is_dates fun cdv A outer s H E hr => ⟨_, (b_cons (s_if (t_w (w_or (t_not (t_val (e_isi Lk.kit_tup (by rfl) T.n_isinstance (by rfl) T.n_tuple (by decide +kernel) (e_v 0)))) (w_or1 (t_cmp c_gt (e_cb (callOr cl_len call_len_str) ps_len (by rfl) T.n_len (by decide +kernel) (a_cons (e_v 0) a_nil)) (e_v 1) (nomark _))))) (b_one (s_ret e_bl)) b_nil)
  (b_cons (s_set (i := 3) sc_is_dates.nd rfl (Or.inl rfl) (e_tup (f_cons e_int (f_cons e_int (f_cons e_int a_nil)))))
  (b_cons (s_for (passes_of rfl) rfl (i_any (e_v 0)) (g_n (i := 4) sc_is_dates.nd rfl (Or.inl rfl)) (b_cons (s_if (t_w (w_or (t_not (t_val (e_isi Lk.kit_tup (by rfl) T.n_isinstance (by rfl) T.n_tuple (by decide +kernel) (e_v 4)))) (w_or (t_cmp (c_ne hr.units) (e_cb (callOr cl_len call_len_str) ps_len (by rfl) T.n_len (by decide +kernel) (a_cons (e_v 4) a_nil)) e_int (nomark _)) (w_or (t_not (t_val (e_call0 c_is_date hr (by decide) rfl (a_cons (e_ix (e_v 4) e_int (fun _ _ => rfl)) a_nil)))) (w_or1 (t_not (t_val (e_call0 c_is_plan_of hr (by decide) rfl (a_cons (e_ix (e_v 4) e_int (fun _ _ => rfl)) (a_cons (e_v 2) a_nil)))))))))) (b_one (s_ret e_bl)) b_nil)
  (b_cons (s_if (t_cmp (c_le hr.units0) (e_ix (e_v 4) e_int (fun _ _ => rfl)) (e_v 3) (nomark _)) (b_one (s_ret e_bl)) b_nil)
  (b_one (s_set (i := 3) sc_is_dates.nd rfl (Or.inl rfl) (e_ix (e_v 4) e_int (fun _ _ => rfl)))))))
  (b_one (s_ret e_bl)))))⟩
theorem ok_is_calendar (T : Txt K mg) (c_is_plan_of : Cd P w K mg base TT 2 "is_plan_of" (d_is_plan_of K)) (c_is_when : Cd P w K mg base TT 8 "is_when" (d_is_when K)) (c_is_dates : Cd P w K mg base TT 4 "is_dates" (d_is_dates K)) (F : Fn K "is_calendar" s_is_calendar f fd) : FnOk P w K mg base (L2.CX P w) 9 f fd ["value"] (spM K TT (d_is_calendar K)) :=
  fn_m F sc_is_calendar fun cdv A outer s H E hr => ⟨_, (b_cons (s_if (t_w (w_or (t_not (t_val (e_isi Lk.kit_tup (by rfl) T.n_isinstance (by rfl) T.n_tuple (by decide +kernel) (e_v 0)))) (w_or (t_cmp (c_ne hr.units) (e_cb (callOr cl_len call_len_str) ps_len (by rfl) T.n_len (by decide +kernel) (a_cons (e_v 0) a_nil)) e_int (nomark _)) (w_or (t_not (t_val (e_isi Lk.kit_str (by rfl) T.n_isinstance (by rfl) T.n_str (by decide +kernel) (e_ix (e_v 0) e_int (fun _ _ => rfl))))) (w_or1 (t_cmp (c_ne hr.units) (e_ix (e_v 0) e_int (fun _ _ => rfl)) e_str (nomark _))))))) (b_one (s_ret e_bl)) b_nil)
  (b_cons (s_asgG (e_v 0) (g_tup rfl (gs_cons (g_n (i := 1) sc_is_calendar.nd rfl (Or.inl rfl)) (gs_cons (g_n (i := 2) sc_is_calendar.nd rfl (Or.inl rfl)) (gs_cons (g_n (i := 3) sc_is_calendar.nd rfl (Or.inl rfl)) (gs_cons (g_n (i := 4) sc_is_calendar.nd rfl (Or.inl rfl)) gs_nil))))))
  (b_cons (s_if (t_w (w_or (t_not (t_val (e_isi Lk.kit_tup (by rfl) T.n_isinstance (by rfl) T.n_tuple (by decide +kernel) (e_v 2)))) (w_or (t_cmp (c_ne hr.units) (e_cb (callOr cl_len call_len_str) ps_len (by rfl) T.n_len (by decide +kernel) (a_cons (e_v 2) a_nil)) e_int (nomark _)) (w_or1 (t_not (t_val (e_cb (cr_all rfl) ps_all (by rfl) T.n_all (by decide +kernel) (a_cons (by exact (e_lc (own := [("plan", 5)]) (by rfl) sc_is_calendar.nd (i_any (e_v 2)) (blkOk_by (own := [("plan", 5)]) (N := N_is_calendar) (sc := defScope s_is_calendar) (by decide +kernel)) (fun _ _ _ _ _ => by exact (g_n (i := 5) sc_is_calendar.nd rfl (Or.inl rfl))) (gonly_n (by decide)) (fun _ _ _ _ _ => by exact ts_nil) (fun _ _ _ _ _ => by exact (e_call0 c_is_plan_of hr (by decide) rfl (a_cons (e_v 5) (a_cons e_int a_nil)))))) a_nil)))))))) (b_one (s_ret e_bl)) b_nil)
  (b_cons (s_if (t_w (w_or (t_not (t_val (e_isi Lk.kit_tup (by rfl) T.n_isinstance (by rfl) T.n_tuple (by decide +kernel) (e_v 3)))) (w_or1 (t_cmp c_gt (e_cb (callOr cl_len call_len_str) ps_len (by rfl) T.n_len (by decide +kernel) (a_cons (e_v 3) a_nil)) (e_gl rfl T.v_MOST_RULES) (nomark _))))) (b_one (s_ret e_bl)) b_nil)
  (b_cons (s_for (passes_of rfl) rfl (i_any (e_v 3)) (g_n (i := 6) sc_is_calendar.nd rfl (Or.inl rfl)) (b_one (s_if (t_w (w_or (t_not (t_val (e_isi Lk.kit_tup (by rfl) T.n_isinstance (by rfl) T.n_tuple (by decide +kernel) (e_v 6)))) (w_or (t_cmp (c_ne hr.units) (e_cb (callOr cl_len call_len_str) ps_len (by rfl) T.n_len (by decide +kernel) (a_cons (e_v 6) a_nil)) e_int (nomark _)) (w_or (t_not (t_val (e_call0 c_is_when hr (by decide) rfl (a_cons (e_ix (e_v 6) e_int (fun _ _ => rfl)) a_nil)))) (w_or1 (t_not (t_val (e_call0 c_is_plan_of hr (by decide) rfl (a_cons (e_ix (e_v 6) e_int (fun _ _ => rfl)) (a_cons e_int a_nil)))))))))) (b_one (s_ret e_bl)) b_nil)))
  (b_one (s_ret (e_call0 c_is_dates hr (by decide) rfl (a_cons (e_v 4) (a_cons e_int (a_cons e_int a_nil)))))))))))⟩
theorem ok__law_days (T : Txt K mg) (c__law_date : Cd P w K mg base TT 5 "_law_date" (d__law_date K)) (c__law_when_day : Cd P w K mg base TT 6 "_law_when_day" (d__law_when_day K 4)) (c__law_year : Cd P w K mg base TT 4 "_law_year" (d__law_year K)) (c__law_pick : Cd P w K mg base TT 3 "_law_pick" (d__law_pick K)) (c__law_dated : Cd P w K mg base TT 1 "_law_dated" (d__law_dated K)) (F : Fn K "_law_days" s__law_days f fd) : FnOk P w K mg base (L2.CX P w) 7 f fd ["state", "calendar"] (spM K TT (d__law_days K)) :=
  fn_m F sc__law_days fun cdv A outer s H E hr => ⟨_, (b_cons (s_set (i := 2) sc__law_days.nd rfl (Or.inl rfl) (e_add (e_lst (f_cons (e_call0 c__law_date hr (by decide) rfl (a_cons (e_v 0) a_nil)) (f_cons (e_call0 c__law_date hr (by decide) rfl (a_cons (e_v 0) a_nil)) a_nil))) (by exact (e_lc (own := [("day", 3), ("plan", 4)]) (by rfl) sc__law_days.nd (i_any (e_ix (e_v 1) e_int (fun _ _ => rfl))) (blkOk_by (own := [("day", 3), ("plan", 4)]) (N := N__law_days) (sc := defScope s__law_days) (by decide +kernel)) (fun _ _ _ _ _ => by exact (g_tup rfl (gs_cons (g_n (i := 3) sc__law_days.nd rfl (Or.inl rfl)) (gs_cons (g_n (i := 4) sc__law_days.nd rfl (Or.inl rfl)) gs_nil)))) (gonly_t (gsonly_cons gmono_n (gsmono_cons gmono_n gsmono_nil) (gonly_n (by decide)) (gsonly_cons gmono_n gsmono_nil (gonly_n (by decide)) gsonly_nil))) (fun _ _ _ _ _ => by exact ts_nil) (fun _ _ _ _ _ => by exact (e_v 3))))))
  (b_cons (s_for (passes_of rfl) rfl (i_any (e_ix (e_v 1) e_int (fun _ _ => rfl))) (g_tup rfl (gs_cons (g_n (i := 5) sc__law_days.nd rfl (Or.inl rfl)) (gs_cons (g_n (i := 4) sc__law_days.nd rfl (Or.inl rfl)) gs_nil))) (b_cons (s_set (i := 6) sc__law_days.nd rfl (Or.inr rfl) (e_call0 c__law_when_day hr (by decide) rfl (a_cons (e_v 5) (a_cons (e_call0 c__law_year hr (by decide) rfl (a_cons (e_v 0) a_nil)) a_nil))))
  (b_one (s_set (i := 2) sc__law_days.nd rfl (Or.inl rfl) (e_add (e_v 2) (e_if (t_cmp c_notN (e_v 6) e_non (nomark _)) (by exact (e_lc (own := [("more", 7)]) (by rfl) sc__law_days.nd (i_any (e_lst (f_cons e_int (f_cons (e_call0 c__law_pick hr (by decide) rfl (a_cons (e_v 0) (a_cons (e_lst (f_cons e_int (f_cons (e_neg e_int) a_nil))) a_nil))) a_nil)))) (blkOk_by (own := [("more", 7)]) (N := N__law_days) (sc := defScope s__law_days) (by decide +kernel)) (fun _ _ _ _ _ => by exact (g_n (i := 7) sc__law_days.nd rfl (Or.inl rfl))) (gonly_n (by decide)) (fun _ _ _ _ _ => by exact ts_nil) (fun _ _ _ _ _ => by exact (e_call0 c__law_dated hr (by decide) rfl (a_cons (e_add (e_v 6) (e_v 7)) a_nil))))) (e_lst a_nil)))))))
  (b_one (s_ret (by exact (e_lc (own := [("day", 3)]) (by rfl) sc__law_days.nd (i_any (e_v 2)) (blkOk_by (own := [("day", 3)]) (N := N__law_days) (sc := defScope s__law_days) (by decide +kernel)) (fun _ _ _ _ _ => by exact (g_n (i := 3) sc__law_days.nd rfl (Or.inl rfl))) (gonly_n (by decide)) (fun _ _ _ _ _ => by exact (ts_one (t_chain (c_le hr.units0) (c_le hr.units0) e_int (e_ix (e_v 3) e_int (fun _ _ => rfl)) (e_pow e_int e_int)))) (fun _ _ _ _ _ => by exact (e_v 3))))))))⟩
theorem ok__law_special (T : Txt K mg) (c__law_number : Cd P w K mg base TT 1 "_law_number" (d__law_number K)) (c__law_when_day : Cd P w K mg base TT 6 "_law_when_day" (d__law_when_day K 4)) (F : Fn K "_law_special" s__law_special f fd) : FnOk P w K mg base (L2.CX P w) 7 f fd ["rules", "year"] (spM K TT (d__law_special K)) :=
  fn_m F sc__law_special fun cdv A outer s H E hr => ⟨_, (b_cons (s_par3 (i := 2) (j := 3) (l := 4) (by rfl) sc__law_special.nd rfl rfl rfl (by decide) (by decide) (by decide) rfl rfl rfl (m_cons (e_call0 c__law_number hr (by decide) rfl (a_cons (e_tup (f_cons (e_v 1) (f_cons e_int (f_cons e_int a_nil)))) a_nil)) (m_cons (e_call0 c__law_number hr (by decide) rfl (a_cons (e_tup (f_cons (e_add (e_v 1) e_int) (f_cons e_int (f_cons e_int a_nil)))) a_nil)) (m_cons e_dnew a_nil))) (by rfl))
  (b_cons (s_for (passes_of rfl) rfl (i_any (e_rev (e_v 0))) (g_tup rfl (gs_cons (g_n (i := 5) sc__law_special.nd rfl (Or.inl rfl)) (gs_cons (g_n (i := 6) sc__law_special.nd rfl (Or.inl rfl)) gs_nil))) (b_one (s_for (passes_of rfl) rfl (i_any (e_lst (f_cons (e_sub (e_v 1) e_int) (f_cons (e_v 1) (f_cons (e_add (e_v 1) e_int) a_nil))))) (g_n (i := 7) sc__law_special.nd rfl (Or.inl rfl)) (b_cons (s_set (i := 8) sc__law_special.nd rfl (Or.inl rfl) (e_call0 c__law_when_day hr (by decide) rfl (a_cons (e_v 5) (a_cons (e_v 7) a_nil))))
  (b_one (s_if (t_w (w_and (t_cmp c_notN (e_v 8) e_non (nomark _)) (w_and1 (t_chain (c_le hr.units0) c_lt (e_v 2) (e_v 8) (e_v 3))))) (b_one (s_dput (i := 4) (hu_of hr) rfl (Or.inl rfl) (by decide) (by decide) (e_v 8) (e_v 6))) b_nil))))))
  (b_one (s_ret (e_v 4)))))⟩
theorem ok__law_plan_of (T : Txt K mg) (c__law_number : Cd P w K mg base TT 1 "_law_number" (d__law_number K)) (c__law_special : Cd P w K mg base TT 7 "_law_special" (d__law_special K)) (F : Fn K "_law_plan_of" s__law_plan_of f fd) : FnOk P w K mg base (L2.CX P w) 8 f fd ["calendar", "date"] (spM K TT (d__law_plan_of K)) :=
  fn_m F sc__law_plan_of fun cdv A outer s H E hr => ⟨_, (b_cons (s_for (passes_of rfl) rfl (i_any (e_ix (e_v 0) e_int (fun _ _ => rfl))) (g_tup rfl (gs_cons (g_n (i := 2) sc__law_plan_of.nd rfl (Or.inl rfl)) (gs_cons (g_n (i := 3) sc__law_plan_of.nd rfl (Or.inl rfl)) gs_nil))) (b_one (s_if (t_cmp (c_eq hr.units) (e_v 2) (e_v 1) (nomark _)) (b_one (s_ret (e_v 3))) b_nil)))
  (b_cons (s_set (i := 4) sc__law_plan_of.nd rfl (Or.inl rfl) (e_call0 c__law_number hr (by decide) rfl (a_cons (e_v 1) a_nil)))
  (b_one (s_ret (e_get2 (hu_of hr) (e_call0 c__law_special hr (by decide) rfl (a_cons (e_ix (e_v 0) e_int (fun _ _ => rfl)) (a_cons (e_ix (e_v 1) e_int (fun _ _ => rfl)) a_nil))) (e_v 4) (e_ix (e_ix (e_v 0) e_int (fun _ _ => rfl)) (e_mod (e_cty cl_int ps_int (by rfl) T.n_int (by decide +kernel) (a_cons (e_v 4) a_nil)) e_int) (fun _ _ => rfl)) ⟨by rfl, by rfl, by rfl, by rfl⟩)))))⟩
theorem ok_need_calendar (T : Txt K mg) (c_is_calendar : Cd P w K mg base TT 9 "is_calendar" (d_is_calendar K)) (F : Fn K "need_calendar" s_need_calendar f fd) : FnOk P w K mg base (L2.CX P w) 10 f fd ["calendar"] (spM K TT (d_need_calendar K)) :=
  fn_m F sc_need_calendar fun cdv A outer s H E hr => ⟨_, (b_one (s_if (t_not (t_val (e_call0 c_is_calendar hr (by decide) rfl (a_cons (e_v 0) a_nil)))) (b_one (s_raise rfl (takes_of rfl rfl rfl rfl) T.x_BadCalendar rfl (raises_own T.x_BadCalendar.sb T.x_BadCalendar.ty))) b_nil))⟩
theorem ok_need_date (T : Txt K mg) (c_is_date : Cd P w K mg base TT 3 "is_date" (d_is_date K)) (F : Fn K "need_date" s_need_date f fd) : FnOk P w K mg base (L2.CX P w) 4 f fd ["date"] (spM K TT (d_need_date K)) :=
  fn_m F sc_need_date fun cdv A outer s H E hr => ⟨_, (b_one (s_if (t_not (t_val (e_call0 c_is_date hr (by decide) rfl (a_cons (e_v 0) a_nil)))) (b_one (s_raise rfl (takes_of rfl rfl rfl rfl) T.x_BadDate rfl (raises_own T.x_BadDate.sb T.x_BadDate.ty))) b_nil))⟩
theorem ok_days_of (T : Txt K mg) (c_is_leap : Cd P w K mg base TT 1 "is_leap" (d_is_leap K)) (F : Fn K "days_of" s_days_of f fd) : FnOk P w K mg base (L2.CX P w) 2 f fd ["year"] (spM K TT (d_days_of K)) :=
  fn_m F sc_days_of fun cdv A outer s H E hr => ⟨_, (b_one (s_ret (e_if (t_val (e_call0 c_is_leap hr (by decide) rfl (a_cons (e_v 0) a_nil))) e_int e_int)))⟩
theorem ok_year_table (T : Txt K mg) (c_year_begin : Cd P w K mg base TT 1 "year_begin" (d_year_begin K)) (c_days_of : Cd P w K mg base TT 2 "days_of" (d_days_of K)) (c_day_of : Cd P w K mg base TT 8 "day_of" (d_day_of K 4)) (F : Fn K "year_table" s_year_table f fd) : FnOk P w K mg base (L2.CX P w) 9 f fd ["calendar", "year"] (spM K TT (d_year_table K)) :=
  fn_m F sc_year_table fun cdv A outer s H E hr => ⟨_, (b_cons (s_set (i := 2) sc_year_table.nd rfl (Or.inr rfl) (e_call0 c_year_begin hr (by decide) rfl (a_cons (e_v 1) a_nil)))
  (b_cons (s_setLc (i := 3) (own := [("at", 4)]) (by rfl) sc_year_table.nd rfl rfl (sw_true rfl rfl rfl (by decide +kernel)) (i_rng1 (by rfl) T.n_range (f_cons (e_call0 c_days_of hr (by decide) rfl (a_cons (e_v 1) a_nil)) a_nil)) (blkOk_by (own := [("at", 4)]) (N := N_year_table) (sc := defScope s_year_table) (by decide +kernel)) (fun _ _ _ _ _ => by exact (g_n (i := 4) sc_year_table.nd rfl (Or.inl rfl))) (gonly_n (by decide)) (fun _ _ _ _ _ => by exact ts_nil) (fun _ _ _ _ _ => by exact (e_ix (e_ix (e_v 0) e_int (fun _ _ => rfl)) (e_mod (e_add (e_v 2) (e_v 4)) e_int) (fun _ _ => rfl))))
  (b_cons (s_for (passes_of rfl) rfl (i_any (e_rev (e_ix (e_v 0) e_int (fun _ _ => rfl)))) (g_tup rfl (gs_cons (g_n (i := 5) sc_year_table.nd rfl (Or.inl rfl)) (gs_cons (g_n (i := 6) sc_year_table.nd rfl (Or.inl rfl)) gs_nil))) (b_one (s_for (passes_of rfl) rfl (i_any (e_tup (f_cons (e_sub (e_v 1) e_int) (f_cons (e_v 1) (f_cons (e_add (e_v 1) e_int) a_nil))))) (g_n (i := 7) sc_year_table.nd rfl (Or.inl rfl)) (b_cons (s_set (i := 8) sc_year_table.nd rfl (Or.inl rfl) (e_call0 c_day_of hr (by decide) rfl (a_cons (e_v 5) (a_cons (e_v 7) a_nil))))
  (b_one (s_if (t_w (w_and (t_cmp c_notN (e_v 8) e_non (nomark _)) (w_and1 (t_chain (c_le hr.units0) c_lt e_int (e_sub (e_v 8) (e_v 2)) (e_cb (callOr cl_len call_len_str) ps_len (by rfl) T.n_len (by decide +kernel) (a_cons (e_v 3) a_nil)))))) (b_one (s_lput (i := 3) rfl (Or.inl rfl) (by decide) (by decide) (e_sub (e_v 8) (e_v 2)) (e_v 6))) b_nil))))))
  (b_one (s_ret (e_v 3))))))⟩
theorem ok_number_at (T : Txt K mg) (c_year_begin : Cd P w K mg base TT 1 "year_begin" (d_year_begin K)) (c_day_in_year : Cd P w K mg base TT 3 "day_in_year" (d_day_in_year K)) (F : Fn K "number_at" s_number_at f fd) : FnOk P w K mg base (L2.CX P w) 4 f fd ["date"] (spM K TT (d_number_at K)) :=
  fn_m F sc_number_at fun cdv A outer s H E hr => ⟨_, (b_one (s_ret (e_add (e_call0 c_year_begin hr (by decide) rfl (a_cons (e_ix (e_v 0) e_int (fun _ _ => rfl)) a_nil)) (e_call0 c_day_in_year hr (by decide) rfl (a_cons (e_ix (e_v 0) e_int (fun _ _ => rfl)) (a_cons (e_ix (e_v 0) e_int (fun _ _ => rfl)) (a_cons (e_ix (e_v 0) e_int (fun _ _ => rfl)) a_nil)))))))⟩
theorem ok_plan_on (T : Txt K mg) (c_need_calendar : Cd P w K mg base TT 10 "need_calendar" (d_need_calendar K)) (c_need_date : Cd P w K mg base TT 4 "need_date" (d_need_date K)) (c_year_table : Cd P w K mg base TT 9 "year_table" (d_year_table K)) (c_number_at : Cd P w K mg base TT 4 "number_at" (d_number_at K)) (c_year_begin : Cd P w K mg base TT 1 "year_begin" (d_year_begin K)) (F : Fn K "plan_on" s_plan_on f fd) : FnOk P w K mg base (L2.CX P w) 11 f fd ["calendar", "date"] (spM K TT (d_plan_on K)) :=
  fn_m F sc_plan_on fun cdv A outer s H E hr => ⟨_, (b_cons (s_expr (e_call (takes_of rfl rfl rfl rfl) c_need_calendar hr (by decide) rfl (a_cons (e_v 0) a_nil)))
  (b_cons (s_expr (e_call (takes_of rfl rfl rfl rfl) c_need_date hr (by decide) rfl (a_cons (e_v 1) a_nil)))
  (b_cons (s_for (passes_of rfl) rfl (i_any (e_ix (e_v 0) e_int (fun _ _ => rfl))) (g_tup rfl (gs_cons (g_n (i := 2) sc_plan_on.nd rfl (Or.inl rfl)) (gs_cons (g_n (i := 3) sc_plan_on.nd rfl (Or.inl rfl)) gs_nil))) (b_one (s_if (t_cmp (c_eq hr.units) (e_v 2) (e_v 1) (nomark _)) (b_one (s_ret (e_v 3))) b_nil)))
  (b_one (s_ret (e_ix (e_call0 c_year_table hr (by decide) rfl (a_cons (e_v 0) (a_cons (e_ix (e_v 1) e_int (fun _ _ => rfl)) a_nil))) (e_sub (e_call0 c_number_at hr (by decide) rfl (a_cons (e_v 1) a_nil)) (e_call0 c_year_begin hr (by decide) rfl (a_cons (e_ix (e_v 1) e_int (fun _ _ => rfl)) a_nil))) (fun _ _ => rfl)))))))⟩
theorem ok_need_hour (T : Txt K mg) (c_is_whole : Cd P w K mg base TT 1 "is_whole" (d_is_whole K)) (F : Fn K "need_hour" s_need_hour f fd) : FnOk P w K mg base (L2.CX P w) 2 f fd ["hour"] (spM K TT (d_need_hour K)) :=
  fn_m F sc_need_hour fun cdv A outer s H E hr => ⟨_, (b_one (s_if (t_not (t_val (e_call0 c_is_whole hr (by decide) rfl (a_cons (e_v 0) (a_cons e_int (a_cons e_int a_nil)))))) (b_one (s_raise rfl (takes_of rfl rfl rfl rfl) T.x_BadHour rfl (raises_own T.x_BadHour.sb T.x_BadHour.ty))) b_nil))⟩
theorem ok_mode_in (T : Txt K mg) (F : Fn K "mode_in" s_mode_in f fd) : FnOk P w K mg base (L2.CX P w) 1 f fd ["plan", "hour"] (spM K TT (d_mode_in K)) :=
  fn_m F sc_mode_in fun cdv A outer s H E hr => ⟨_, (b_one (s_ret (e_ix (by exact (e_lc (own := [("begin", 2), ("mode", 3)]) (by rfl) sc_mode_in.nd (i_any (e_v 0)) (blkOk_by (own := [("begin", 2), ("mode", 3)]) (N := N_mode_in) (sc := defScope s_mode_in) (by decide +kernel)) (fun _ _ _ _ _ => by exact (g_tup rfl (gs_cons (g_n (i := 2) sc_mode_in.nd rfl (Or.inl rfl)) (gs_cons (g_n (i := 3) sc_mode_in.nd rfl (Or.inl rfl)) gs_nil)))) (gonly_t (gsonly_cons gmono_n (gsmono_cons gmono_n gsmono_nil) (gonly_n (by decide)) (gsonly_cons gmono_n gsmono_nil (gonly_n (by decide)) gsonly_nil))) (fun _ _ _ _ _ => by exact (ts_one (t_cmp (c_le hr.units0) (e_v 2) (e_v 1) (nomark _)))) (fun _ _ _ _ _ => by exact (e_v 3)))) (e_neg e_int) (fun _ _ => rfl))))⟩
theorem ok_mode_at (T : Txt K mg) (c_plan_on : Cd P w K mg base TT 11 "plan_on" (d_plan_on K)) (c_need_hour : Cd P w K mg base TT 2 "need_hour" (d_need_hour K)) (c_mode_in : Cd P w K mg base TT 1 "mode_in" (d_mode_in K)) (F : Fn K "mode_at" s_mode_at f fd) : FnOk P w K mg base (L2.CX P w) 12 f fd ["calendar", "date", "hour"] (spM K TT (d_mode_at K)) :=
  fn_m F sc_mode_at fun cdv A outer s H E hr => ⟨_, (b_cons (s_set (i := 3) sc_mode_at.nd rfl (Or.inl rfl) (e_call (takes_of rfl rfl rfl rfl) c_plan_on hr (by decide) rfl (a_cons (e_v 0) (a_cons (e_v 1) a_nil))))
  (b_cons (s_expr (e_call (takes_of rfl rfl rfl rfl) c_need_hour hr (by decide) rfl (a_cons (e_v 2) a_nil)))
  (b_one (s_ret (e_call0 c_mode_in hr (by decide) rfl (a_cons (e_v 3) (a_cons (e_v 2) a_nil)))))))⟩
theorem ok__law_mode (T : Txt K mg) (F : Fn K "_law_mode" s__law_mode f fd) : FnOk P w K mg base (L2.CX P w) 1 f fd ["plan", "hour"] (spM K TT (d__law_mode K)) :=
  fn_m F sc__law_mode fun cdv A outer s H E hr => ⟨_, (b_cons (s_setLc (i := 2) (own := [("begin", 3), ("mode", 4)]) (by rfl) sc__law_mode.nd rfl rfl (sw_true rfl rfl rfl (by decide +kernel)) (i_any (e_v 0)) (blkOk_by (own := [("begin", 3), ("mode", 4)]) (N := N__law_mode) (sc := defScope s__law_mode) (by decide +kernel)) (fun _ _ _ _ _ => by exact (g_tup rfl (gs_cons (g_n (i := 3) sc__law_mode.nd rfl (Or.inl rfl)) (gs_cons (g_n (i := 4) sc__law_mode.nd rfl (Or.inl rfl)) gs_nil)))) (gonly_t (gsonly_cons gmono_n (gsmono_cons gmono_n gsmono_nil) (gonly_n (by decide)) (gsonly_cons gmono_n gsmono_nil (gonly_n (by decide)) gsonly_nil))) (fun _ _ _ _ _ => by exact (ts_one (t_cmp (c_le hr.units0) (e_v 3) (e_v 1) (nomark _)))) (fun _ _ _ _ _ => by exact (e_v 4)))
  (b_one (s_ret (e_ix (e_v 2) (e_sub (e_cb (callOr cl_len call_len_str) ps_len (by rfl) T.n_len (by decide +kernel) (a_cons (e_v 2) a_nil)) e_int) (fun _ _ => rfl)))))⟩
theorem ok__law_calendar_right (T : Txt K mg) (Gc : Cg K mg) (LD : LamD K mg base TT "_law_calendar_right" "_law_calendar_right.<locals>.<lambda>") (c__law_days : Cd P w K mg base TT 7 "_law_days" (d__law_days K)) (c__law_draw : Cd P w K mg base TT 2 "_law_draw" dDraw) (c__law_plan_of : Cd P w K mg base TT 8 "_law_plan_of" (d__law_plan_of K)) (c_mode_at : Cd P w K mg base TT 12 "mode_at" (d_mode_at K)) (c__law_mode : Cd P w K mg base TT 1 "_law_mode" (d__law_mode K)) (v_plan_on : Cdv P w K mg base TT 11 "plan_on" ["date", "calendar"] (d_plan_on K)) (c__law_pick : Cd P w K mg base TT 3 "_law_pick" (d__law_pick K)) (c__law_date : Cd P w K mg base TT 5 "_law_date" (d__law_date K)) (F : Fn K "_law_calendar_right" s__law_calendar_right f fd) (hf : f = He.fAd K ("_law_calendar_right", none)) : FnOk P w K mg base (L2.CX P w) 15 f fd ["state", "calendar"] (spM K TT (d__law_calendar_right K)) :=
  fn_ml F hf sc__law_calendar_right fun A outer s H E hr => ⟨_, (b_cons (s_for (passes_of rfl) rfl (i_any (e_call0 c__law_days hr (by decide) rfl (a_cons (e_v 0) (a_cons (e_v 1) a_nil)))) (g_n (i := 2) sc__law_calendar_right.nd rfl (Or.inr rfl)) (b_cons (s_par (i := 3) (j := 4) (by rfl) sc__law_calendar_right.nd rfl rfl (by decide) rfl rfl (m_cons (e_call0 c__law_plan_of hr (by decide) rfl (a_cons (e_v 1) (a_cons (e_v 2) a_nil))) (m_cons (e_call0 c__law_draw hr (by decide) rfl (a_cons (e_v 0) (a_cons e_int a_nil))) a_nil)) (by rfl))
  (b_one (s_if (t_w (w_or (t_cmp (c_ne hr.units) (e_kw2 v_plan_on hr (by decide) rfl (k_cons (e_v 2) (k_cons (e_v 1) k_nil))) (e_v 3) (nomark _)) (w_or1 (t_cmp (c_ne hr.units) (e_call (takes_of rfl rfl rfl rfl) c_mode_at hr (by decide) rfl (a_cons (e_v 1) (a_cons (e_v 2) (a_cons (e_v 4) a_nil)))) (e_call0 c__law_mode hr (by decide) rfl (a_cons (e_v 3) (a_cons (e_v 4) a_nil))) (nomark _))))) (b_one (s_ret e_bl)) b_nil))))
  (b_cons (s_parN (is := [2, 5]) rfl (m_cons (e_call0 c__law_date hr (by decide) rfl (a_cons (e_v 0) a_nil)) (m_cons (e_call0 c__law_pick hr (by decide) rfl (a_cons (e_v 0) (a_cons (e_lst (f_cons e_int (f_cons (e_neg e_int) (f_cons e_non (f_cons e_bl (f_cons e_str (f_cons (e_pow e_int e_int) a_nil))))))) a_nil))) a_nil)) (gs_cons (g_n (i := 2) sc__law_calendar_right.nd rfl (Or.inr rfl)) (gs_cons (g_n (i := 5) sc__law_calendar_right.nd rfl (Or.inr rfl)) gs_nil)) rfl rfl (by decide))
  (b_one (s_ret (e_isE (by rfl) T.n_isinstance (by rfl) T.x_BadHour.gl (e_caught (k := 12) hr Gc LD rfl rfl rfl (by decide) (lamS_by (by rfl)) rfl (fun _ _ _ _ _ => rfl) c_mode_at (by decide) (fun _ _ _ _ _ _ _ => rfl) (fun _ _ _ _ _ _ _ _ => by exact (a_cons (e_v 1) (a_cons (e_v 2) (a_cons (e_v 5) a_nil))))) (.own _))))))⟩
theorem ok__law_tells (T : Txt K mg) (F : Fn K "_law_tells" s__law_tells f fd) : FnOk P w K mg base (L2.CX P w) 1 f fd ["value", "due"] (spM K TT (d__law_tells K)) :=
  fn_m F sc__law_tells fun cdv A outer s H E hr => ⟨_, (b_one (s_ret (e_if (t_val (e_v 1)) (e_cmp c_isB (e_v 0) e_bl (nomark _)) (e_cmp c_isB (e_v 0) e_bl (nomark _)))))⟩
theorem ok__law_is_mode (T : Txt K mg) (F : Fn K "_law_is_mode" s__law_is_mode f fd) : FnOk P w K mg base (L2.CX P w) 1 f fd ["value"] (spM K TT (d__law_is_mode K)) :=
  fn_m F sc__law_is_mode fun cdv A outer s H E hr => ⟨_, (b_cons (s_if (t_w (w_or (t_not (t_val (e_isi Lk.kit_str (by rfl) T.n_isinstance (by rfl) T.n_str (by decide +kernel) (e_v 0)))) (w_or (t_cmp c_lt (e_cb (callOr cl_len call_len_str) ps_len (by rfl) T.n_len (by decide +kernel) (a_cons (e_v 0) a_nil)) e_int (nomark _)) (w_or (t_cmp c_gt (e_cb (callOr cl_len call_len_str) ps_len (by rfl) T.n_len (by decide +kernel) (a_cons (e_v 0) a_nil)) e_int (nomark _)) (w_or1 (t_cmp (c_eq hr.units) (e_v 0) e_str (nomark _))))))) (b_one (s_ret e_bl)) b_nil)
  (b_one (s_ret (e_cmp (c_eq hr.units) (by exact (e_lc (own := [("letter", 1)]) (by rfl) sc__law_is_mode.nd (i_any (e_v 0)) (blkOk_by (own := [("letter", 1)]) (N := N__law_is_mode) (sc := defScope s__law_is_mode) (by decide +kernel)) (fun _ _ _ _ _ => by exact (g_n (i := 1) sc__law_is_mode.nd rfl (Or.inl rfl))) (gonly_n (by decide)) (fun _ _ _ _ _ => by exact (ts_one (t_cmp (c_notIn (units1 hr)) (e_v 1) e_str (by rfl)))) (fun _ _ _ _ _ => by exact e_int))) (e_lst a_nil) (nomark _)))))⟩
theorem ok__law_is_plan (T : Txt K mg) (c__law_is_mode : Cd P w K mg base TT 1 "_law_is_mode" (d__law_is_mode K)) (c__law_is_int : Cd P w K mg base TT 1 "_law_is_int" (d__law_is_int K)) (F : Fn K "_law_is_plan" s__law_is_plan f fd) : FnOk P w K mg base (L2.CX P w) 2 f fd ["value"] (spM K TT (d__law_is_plan K)) :=
  fn_m F sc__law_is_plan fun cdv A outer s H E hr => ⟨_, (b_cons (s_if (t_w (w_or (t_not (t_val (e_isi Lk.kit_tup (by rfl) T.n_isinstance (by rfl) T.n_tuple (by decide +kernel) (e_v 0)))) (w_or (t_cmp c_lt (e_cb (callOr cl_len call_len_str) ps_len (by rfl) T.n_len (by decide +kernel) (a_cons (e_v 0) a_nil)) e_int (nomark _)) (w_or1 (t_cmp c_gt (e_cb (callOr cl_len call_len_str) ps_len (by rfl) T.n_len (by decide +kernel) (a_cons (e_v 0) a_nil)) e_int (nomark _)))))) (b_one (s_ret e_bl)) b_nil)
  (b_cons (s_for (passes_of rfl) rfl (i_any (e_v 0)) (g_n (i := 1) sc__law_is_plan.nd rfl (Or.inl rfl)) (b_one (s_if (t_w (w_or (t_not (t_val (e_isi Lk.kit_tup (by rfl) T.n_isinstance (by rfl) T.n_tuple (by decide +kernel) (e_v 1)))) (w_or (t_cmp (c_ne hr.units) (e_cb (callOr cl_len call_len_str) ps_len (by rfl) T.n_len (by decide +kernel) (a_cons (e_v 1) a_nil)) e_int (nomark _)) (w_or (t_not (t_val (e_call0 c__law_is_int hr (by decide) rfl (a_cons (e_ix (e_v 1) e_int (fun _ _ => rfl)) (a_cons e_int (a_cons e_int a_nil)))))) (w_or1 (t_not (t_val (e_call0 c__law_is_mode hr (by decide) rfl (a_cons (e_ix (e_v 1) e_int (fun _ _ => rfl)) a_nil))))))))) (b_one (s_ret e_bl)) b_nil)))
  (b_cons (s_setLc (i := 2) (own := [("hour", 3), ("mode", 4)]) (by rfl) sc__law_is_plan.nd rfl rfl (sw_true rfl rfl rfl (by decide +kernel)) (i_any (e_v 0)) (blkOk_by (own := [("hour", 3), ("mode", 4)]) (N := N__law_is_plan) (sc := defScope s__law_is_plan) (by decide +kernel)) (fun _ _ _ _ _ => by exact (g_tup rfl (gs_cons (g_n (i := 3) sc__law_is_plan.nd rfl (Or.inl rfl)) (gs_cons (g_n (i := 4) sc__law_is_plan.nd rfl (Or.inl rfl)) gs_nil)))) (gonly_t (gsonly_cons gmono_n (gsmono_cons gmono_n gsmono_nil) (gonly_n (by decide)) (gsonly_cons gmono_n gsmono_nil (gonly_n (by decide)) gsonly_nil))) (fun _ _ _ _ _ => by exact ts_nil) (fun _ _ _ _ _ => by exact (e_v 3)))
  (b_cons (s_if (t_w (w_or (t_cmp (c_ne hr.units) (e_ix (e_v 2) e_int (fun _ _ => rfl)) e_int (nomark _)) (w_or1 (t_cmp (c_ne hr.units) (e_v 2) (e_sortSetI rfl hr.units (by rfl) T.n_sorted (by rfl) T.n_set (e_v 2)) (nomark _))))) (b_one (s_ret e_bl)) b_nil)
  (b_one (s_ret (e_cmp (c_eq hr.units) (by exact (e_lc (own := [("at", 5)]) (by rfl) sc__law_is_plan.nd (i_rng2 (by rfl) T.n_range (f_cons e_int (f_cons (e_cb (callOr cl_len call_len_str) ps_len (by rfl) T.n_len (by decide +kernel) (a_cons (e_v 0) a_nil)) a_nil))) (blkOk_by (own := [("at", 5)]) (N := N__law_is_plan) (sc := defScope s__law_is_plan) (by decide +kernel)) (fun _ _ _ _ _ => by exact (g_n (i := 5) sc__law_is_plan.nd rfl (Or.inl rfl))) (gonly_n (by decide)) (fun _ _ _ _ _ => by exact (ts_one (t_cmp (c_eq hr.units) (e_ix (e_ix (e_v 0) (e_v 5) (fun _ _ => rfl)) e_int (fun _ _ => rfl)) (e_ix (e_ix (e_v 0) (e_sub (e_v 5) e_int) (fun _ _ => rfl)) e_int (fun _ _ => rfl)) (nomark _)))) (fun _ _ _ _ _ => by exact (e_v 5)))) (e_lst a_nil) (nomark _))))))))⟩
theorem ok__law_is_day (T : Txt K mg) (c__law_is_int : Cd P w K mg base TT 1 "_law_is_int" (d__law_is_int K)) (c__law_month : Cd P w K mg base TT 2 "_law_month" (d__law_month K)) (F : Fn K "_law_is_day" s__law_is_day f fd) : FnOk P w K mg base (L2.CX P w) 3 f fd ["value"] (spM K TT (d__law_is_day K)) :=
  fn_m F sc__law_is_day fun cdv A outer s H E hr => ⟨_, (b_cons (s_if (t_w (w_or (t_not (t_val (e_isi Lk.kit_tup (by rfl) T.n_isinstance (by rfl) T.n_tuple (by decide +kernel) (e_v 0)))) (w_or (t_cmp (c_ne hr.units) (e_cb (callOr cl_len call_len_str) ps_len (by rfl) T.n_len (by decide +kernel) (a_cons (e_v 0) a_nil)) e_int (nomark _)) (w_or1 (t_not (t_val (e_call0 c__law_is_int hr (by decide) rfl (a_cons (e_ix (e_v 0) e_int (fun _ _ => rfl)) (a_cons e_int (a_cons (e_pow e_int e_int) a_nil)))))))))) (b_one (s_ret e_bl)) b_nil)
  (b_one (s_ret (e_and (e_call0 c__law_is_int hr (by decide) rfl (a_cons (e_ix (e_v 0) e_int (fun _ _ => rfl)) (a_cons e_int (a_cons e_int a_nil)))) (e_one (e_call0 c__law_is_int hr (by decide) rfl (a_cons (e_ix (e_v 0) e_int (fun _ _ => rfl)) (a_cons e_int (a_cons (e_call0 c__law_month hr (by decide) rfl (a_cons (e_ix (e_v 0) e_int (fun _ _ => rfl)) (a_cons (e_ix (e_v 0) e_int (fun _ _ => rfl)) a_nil))) a_nil)))))))))⟩
theorem ok__law_is_yearly (T : Txt K mg) (c__law_is_plan : Cd P w K mg base TT 2 "_law_is_plan" (d__law_is_plan K)) (c__law_is_day : Cd P w K mg base TT 3 "_law_is_day" (d__law_is_day K)) (c__law_is_rule_day : Cd P w K mg base TT 7 "_law_is_rule_day" (d__law_is_rule_day K 5)) (F : Fn K "_law_is_yearly" s__law_is_yearly f fd) : FnOk P w K mg base (L2.CX P w) 8 f fd ["value"] (spM K TT (d__law_is_yearly K)) :=
  fn_m F sc__law_is_yearly fun cdv A outer s H E hr => ⟨_, (b_cons (s_if (t_w (w_or (t_not (t_val (e_isi Lk.kit_tup (by rfl) T.n_isinstance (by rfl) T.n_tuple (by decide +kernel) (e_v 0)))) (w_or (t_cmp (c_ne hr.units) (e_cb (callOr cl_len call_len_str) ps_len (by rfl) T.n_len (by decide +kernel) (a_cons (e_v 0) a_nil)) e_int (nomark _)) (w_or (t_not (t_val (e_isi Lk.kit_str (by rfl) T.n_isinstance (by rfl) T.n_str (by decide +kernel) (e_ix (e_v 0) e_int (fun _ _ => rfl))))) (w_or1 (t_cmp (c_ne hr.units) (e_ix (e_v 0) e_int (fun _ _ => rfl)) e_str (nomark _))))))) (b_one (s_ret e_bl)) b_nil)
  (b_cons (s_par3 (i := 1) (j := 2) (l := 3) (by rfl) sc__law_is_yearly.nd rfl rfl rfl (by decide) (by decide) (by decide) rfl rfl rfl (m_cons (e_ix (e_v 0) e_int (fun _ _ => rfl)) (m_cons (e_ix (e_v 0) e_int (fun _ _ => rfl)) (m_cons (e_ix (e_v 0) e_int (fun _ _ => rfl)) a_nil))) (by rfl))
  (b_cons (s_if (t_w (w_or (t_not (t_val (e_isi Lk.kit_tup (by rfl) T.n_isinstance (by rfl) T.n_tuple (by decide +kernel) (e_v 1)))) (w_or (t_cmp (c_ne hr.units) (e_cb (callOr cl_len call_len_str) ps_len (by rfl) T.n_len (by decide +kernel) (a_cons (e_v 1) a_nil)) e_int (nomark _)) (w_or1 (t_cmp (c_ne hr.units) (by exact (e_lc (own := [("plan", 4)]) (by rfl) sc__law_is_yearly.nd (i_any (e_v 1)) (blkOk_by (own := [("plan", 4)]) (N := N__law_is_yearly) (sc := defScope s__law_is_yearly) (by decide +kernel)) (fun _ _ _ _ _ => by exact (g_n (i := 4) sc__law_is_yearly.nd rfl (Or.inl rfl))) (gonly_n (by decide)) (fun _ _ _ _ _ => by exact (ts_one (t_not (t_val (e_call0 c__law_is_plan hr (by decide) rfl (a_cons (e_v 4) a_nil)))))) (fun _ _ _ _ _ => by exact e_int))) (e_lst a_nil) (nomark _)))))) (b_one (s_ret e_bl)) b_nil)
  (b_cons (s_for (passes_of rfl) rfl (i_any (e_lst (f_cons (e_v 2) (f_cons (e_v 3) a_nil)))) (g_n (i := 5) sc__law_is_yearly.nd rfl (Or.inl rfl)) (b_cons (s_if (t_w (w_or (t_not (t_val (e_isi Lk.kit_tup (by rfl) T.n_isinstance (by rfl) T.n_tuple (by decide +kernel) (e_v 5)))) (w_or1 (t_cmp c_gt (e_cb (callOr cl_len call_len_str) ps_len (by rfl) T.n_len (by decide +kernel) (a_cons (e_v 5) a_nil)) e_int (nomark _))))) (b_one (s_ret e_bl)) b_nil)
  (b_one (s_for (passes_of rfl) rfl (i_any (e_v 5)) (g_n (i := 6) sc__law_is_yearly.nd rfl (Or.inl rfl)) (b_one (s_if (t_w (w_or (t_not (t_val (e_isi Lk.kit_tup (by rfl) T.n_isinstance (by rfl) T.n_tuple (by decide +kernel) (e_v 6)))) (w_or (t_cmp (c_ne hr.units) (e_cb (callOr cl_len call_len_str) ps_len (by rfl) T.n_len (by decide +kernel) (a_cons (e_v 6) a_nil)) e_int (nomark _)) (w_or1 (t_not (t_val (e_call0 c__law_is_plan hr (by decide) rfl (a_cons (e_ix (e_v 6) e_int (fun _ _ => rfl)) a_nil)))))))) (b_one (s_ret e_bl)) b_nil))))))
  (b_cons (s_if (t_w (w_or (t_cmp (c_ne hr.units) (by exact (e_lc (own := [("one", 6)]) (by rfl) sc__law_is_yearly.nd (i_any (e_v 2)) (blkOk_by (own := [("one", 6)]) (N := N__law_is_yearly) (sc := defScope s__law_is_yearly) (by decide +kernel)) (fun _ _ _ _ _ => by exact (g_n (i := 6) sc__law_is_yearly.nd rfl (Or.inl rfl))) (gonly_n (by decide)) (fun _ _ _ _ _ => by exact (ts_one (t_not (t_val (e_call0 c__law_is_rule_day hr (by decide) rfl (a_cons (e_ix (e_v 6) e_int (fun _ _ => rfl)) (a_cons e_int a_nil))))))) (fun _ _ _ _ _ => by exact e_int))) (e_lst a_nil) (nomark _)) (w_or1 (t_cmp (c_ne hr.units) (by exact (e_lc (own := [("one", 6)]) (by rfl) sc__law_is_yearly.nd (i_any (e_v 3)) (blkOk_by (own := [("one", 6)]) (N := N__law_is_yearly) (sc := defScope s__law_is_yearly) (by decide +kernel)) (fun _ _ _ _ _ => by exact (g_n (i := 6) sc__law_is_yearly.nd rfl (Or.inl rfl))) (gonly_n (by decide)) (fun _ _ _ _ _ => by exact (ts_one (t_not (t_val (e_call0 c__law_is_day hr (by decide) rfl (a_cons (e_ix (e_v 6) e_int (fun _ _ => rfl)) a_nil)))))) (fun _ _ _ _ _ => by exact e_int))) (e_lst a_nil) (nomark _))))) (b_one (s_ret e_bl)) b_nil)
  (b_one (s_ret (e_cmp (c_eq hr.units) (by exact (e_lc (own := [("day", 7), ("plan", 4)]) (by rfl) sc__law_is_yearly.nd (i_any (e_v 3)) (blkOk_by (own := [("day", 7), ("plan", 4)]) (N := N__law_is_yearly) (sc := defScope s__law_is_yearly) (by decide +kernel)) (fun _ _ _ _ _ => by exact (g_tup rfl (gs_cons (g_n (i := 7) sc__law_is_yearly.nd rfl (Or.inl rfl)) (gs_cons (g_n (i := 4) sc__law_is_yearly.nd rfl (Or.inl rfl)) gs_nil)))) (gonly_t (gsonly_cons gmono_n (gsmono_cons gmono_n gsmono_nil) (gonly_n (by decide)) (gsonly_cons gmono_n gsmono_nil (gonly_n (by decide)) gsonly_nil))) (fun _ _ _ _ _ => by exact ts_nil) (fun _ _ _ _ _ => by exact (e_v 7)))) (e_sortSetT rfl hr.units (by rfl) T.n_sorted (by rfl) T.n_set (by exact (e_lc (own := [("day", 7), ("plan", 4)]) (by rfl) sc__law_is_yearly.nd (i_any (e_v 3)) (blkOk_by (own := [("day", 7), ("plan", 4)]) (N := N__law_is_yearly) (sc := defScope s__law_is_yearly) (by decide +kernel)) (fun _ _ _ _ _ => by exact (g_tup rfl (gs_cons (g_n (i := 7) sc__law_is_yearly.nd rfl (Or.inl rfl)) (gs_cons (g_n (i := 4) sc__law_is_yearly.nd rfl (Or.inl rfl)) gs_nil)))) (gonly_t (gsonly_cons gmono_n (gsmono_cons gmono_n gsmono_nil) (gonly_n (by decide)) (gsonly_cons gmono_n gsmono_nil (gonly_n (by decide)) gsonly_nil))) (fun _ _ _ _ _ => by exact ts_nil) (fun _ _ _ _ _ => by exact (e_v 7))))) (nomark _)))))))))⟩
theorem ok_law (T : Txt K mg) (Gc : Cg K mg) (LD : LamD K mg base TT "law" "law.<locals>.<lambda>") (c__law_begun : Cd P w K mg base TT 1 "_law_begun" dBegun) (c__law_calendar : Cd P w K mg base TT 9 "_law_calendar" (d__law_calendar K)) (c__law_draw : Cd P w K mg base TT 2 "_law_draw" dDraw) (c__law_calendar_right : Cd P w K mg base TT 15 "_law_calendar_right" (d__law_calendar_right K)) (c_is_calendar : Cd P w K mg base TT 9 "is_calendar" (d_is_calendar K)) (w_is_calendar : Cdk P w K mg base TT 9 "is_calendar" ["value"] (d_is_calendar K)) (c__law_told_right : Cd P w K mg base TT 13 "_law_told_right" (d__law_told_right K)) (c__law_year : Cd P w K mg base TT 4 "_law_year" (d__law_year K)) (c__law_bent : Cd P w K mg base TT 12 "_law_bent" (d__law_bent K 9)) (c__law_tells : Cd P w K mg base TT 1 "_law_tells" (d__law_tells K)) (c__law_is_yearly : Cd P w K mg base TT 8 "_law_is_yearly" (d__law_is_yearly K)) (c_plan_on : Cd P w K mg base TT 11 "plan_on" (d_plan_on K)) (F : Fn K "law" s_law f fd) (hf : f = He.fAd K ("law", none)) : FnOk P w K mg base (L2.CX P w) 16 f fd ["script"] (spM K TT (d_law K)) :=
  fn_ml F hf sc_law fun A outer s H E hr => ⟨_, (b_cons (s_set (i := 1) sc_law.nd rfl (Or.inl rfl) (e_call0 c__law_begun hr (by decide) rfl (a_cons (e_v 0) a_nil)))
  (b_cons (s_for (passes_of rfl) rfl (i_rng1 (by rfl) T.n_range (f_cons (e_add e_int (e_cb (cl_min rfl) ps_min2 (by rfl) T.n_min (by decide +kernel) (a_cons (e_cb (callOr cl_len call_len_str) ps_len (by rfl) T.n_len (by decide +kernel) (a_cons (e_v 0) a_nil)) (a_cons e_int a_nil)))) a_nil)) (g_n (i := 2) sc_law.nd rfl (Or.inl rfl)) (b_cons (s_set (i := 3) sc_law.nd rfl (Or.inl rfl) (e_call0 c__law_calendar hr (by decide) rfl (a_cons (e_v 1) (a_cons (e_lst (f_cons e_str (f_cons e_str (f_cons e_str (f_cons e_str a_nil))))) (a_cons (e_cmp (c_eq hr.units) (e_call0 c__law_draw hr (by decide) rfl (a_cons (e_v 1) (a_cons e_int a_nil))) e_int (nomark _)) a_nil)))))
  (b_cons (s_if (t_w (w_or (t_cmp c_notB (e_call0 c_is_calendar hr (by decide) rfl (a_cons (e_v 3) a_nil)) e_bl (nomark _)) (w_or1 (t_not (t_val (e_call (takes_of rfl rfl rfl rfl) c__law_calendar_right hr (by decide) rfl (a_cons (e_v 1) (a_cons (e_v 3) a_nil)))))))) (b_one (s_ret e_bl)) b_nil)
  (b_cons (s_if (t_not (t_val (e_call (takes_of rfl rfl rfl rfl) c__law_told_right hr (by decide) rfl (a_cons (e_v 1) (a_cons (e_v 3) (a_cons (e_call0 c__law_year hr (by decide) rfl (a_cons (e_v 1) a_nil)) a_nil)))))) (b_one (s_ret e_bl)) b_nil)
  (b_one (s_for (passes_of rfl) rfl (i_rng1 (by rfl) T.n_range (f_cons e_int a_nil)) (g_n (i := 4) sc_law.nd rfl (Or.inl rfl)) (b_cons (s_set (i := 5) sc_law.nd rfl (Or.inr rfl) (e_call0 c__law_bent hr (by decide) rfl (a_cons (e_v 1) (a_cons (e_v 3) a_nil))))
  (b_cons (s_if (t_not (t_val (e_call0 c__law_tells hr (by decide) rfl (a_cons (e_kw0 w_is_calendar hr (by decide) rfl (k_cons (e_v 5) k_nil)) (a_cons (e_call0 c__law_is_yearly hr (by decide) rfl (a_cons (e_v 5) a_nil)) a_nil))))) (b_one (s_ret e_bl)) b_nil)
  (b_cons (s_set (i := 6) sc_law.nd rfl (Or.inl rfl) (e_caught (k := 11) hr Gc LD rfl rfl rfl (by decide) (lamS_by (by rfl)) rfl (fun _ _ _ _ _ => rfl) c_plan_on (by decide) (fun _ _ _ _ _ _ _ => rfl) (fun _ _ _ _ _ _ _ _ => by exact (a_cons (e_v 5) (a_cons (e_tup (f_cons e_int (f_cons e_int (f_cons e_int a_nil)))) a_nil)))))
  (b_one (s_if (t_w (w_or (t_cmp (c_eq hr.units) (e_isE (by rfl) T.n_isinstance (by rfl) T.x_BadCalendar.gl (e_v 6) (.own _)) (e_call0 c__law_is_yearly hr (by decide) rfl (a_cons (e_v 5) a_nil)) (nomark _)) (w_or1 (t_w (w_and (t_notNE (e_v 6) (nomark _)) (w_and1 (t_not (t_val (e_isE (by rfl) T.n_isinstance (by rfl) T.x_BadCalendar.gl (e_v 6) (.own _)))))))))) (b_one (s_ret e_bl)) b_nil)))))))))))
  (b_one (s_ret e_bl))))⟩
end
end K81

end

section
/-! the plain part's small tactics: one step of a denotation; all steps that go by themselves -/
local macro_rules | `(tactic| wtm_at "k") => `(tactic| fail "no call")
local macro_rules | `(tactic| wtm_at "set") => `(tactic| (first | (simp only [List.set_cons_zero, List.set_cons_succ, List.set_nil]; done) | (simp only [List.set_cons_zero, List.set_cons_succ, List.set_nil]; exact rfl) | exact rfl))
local macro_rules | `(tactic| wtm_at "cond") => `(tactic| first | assumption | omega | decide | rfl | (exact ⟨by omega, by decide⟩))
local macro_rules | `(tactic| wtm_at "sh") => `(tactic| first | assumption | rfl | decide +kernel)
local macro_rules | `(tactic| wtm_at "x1") => `(tactic| (with_reducible refine Mk.x_stp ?_))
local macro_rules | `(tactic| wtm_at "x2") => `(tactic| first
  | ((with_reducible refine' Mk.x_seqK ?a ?h); (case a => exact rfl))
  | ((with_reducible refine' Mk.x_callK ?a ?b ?h); (case a => exact rfl); (case b => first | exact List.nodup_nil | (simp only [Mk.u_slots_slot, Mk.u_slots_val, Mk.u_slots_nil]; decide)))
  | ((with_reducible refine' Mk.x_lm ?a ?h); (case a => exact rfl))
  | ((with_reducible refine' Mk.x_lmK ?a ?b ?h); (case a => exact rfl); (case b => exact rfl))
  | ((with_reducible refine' Mk.x_isD ?e ?h); (case e => exact rfl))
  | ((with_reducible refine' Mk.x_isDct ?e ?h); (case e => exact rfl))
  | ((with_reducible refine' Mk.x_isLs ?e ?h); (case e => exact rfl))
  | ((with_reducible refine' Mk.x_get2K ?a ?b ?h); (case a => exact rfl); (case b => exact rfl))
  | ((with_reducible refine' Mk.x_gT ?a ?h); (case a => exact rfl))
  | ((with_reducible refine' Mk.x_aug ?a ?h); (case a => exact rfl))
  | ((with_reducible refine' Mk.x_fMul ?c ?h); (case c => first | exact .inl (.inl ⟨by omega, by omega⟩) | exact .inl (.inr ⟨by omega, by omega⟩) | assumption))
  | ((with_reducible refine' Mk.x_rngK1 ?c ?h); (case c => omega))
  | ((with_reducible refine' Mk.x_rngK2 ?c ?h); (case c => omega))
  | ((with_reducible refine' Mk.x_lcS ?a ?b ?h); (case a => simp); (case b => (simp only [Mk.wipeE, List.set_cons_zero, List.set_cons_succ]; exact rfl)))
  | ((with_reducible refine' Mk.x_fSum ?a ?h); (case a => exact Mk.ints_some _ _))
  | ((with_reducible refine' Mk.x_fAll ?a ?h); (case a => exact Mk.bools_some _ _))
  | ((with_reducible refine' Mk.x_disl ?c ?h); (case c => first | decide | assumption | (simp; done) | omega))
  | ((with_reducible refine' Mk.x_fEqS ?a ?b ?h); (case a => first | assumption | decide +kernel); (case b => first | assumption | decide +kernel))
  | ((with_reducible refine' Mk.x_fNeS ?a ?b ?h); (case a => first | assumption | decide +kernel); (case b => first | assumption | decide +kernel))
  | ((with_reducible refine' Mk.x_fLenS ?a ?h); (case a => first | assumption | omega | decide))
  | ((with_reducible refine' Mk.x_fMod ?c ?h); (case c => first | omega | decide))
  | ((with_reducible refine' Mk.x_fFdiv ?c ?h); (case c => wtm_at "cond"))
  | ((with_reducible refine' Mk.x_fIxT ?c ?h); (case c => first | exact rfl | assumption | exact Mk.u_atI0))
  | ((with_reducible refine' Mk.x_fIxL ?c ?h); (case c => first | exact rfl | assumption | exact Mk.u_atI0))
  | ((with_reducible refine' Mk.x_fEq ?a ?b ?h); (case a => wtm_at "sh"); (case b => wtm_at "sh"))
  | ((with_reducible refine' Mk.x_fNe ?a ?b ?h); (case a => wtm_at "sh"); (case b => wtm_at "sh"))
  | ((with_reducible refine' Mk.x_rt ?a ?h); (case a => exact rfl))
  | ((with_reducible refine' Mk.x_nx ?a ?h); (case a => exact rfl))
  | ((with_reducible refine' Mk.x_er ?a ?h); (case a => exact rfl))
  | ((with_reducible refine' Mk.x_datsK ?a ?h); (case a => exact rfl))
  | ((with_reducible refine' Mk.x_rdsK ?a ?h); (case a => exact rfl))
  | ((with_reducible refine' Mk.x_rdK ?a ?h); (case a => exact rfl))
  | ((with_reducible refine' Mk.x_opK ?a ?b ?h); (case a => exact rfl); (case b => exact rfl))
  | ((with_reducible refine' Mk.x_itK ?a ?h); (case a => exact rfl))
  | ((with_reducible refine' Mk.x_callV ?a ?b ?h); (case a => exact rfl); (case b => exact rfl))
  | ((with_reducible refine' Mk.x_mov_slot ?a ?c ?h); (case a => exact rfl); (case c => wtm_at "set"))
  | ((with_reducible refine' Mk.x_frz_slot ?a ?c ?h); (case a => exact rfl); (case c => wtm_at "set"))
  | ((with_reducible refine' Mk.x_put ?a ?b ?c ?h); (case a => first | exact List.not_mem_nil | decide); (case b => first | decide | simp); (case c => wtm_at "set"))
  | ((with_reducible refine' Mk.x_v_dat ?e ?h); (case e => exact rfl))
  | ((with_reducible refine' Mk.x_v_lst ?e ?h); (case e => exact rfl))
  | ((with_reducible refine' Mk.x_v_st ?e ?h); (case e => exact rfl))
  | ((with_reducible refine' Mk.x_v_dct ?e ?h); (case e => exact rfl)))
local macro_rules | `(tactic| wtm_at "x") => `(tactic| first | (with_reducible refine Mk.x_stp ?_) | ((with_reducible refine' Mk.x_iteF2 ?a ?h); (case a => first | assumption | exact rfl | decide +kernel)) | ((with_reducible refine' Mk.x_iteT2 ?a ?h); (case a => first | assumption | exact rfl | decide +kernel)) | ((with_reducible refine' Mk.x_iteN ?a ?h); (case a => assumption)) | ((with_reducible refine' Mk.x_iteM ?a ?h); (case a => assumption)) | wtm_at "k" | wtm_at "x2")
local macro_rules | `(tactic| wtm_at "go") => `(tactic| repeat (wtm_at "x"))
local macro_rules | `(tactic| wtm_at "all") => `(tactic| repeat' (first | wtm_at "x" | (with_reducible refine Mk.x_ite (fun _ => ?_) (fun _ => ?_))))
local macro_rules | `(tactic| wtm_at "in") => `(tactic| ((with_reducible refine' Mk.x_run ?a ?b ?c ?h); (case a => exact rfl); (case b => (simp only [List.map_cons, List.map_nil, List.length_cons, List.length_nil, List.replicate, List.nil_append, List.cons_append, Nat.reduceAdd, Nat.reduceSub]; exact rfl)); (case c => (simp only [Mk.u_owns_nil, Mk.u_owns_dat, Mk.u_owns_exc, Mk.u_owns_st, Mk.u_owns_lst, Nat.reduceAdd]; exact rfl))))
local macro_rules | `(tactic| wtm_at "hy") => `(tactic| simp only [Bool.not_eq_true', Bool.not_eq_false', decide_eq_true_eq, decide_eq_false_iff_not, Bool.and_eq_true, Bool.or_eq_true, Bool.and_eq_false_iff, Bool.or_eq_false_iff, Mk.eqd_int, Mk.eqd_str, Mk.isNone, Lk.isInt, Lk.isBool, Lk.isTup, Lk.isStr, Lk.isLst] at *)
local macro_rules | `(tactic| wtm_at "bz") => `(tactic| ((try simp only [Bool.not_eq_true', Bool.not_eq_false'] at *); simp [*]))
local macro_rules | `(tactic| wtm_at "bk") => `(tactic| simp only [Mk.u_backs_slot, Mk.u_backs_val, Mk.u_backs_nil, Mk.u_putO, List.set_cons_zero, List.set_cons_succ])
local macro_rules | `(tactic| wtm_at "gs") => `(tactic| repeat ((fail_if_success (with_reducible refine Mk.x_seq ?_)); wtm_at "x"))

/-! part Q0 -/
namespace K81
open PySem PySem.Spec PyProof.Rows L2 Evl Lk LamX
/-! from A -/
def last : Int := 10 ^ 30
def isLeap (y : Int) : Bool := (decide (y % 4 = 0) && !decide (y % 100 = 0)) || decide (y % 400 = 0)
def lens : List Int := [31, 28, 31, 30, 31, 30, 31, 31, 30, 31, 30, 31]
def monthDays (y m : Int) : Int := if (decide (m = 2) && isLeap y) = true then 29 else lens.getD (m - 1).toNat 0
def yearBegin (y : Int) : Int := 365 * (y - 1) + (y - 1) / 4 - (y - 1) / 100 + (y - 1) / 400
def dayInYear (y m d : Int) : Int := ((List.range (m - 1).toNat).map fun (i : Nat) => monthDays y (1 + (i : Int))).sum + d - 1
def numberAt (y m d : Int) : Int := yearBegin y + dayInYear y m d
def isWhole : PyData → Int → Int → Bool
  | .int i, lo, hi => decide (lo ≤ i) && decide (i ≤ hi)
  | _, _, _ => false
theorem lens_at {m : Int} (h1 : 1 ≤ m) (h2 : m ≤ 12) : atI (lens.map PyData.int) (m - 1) = some (.int (lens.getD (m - 1).toNat 0)) := by
  have h : m = 1 ∨ m = 2 ∨ m = 3 ∨ m = 4 ∨ m = 5 ∨ m = 6 ∨ m = 7 ∨ m = 8 ∨ m = 9 ∨ m = 10 ∨ m = 11 ∨ m = 12 := by omega
  rcases h with h | h | h | h | h | h | h | h | h | h | h | h <;> (subst h; rfl)
/-! from B -/
def lp (y : Int) : Int := if isLeap y = true then 1 else 0
theorem lp_bd (y : Int) : 0 ≤ lp y ∧ lp y ≤ 1 := by
  unfold lp
  split <;> omega
def sumDays (y m : Int) : Int := ((List.range (m - 1).toNat).map fun (i : Nat) => monthDays y (1 + (i : Int))).sum
theorem sumDays_succ {y m : Int} (h : 1 ≤ m) : sumDays y (m + 1) = sumDays y m + monthDays y m := by
  unfold sumDays
  have e : (m + 1 - 1).toNat = (m - 1).toNat + 1 := by omega
  rw [e, List.range_succ, List.map_append, List.sum_append]
  have e2 : (1 : Int) + ((m - 1).toNat : Int) = m := by omega
  simp only [List.map_cons, List.map_nil, List.sum_cons, List.sum_nil, e2]
  omega
theorem cases12 {m : Int} (h1 : 1 ≤ m) (h2 : m ≤ 12) : m = 1 ∨ m = 2 ∨ m = 3 ∨ m = 4 ∨ m = 5 ∨ m = 6 ∨ m = 7 ∨ m = 8 ∨ m = 9 ∨ m = 10 ∨ m = 11 ∨ m = 12 := by omega
def lenAt (m : Int) : Int := lens.getD (m - 1).toNat 0
theorem monthDays_eq (y m : Int) : monthDays y m = if m = 2 then 28 + lp y else lenAt m := by
  unfold monthDays lp lenAt
  by_cases h : m = 2
  · subst h
    cases isLeap y <;> decide
  · rw [decide_eq_false h, if_neg h]
    rfl
theorem md1 (y : Int) : monthDays y 1 = 31 := by
  rw [monthDays_eq, if_neg (by decide)]
  rfl
theorem md2 (y : Int) : monthDays y 2 = 28 + lp y := by
  rw [monthDays_eq, if_pos rfl]
theorem md3 (y : Int) : monthDays y 3 = 31 := by
  rw [monthDays_eq, if_neg (by decide)]
  rfl
theorem md4 (y : Int) : monthDays y 4 = 30 := by
  rw [monthDays_eq, if_neg (by decide)]
  rfl
theorem md5 (y : Int) : monthDays y 5 = 31 := by
  rw [monthDays_eq, if_neg (by decide)]
  rfl
theorem md6 (y : Int) : monthDays y 6 = 30 := by
  rw [monthDays_eq, if_neg (by decide)]
  rfl
theorem md7 (y : Int) : monthDays y 7 = 31 := by
  rw [monthDays_eq, if_neg (by decide)]
  rfl
theorem md8 (y : Int) : monthDays y 8 = 31 := by
  rw [monthDays_eq, if_neg (by decide)]
  rfl
theorem md9 (y : Int) : monthDays y 9 = 30 := by
  rw [monthDays_eq, if_neg (by decide)]
  rfl
theorem md10 (y : Int) : monthDays y 10 = 31 := by
  rw [monthDays_eq, if_neg (by decide)]
  rfl
theorem md11 (y : Int) : monthDays y 11 = 30 := by
  rw [monthDays_eq, if_neg (by decide)]
  rfl
theorem md12 (y : Int) : monthDays y 12 = 31 := by
  rw [monthDays_eq, if_neg (by decide)]
  rfl
theorem monthDays_bd {y m : Int} (h1 : 1 ≤ m) (h2 : m ≤ 12) : 28 ≤ monthDays y m ∧ monthDays y m ≤ 31 := by
  have b := lp_bd y
  rcases cases12 h1 h2 with h | h | h | h | h | h | h | h | h | h | h | h <;> subst h <;> simp only [md1, md2, md3, md4, md5, md6, md7, md8, md9, md10, md11, md12] <;> omega
theorem sums (y : Int) : sumDays y 1 = 0 ∧ sumDays y 2 = 31 ∧ sumDays y 3 = 59 + lp y ∧ sumDays y 4 = 90 + lp y ∧ sumDays y 5 = 120 + lp y ∧ sumDays y 6 = 151 + lp y ∧ sumDays y 7 = 181 + lp y ∧ sumDays y 8 = 212 + lp y ∧ sumDays y 9 = 243 + lp y ∧ sumDays y 10 = 273 + lp y ∧ sumDays y 11 = 304 + lp y ∧ sumDays y 12 = 334 + lp y ∧ sumDays y 13 = 365 + lp y := by
  have s1 : sumDays y 1 = 0 := rfl
  have s2 : sumDays y 2 = 31 := by
    have h := sumDays_succ (y := y) (m := 1) (by decide)
    rw [md1] at h
    have e : (1 : Int) + 1 = 2 := by decide
    rw [e] at h
    omega
  have s3 : sumDays y 3 = 59 + lp y := by
    have h := sumDays_succ (y := y) (m := 2) (by decide)
    rw [md2] at h
    have e : (2 : Int) + 1 = 3 := by decide
    rw [e] at h
    omega
  have s4 : sumDays y 4 = 90 + lp y := by
    have h := sumDays_succ (y := y) (m := 3) (by decide)
    rw [md3] at h
    have e : (3 : Int) + 1 = 4 := by decide
    rw [e] at h
    omega
  have s5 : sumDays y 5 = 120 + lp y := by
    have h := sumDays_succ (y := y) (m := 4) (by decide)
    rw [md4] at h
    have e : (4 : Int) + 1 = 5 := by decide
    rw [e] at h
    omega
  have s6 : sumDays y 6 = 151 + lp y := by
    have h := sumDays_succ (y := y) (m := 5) (by decide)
    rw [md5] at h
    have e : (5 : Int) + 1 = 6 := by decide
    rw [e] at h
    omega
  have s7 : sumDays y 7 = 181 + lp y := by
    have h := sumDays_succ (y := y) (m := 6) (by decide)
    rw [md6] at h
    have e : (6 : Int) + 1 = 7 := by decide
    rw [e] at h
    omega
  have s8 : sumDays y 8 = 212 + lp y := by
    have h := sumDays_succ (y := y) (m := 7) (by decide)
    rw [md7] at h
    have e : (7 : Int) + 1 = 8 := by decide
    rw [e] at h
    omega
  have s9 : sumDays y 9 = 243 + lp y := by
    have h := sumDays_succ (y := y) (m := 8) (by decide)
    rw [md8] at h
    have e : (8 : Int) + 1 = 9 := by decide
    rw [e] at h
    omega
  have s10 : sumDays y 10 = 273 + lp y := by
    have h := sumDays_succ (y := y) (m := 9) (by decide)
    rw [md9] at h
    have e : (9 : Int) + 1 = 10 := by decide
    rw [e] at h
    omega
  have s11 : sumDays y 11 = 304 + lp y := by
    have h := sumDays_succ (y := y) (m := 10) (by decide)
    rw [md10] at h
    have e : (10 : Int) + 1 = 11 := by decide
    rw [e] at h
    omega
  have s12 : sumDays y 12 = 334 + lp y := by
    have h := sumDays_succ (y := y) (m := 11) (by decide)
    rw [md11] at h
    have e : (11 : Int) + 1 = 12 := by decide
    rw [e] at h
    omega
  have s13 : sumDays y 13 = 365 + lp y := by
    have h := sumDays_succ (y := y) (m := 12) (by decide)
    rw [md12] at h
    have e : (12 : Int) + 1 = 13 := by decide
    rw [e] at h
    omega
  exact ⟨s1, s2, s3, s4, s5, s6, s7, s8, s9, s10, s11, s12, s13⟩
theorem sumDays_bd {y m : Int} (h1 : 1 ≤ m) (h2 : m ≤ 12) : 0 ≤ sumDays y m ∧ sumDays y m + monthDays y m ≤ 365 + lp y := by
  have b := lp_bd y
  obtain ⟨s1, s2, s3, s4, s5, s6, s7, s8, s9, s10, s11, s12, s13⟩ := sums y
  rcases cases12 h1 h2 with h | h | h | h | h | h | h | h | h | h | h | h <;> subst h <;> simp only [md1, md2, md3, md4, md5, md6, md7, md8, md9, md10, md11, md12, s1, s2, s3, s4, s5, s6, s7, s8, s9, s10, s11, s12] <;> omega
theorem sumDays_mono {y : Int} : ∀ {k : Nat} {i : Int}, 1 ≤ i → i + k ≤ 12 → sumDays y i ≤ sumDays y (i + k)
  | 0, i, _, _ => by
    have e : i + ((0 : Nat) : Int) = i := by omega
    rw [e]
    exact Int.le_refl _
  | k + 1, i, h1, h2 => by
    have a := sumDays_mono (y := y) (k := k) (i := i) h1 (by omega)
    have e : i + ((k + 1 : Nat) : Int) = (i + (k : Int)) + 1 := by omega
    rw [e, sumDays_succ (by omega)]
    have b := (monthDays_bd (y := y) (m := i + (k : Int)) (by omega) (by omega)).1
    omega
theorem sumDays_lt {y i m : Int} (h1 : 1 ≤ i) (h2 : i < m) (h3 : m ≤ 12) : sumDays y i + monthDays y i ≤ sumDays y m := by
  rw [← sumDays_succ h1]
  obtain ⟨k, hk⟩ : ∃ k : Nat, m = (i + 1) + k := ⟨(m - i - 1).toNat, by omega⟩
  subst hk
  exact sumDays_mono (by omega) (by omega)
theorem dayInYear_eq (y m d : Int) : dayInYear y m d = sumDays y m + d - 1 := rfl
theorem lp_mod (y : Int) : isLeap y = isLeap ((y - 1) % 400 + 1) := by
  unfold isLeap
  have h1 : ((y - 1) % 400 + 1) % 4 = y % 4 := by omega
  have h2 : ((y - 1) % 400 + 1) % 100 = y % 100 := by omega
  have h3 : ((y - 1) % 400 + 1) % 400 = y % 400 := by omega
  rw [h1, h2, h3]
theorem yb_succ (y : Int) : yearBegin (y + 1) = yearBegin y + 365 + lp y := by
  unfold yearBegin lp isLeap
  by_cases h4 : y % 4 = 0
  · by_cases h100 : y % 100 = 0
    · by_cases h400 : y % 400 = 0
      · rw [decide_eq_true h4, decide_eq_true h100, decide_eq_true h400, if_pos (by decide)]; omega
      · rw [decide_eq_true h4, decide_eq_true h100, decide_eq_false h400, if_neg (by decide)]; omega
    · have h400 : ¬ y % 400 = 0 := by omega
      rw [decide_eq_true h4, decide_eq_false h100, decide_eq_false h400, if_pos (by decide)]; omega
  · have h100 : ¬ y % 100 = 0 := by omega
    have h400 : ¬ y % 400 = 0 := by omega
    rw [decide_eq_false h4, decide_eq_false h100, decide_eq_false h400, if_neg (by decide)]; omega
theorem yb_mono {a b : Int} (h : a ≤ b) : yearBegin a ≤ yearBegin b := by
  unfold yearBegin
  omega
theorem yb_lt {a b : Int} (h : a < b) : yearBegin (a + 1) ≤ yearBegin b := yb_mono (by omega)
theorem yb_one : yearBegin 1 = 0 := rfl
theorem yb_round (y : Int) : yearBegin y = 146097 * ((y - 1) / 400) + yearBegin ((y - 1) % 400 + 1) := by
  unfold yearBegin
  omega
theorem monthDays_mod (y m : Int) : monthDays y m = monthDays ((y - 1) % 400 + 1) m := by
  unfold monthDays
  rw [← lp_mod y]
theorem sumDays_mod (y m : Int) : sumDays y m = sumDays ((y - 1) % 400 + 1) m := by
  unfold sumDays
  congr 1
  apply List.map_congr_left
  intro i _
  exact monthDays_mod y _
structure Valid (y m d : Int) : Prop where
  y1 : 1 ≤ y
  m1 : 1 ≤ m
  m2 : m ≤ 12
  d1 : 1 ≤ d
  d2 : d ≤ monthDays y m
theorem diy_bd {y m d : Int} (v : Valid y m d) : 0 ≤ dayInYear y m d ∧ dayInYear y m d < 365 + lp y := by
  have a := sumDays_bd (y := y) v.m1 v.m2
  have b := v.d1
  have c := v.d2
  rw [dayInYear_eq]
  omega
theorem number_between {y m d : Int} (v : Valid y m d) : yearBegin y ≤ numberAt y m d ∧ numberAt y m d < yearBegin (y + 1) := by
  have a := diy_bd v
  rw [yb_succ]
  unfold numberAt
  omega
theorem number_round {y m d : Int} (v : Valid y m d) : numberAt y m d / 146097 = (y - 1) / 400 ∧ numberAt y m d % 146097 = numberAt ((y - 1) % 400 + 1) m d := by
  have e : numberAt y m d = 146097 * ((y - 1) / 400) + numberAt ((y - 1) % 400 + 1) m d := by
    unfold numberAt
    rw [yb_round y, dayInYear_eq, dayInYear_eq, ← sumDays_mod]
    omega
  have v0 : Valid ((y - 1) % 400 + 1) m d := ⟨by omega, v.m1, v.m2, v.d1, by rw [← monthDays_mod]; exact v.d2⟩
  have b := number_between v0
  have lo : 0 ≤ yearBegin ((y - 1) % 400 + 1) := by
    have := yb_mono (a := 1) (b := (y - 1) % 400 + 1) (by omega)
    rw [yb_one] at this
    exact this
  have hi : yearBegin ((y - 1) % 400 + 1 + 1) ≤ 146097 := by
    have := yb_mono (a := (y - 1) % 400 + 1 + 1) (b := 401) (by omega)
    have e401 : yearBegin 401 = 146097 := by decide
    omega
  omega
theorem round_valid {y m d : Int} (v : Valid y m d) : Valid ((y - 1) % 400 + 1) m d := ⟨by omega, v.m1, v.m2, v.d1, by rw [← monthDays_mod]; exact v.d2⟩
/-! from C -/
def isDate : PyData → Bool
  | .tuple [.int y, .int m, c] => isWhole (.int y) 1 last && isWhole (.int m) 1 12 && isWhole c 1 (monthDays y m)
  | _ => false
theorem isDate_len {xs : List PyData} (h : xs.length ≠ 3) : isDate (.tuple xs) = false := by
  unfold isDate
  split
  · rename_i e
    injection e with e
    rw [e] at h
    exact absurd rfl h
  · rfl
theorem isWhole_int {d : PyData} {lo hi : Int} (h : isWhole d lo hi = true) : ∃ i, d = .int i ∧ lo ≤ i ∧ i ≤ hi := by
  cases d with
  | int i =>
    have h' : (decide (lo ≤ i) && decide (i ≤ hi)) = true := h
    simp only [Bool.and_eq_true, decide_eq_true_eq] at h'
    exact ⟨i, rfl, h'⟩
  | _ => cases h
theorem isDate_no {a b c : PyData} (h : (isWhole a 1 last && isWhole b 1 12) = false) : isDate (.tuple [a, b, c]) = false := by
  cases a with
  | int y =>
    cases b with
    | int m =>
      show (isWhole (.int y) 1 last && isWhole (.int m) 1 12 && isWhole c 1 (monthDays y m)) = false
      rw [h, Bool.false_and]
    | _ => rfl
  | _ => rfl
/-! from D -/
/-! from E -/
def letters : Str := "abcdefghijklmnopqrstuvwxyz"
def isName : PyData → Bool
  | .str x => decide ((1 : Int) ≤ (x.length : Nat)) && decide (((x.length : Nat) : Int) ≤ 8) && !decide (x = "any") && x.cps.toList.all fun c => decide (c ∈ letters.cps.toList)
  | _ => false
theorem isName_str {d : PyData} (h : isName d = true) : ∃ x, d = .str x := by
  cases d with
  | str x => exact ⟨x, rfl⟩
  | _ => cases h
def planStep (h : Int) (m : Str) : PyData → Option (Int × Str)
  | .tuple [.int i, .str s] => if (decide (h + 1 ≤ i) && decide (i ≤ 23)) && (isName (.str s) && !decide (s = m)) then some (i, s) else none
  | _ => none
def planGo : Int → Str → List PyData → Bool
  | _, _, [] => true
  | h, m, p :: r => match planStep h m p with
    | some (i, s) => planGo i s r
    | none => false
def firstHour : List PyData → Bool
  | .tuple (.int i :: _) :: _ => decide (i = 0)
  | _ => false
def isPlan (most : Int) : PyData → Bool
  | .tuple ds => decide (1 ≤ (ds.length : Int)) && decide ((ds.length : Int) ≤ most) && planGo (-1) "" ds && firstHour ds
  | _ => false
theorem planStep_some {h : Int} {m : Str} {p : PyData} {q : Int × Str} (e : planStep h m p = some q) : ∃ i s, p = .tuple [.int i, .str s] ∧ q = (i, s) ∧ h + 1 ≤ i ∧ i ≤ 23 ∧ isName (.str s) = true ∧ s ≠ m := by
  unfold planStep at e
  split at e
  · rename_i i s
    split at e
    · rename_i c
      cases e
      simp only [Bool.and_eq_true, decide_eq_true_eq, Bool.not_eq_true', decide_eq_false_iff_not] at c
      exact ⟨i, s, rfl, rfl, c.1.1, c.1.2, c.2.1, c.2.2⟩
    · cases e
  · cases e
def daysOf (y : Int) : Int := if isLeap y = true then 366 else 365
theorem all_map {α : Type} (p : α → Bool) : ∀ l : List α, (l.map p).all id = l.all p
  | [] => rfl
  | x :: l => by rw [List.map_cons, List.all_cons, List.all_cons, all_map p l]; rfl
/-! from F -/
def itemD (i : Nat) : PyData → PyData
  | .tuple ds => ds.getD i .none
  | _ => .none
def strIs (m : Str) : PyData → Bool
  | .str s => decide (s = m)
  | _ => false
theorem planStep_no {h : Int} {m : Str} {p : PyData} (e : isTupN 2 p = false ∨ isWhole (itemD 0 p) (h + 1) 23 = false ∨ isName (itemD 1 p) = false) : planStep h m p = none := by
  cases q : planStep h m p with
  | none => rfl
  | some z =>
    obtain ⟨i, s, rfl, _, h1, h2, h3, _⟩ := planStep_some q
    rcases e with e | e | e
    · cases e
    · have e' : (decide (h + 1 ≤ i) && decide (i ≤ 23)) = false := e
      rw [decide_eq_true h1, decide_eq_true h2] at e'
      cases e'
    · have e' : isName (.str s) = false := e
      rw [h3] at e'
      cases e'
/-! from G -/
def ne0 : PyData → Bool
  | .int i => !decide (i = 0)
  | _ => false
def dateOf : List PyData → Bool
  | [.int m, b] => (decide (1 ≤ m) && decide (m ≤ 12)) && isWhole b 1 (monthDays 2000 m)
  | _ => false
def nthOf : List PyData → Bool
  | [a, b, c] => isWhole a 1 12 && isWhole b 0 6 && (isWhole c (-1) 5 && ne0 c)
  | _ => false
def shiftOf (p : PyData → Bool) : List PyData → Bool
  | [a, b] => p a && (isWhole b (-40) 40 && ne0 b)
  | _ => false
def movedOf (p : PyData → Bool) : List PyData → Bool
  | [a, b, c] => p a && isWhole b 0 6 && (isWhole c (-6) 6 && ne0 c)
  | _ => false
def whenBy (p : PyData → Bool) (w : Str) (rest : List PyData) : Bool :=
  if w = "date" then dateOf rest else if w = "nth" then nthOf rest else if w = "shift" then shiftOf p rest else if w = "moved" then movedOf p rest else false
def whenOf : Nat → PyData → Bool
  | n + 1, .tuple (.str w :: rest) => whenBy (whenOf n) w rest
  | _, _ => false
theorem dateOf_len {x : PyData} {rest : List PyData} (h : dateOf rest = true) : ((x :: rest).length : Int) = 3 := by
  unfold dateOf at h
  split at h
  · rfl
  · cases h
theorem nthOf_len {x : PyData} {rest : List PyData} (h : nthOf rest = true) : ((x :: rest).length : Int) = 4 := by
  unfold nthOf at h
  split at h
  · rfl
  · cases h
theorem shiftOf_len {p : PyData → Bool} {x : PyData} {rest : List PyData} (h : shiftOf p rest = true) : ((x :: rest).length : Int) = 3 := by
  unfold shiftOf at h
  split at h
  · rfl
  · cases h
theorem movedOf_len {p : PyData → Bool} {x : PyData} {rest : List PyData} (h : movedOf p rest = true) : ((x :: rest).length : Int) = 4 := by
  unfold movedOf at h
  split at h
  · rfl
  · cases h
/-! from GB -/
def le3 (y m n a b c : Int) : Bool := decide (y < a ∨ (y = a ∧ (m < b ∨ (m = b ∧ n ≤ c))))
theorem lex_le3 (y m n a b c : Int) : Ob.lexAt (fun j => decide ([y, m, n].getD j 0 = [a, b, c].getD j 0)) (fun j => decide ([y, m, n].getD j 0 ≤ [a, b, c].getD j 0)) (decide ([y, m, n].length ≤ [a, b, c].length)) 0 (min [y, m, n].length [a, b, c].length) = le3 y m n a b c := by
  show (if decide (y = a) = true then (if decide (m = b) = true then (if decide (n = c) = true then true else decide (n ≤ c)) else decide (m ≤ b)) else decide (y ≤ a)) = _
  unfold le3
  by_cases h1 : y = a
  · by_cases h2 : m = b
    · by_cases h3 : n = c
      · rw [if_pos (decide_eq_true h1), if_pos (decide_eq_true h2), if_pos (decide_eq_true h3)]
        exact (decide_eq_true (by omega)).symm
      · rw [if_pos (decide_eq_true h1), if_pos (decide_eq_true h2), if_neg (by rw [decide_eq_false h3]; decide)]
        exact decide_eq_decide.mpr (by omega)
    · rw [if_pos (decide_eq_true h1), if_neg (by rw [decide_eq_false h2]; decide)]
      exact decide_eq_decide.mpr (by omega)
  · rw [if_neg (by rw [decide_eq_false h1]; decide)]
    exact decide_eq_decide.mpr (by omega)
def dateStep (longest : Int) (a b c : Int) : PyData → Option (Int × Int × Int)
  | .tuple [.tuple [.int y, .int m, .int n], p] => if isDate (.tuple [.int y, .int m, .int n]) && isPlan longest p && !le3 y m n a b c then some (y, m, n) else none
  | _ => none
def datesGo (longest : Int) : Int → Int → Int → List PyData → Bool
  | _, _, _, [] => true
  | a, b, c, p :: r => match dateStep longest a b c p with
    | some (y, m, n) => datesGo longest y m n r
    | none => false
def isDates (most longest : Int) : PyData → Bool
  | .tuple ds => decide (((ds.length : Nat) : Int) ≤ most) && datesGo longest 0 0 0 ds
  | _ => false
def isRule : PyData → Bool
  | .tuple [a, b] => whenOf 4 a && isPlan 6 b
  | _ => false
def isWeek : PyData → Bool
  | .tuple ds => decide (((ds.length : Nat) : Int) = 7) && ds.all (isPlan 6)
  | _ => false
def isRules : PyData → Bool
  | .tuple ds => decide (((ds.length : Nat) : Int) ≤ 8) && ds.all isRule
  | _ => false
def isCalendar : PyData → Bool
  | .tuple [w, week, rules, dates] => strIs "calendar" w && (isWeek week && (isRules rules && isDates 8 6 dates))
  | _ => false
theorem isDate_ints {d : PyData} (h : isDate d = true) : ∃ y m n, d = .tuple [.int y, .int m, .int n] := by
  unfold isDate at h
  split at h
  · rename_i y m c
    obtain ⟨n, rfl, _⟩ := isWhole_int (Bool.and_eq_true_iff.mp h).2
    exact ⟨y, m, n, rfl⟩
  · cases h
theorem dateStep_some {l a b c : Int} {p : PyData} {q : Int × Int × Int} (e : dateStep l a b c p = some q) : ∃ y m n pl, p = .tuple [.tuple [.int y, .int m, .int n], pl] ∧ q = (y, m, n) ∧ isDate (.tuple [.int y, .int m, .int n]) = true ∧ isPlan l pl = true ∧ le3 y m n a b c = false := by
  unfold dateStep at e
  split at e
  · rename_i y m n pl
    split at e
    · rename_i z
      cases e
      simp only [Bool.and_eq_true, Bool.not_eq_true'] at z
      exact ⟨y, m, n, pl, rfl, rfl, z.1.1, z.1.2, z.2⟩
    · cases e
  · cases e
theorem not_or {a : Bool} : (!a) = false → a = true := by cases a <;> intro h <;> first | rfl | cases h
/-! from GC -/
def firstOf (y m : Int) : Int := yearBegin y + dayInYear y m 1
def nthDays (y m wd : Int) : List Int := ((List.range (monthDays y m).toNat).filter fun (i : Nat) => decide ((firstOf y m + (i : Int)) % 7 = wd)).map fun (i : Nat) => firstOf y m + (i : Int)
def optD : Option Int → PyData
  | some i => .int i
  | none => .none
def nthDay (y m wd n : Int) : Option Int := if n = -1 then (nthDays y m wd)[(nthDays y m wd).length - 1]? else (nthDays y m wd)[(n - 1).toNat]?
theorem nthDays_pos {y m wd : Int} (m1 : 1 ≤ m) (m2 : m ≤ 12) (w0 : 0 ≤ wd) (w6 : wd ≤ 6) : 0 < (nthDays y m wd).length := by
  have h28 := (monthDays_bd (y := y) m1 m2).1
  have : firstOf y m + ((((wd - firstOf y m) % 7).toNat : Nat) : Int) ∈ nthDays y m wd := by
    refine List.mem_map.mpr ⟨((wd - firstOf y m) % 7).toNat, List.mem_filter.mpr ⟨List.mem_range.mpr (by omega), decide_eq_true (by omega)⟩, rfl⟩
  exact List.length_pos_of_mem this
/-! from GD -/
def dateDay (y : Int) : List PyData → Option Int
  | [.int m, .int d] => if (m = 2 ∧ d = 29) ∧ isLeap y = false then none else some (yearBegin y + dayInYear y m d)
  | _ => none
def nthDayL (y : Int) : List PyData → Option Int
  | [.int m, .int wd, .int n] => nthDay y m wd n
  | _ => none
def shiftDay (p : PyData → Option Int) : List PyData → Option Int
  | [a, .int k] => (p a).map fun d => d + k
  | _ => none
def movedDay (p : PyData → Option Int) : List PyData → Option Int
  | [a, .int wd, .int k] => (p a).map fun d => if d % 7 = wd then d + k else d
  | _ => none
def dayBy (y : Int) (p : PyData → Option Int) (w : Str) (rest : List PyData) : Option Int :=
  if w = "date" then dateDay y rest else if w = "nth" then nthDayL y rest else if w = "shift" then shiftDay p rest else movedDay p rest
def dayOf (y : Int) : Nat → PyData → Option Int
  | n + 1, .tuple (.str w :: rest) => dayBy y (dayOf y n) w rest
  | _, _ => none
theorem isWhole_is {d : PyData} {lo hi : Int} (h : isWhole d lo hi = true) : ∃ i, d = .int i ∧ lo ≤ i ∧ i ≤ hi := by
  obtain ⟨i, rfl, a, b⟩ := isWhole_int h
  exact ⟨i, rfl, a, b⟩
theorem dateOf_is {rest : List PyData} (h : dateOf rest = true) : ∃ mm dd, rest = [.int mm, .int dd] ∧ 1 ≤ mm ∧ mm ≤ 12 ∧ 1 ≤ dd ∧ dd ≤ monthDays 2000 mm := by
  unfold dateOf at h
  split at h
  · rename_i mm b
    simp only [Bool.and_eq_true, decide_eq_true_eq] at h
    obtain ⟨dd, rfl, d1, d2⟩ := isWhole_is h.2
    exact ⟨mm, dd, rfl, h.1.1, h.1.2, d1, d2⟩
  · cases h
theorem ne0_is {i : Int} (h : ne0 (.int i) = true) : i ≠ 0 := by
  simpa [ne0] using h
theorem nthOf_is {rest : List PyData} (h : nthOf rest = true) : ∃ mm wd nn, rest = [.int mm, .int wd, .int nn] ∧ 1 ≤ mm ∧ mm ≤ 12 ∧ 0 ≤ wd ∧ wd ≤ 6 ∧ (nn = -1 ∨ 1 ≤ nn ∧ nn ≤ 5) := by
  unfold nthOf at h
  split at h
  · simp only [Bool.and_eq_true] at h
    obtain ⟨mm, rfl, m1, m2⟩ := isWhole_is h.1.1
    obtain ⟨wd, rfl, w0, w6⟩ := isWhole_is h.1.2
    obtain ⟨nn, rfl, n0, n5⟩ := isWhole_is h.2.1
    have nz := ne0_is h.2.2
    exact ⟨mm, wd, nn, rfl, m1, m2, w0, w6, by omega⟩
  · cases h
theorem shiftOf_is {p : PyData → Bool} {rest : List PyData} (h : shiftOf p rest = true) : ∃ a k, rest = [a, .int k] ∧ p a = true ∧ -40 ≤ k ∧ k ≤ 40 ∧ k ≠ 0 := by
  unfold shiftOf at h
  split at h
  · simp only [Bool.and_eq_true] at h
    obtain ⟨k, rfl, a, b⟩ := isWhole_is h.2.1
    exact ⟨_, k, rfl, h.1, a, b, ne0_is h.2.2⟩
  · cases h
theorem movedOf_is {p : PyData → Bool} {rest : List PyData} (h : movedOf p rest = true) : ∃ a wd k, rest = [a, .int wd, .int k] ∧ p a = true ∧ 0 ≤ wd ∧ wd ≤ 6 ∧ -6 ≤ k ∧ k ≤ 6 ∧ k ≠ 0 := by
  unfold movedOf at h
  split at h
  · simp only [Bool.and_eq_true] at h
    obtain ⟨wd, rfl, w0, w6⟩ := isWhole_is h.1.2
    obtain ⟨k, rfl, a, b⟩ := isWhole_is h.2.1
    exact ⟨_, wd, k, rfl, h.1.1, w0, w6, a, b, ne0_is h.2.2⟩
  · cases h
theorem eqv_two (m d a b : Int) : PyData.eqv (.tuple [.int m, .int d]) (.tuple [.int a, .int b]) = decide (m = a ∧ d = b) := by
  rw [Bool.eq_iff_iff]
  simp [PyData.eqv, PyData.eqvAll]
/-! from GE -/
theorem diy_last (y : Int) : dayInYear y 12 31 = 364 + lp y := by
  have h := (sums y).2.2.2.2.2.2.2.2.2.2.2.1
  rw [dayInYear_eq, h]
  omega
theorem month12 (y : Int) : monthDays y 12 = 31 := by
  have h1 := sumDays_succ (y := y) (m := 12) (by decide)
  have h2 := (sums y).2.2.2.2.2.2.2.2.2.2.2.1
  have h3 := (sums y).2.2.2.2.2.2.2.2.2.2.2.2
  have e : (12 : Int) + 1 = 13 := by decide
  rw [e] at h1
  omega
theorem date_of_number (n : Nat) : ∃ y m d, numberAt y m d = (n : Int) ∧ Valid y m d := by
  induction n with
  | zero => exact ⟨1, 1, 1, by decide, ⟨by decide, by decide, by decide, by decide, by decide⟩⟩
  | succ n ih =>
    obtain ⟨y, m, d, e, v⟩ := ih
    obtain ⟨y1, m1, m2, d1, d2⟩ := v
    by_cases hd : d < monthDays y m
    · refine ⟨y, m, d + 1, ?_, ⟨y1, m1, m2, by omega, by omega⟩⟩
      unfold numberAt at e ⊢
      rw [dayInYear_eq] at e ⊢
      omega
    · have hd : d = monthDays y m := by omega
      subst hd
      by_cases hm : m < 12
      · have b := (monthDays_bd (y := y) (m := m + 1) (by omega) (by omega)).1
        refine ⟨y, m + 1, 1, ?_, ⟨y1, by omega, by omega, by decide, by omega⟩⟩
        unfold numberAt at e ⊢
        rw [dayInYear_eq] at e ⊢
        rw [sumDays_succ m1]
        omega
      · obtain rfl : m = 12 := by omega
        have b := (monthDays_bd (y := y + 1) (m := 1) (by decide) (by decide)).1
        refine ⟨y + 1, 1, 1, ?_, ⟨by omega, by decide, by decide, by decide, by omega⟩⟩
        unfold numberAt at e ⊢
        rw [month12, diy_last] at e
        rw [yb_succ, dayInYear_eq, (sums _).1]
        omega
theorem date_of_int {i : Int} (h : 0 ≤ i) : ∃ y m d, numberAt y m d = i ∧ Valid y m d := by
  obtain ⟨y, m, d, e, v⟩ := date_of_number i.toNat
  exact ⟨y, m, d, by omega, v⟩
def inDays (i : Int) : Bool := decide (0 ≤ i) && decide (i < yearBegin (last + 1))
/-! from GF -/
def hourOf : PyData → Int
  | .tuple [.int i, _] => i
  | _ => 0
def modeS : PyData → Str
  | .tuple [_, .str s] => s
  | _ => ""
def modesAt (h : Int) (ps : List PyData) : List PyData := (ps.filter fun p => decide (hourOf p ≤ h)).map fun p => .str (modeS p)
def modeAt (h : Int) (ps : List PyData) : PyData := (modesAt h ps).getD ((modesAt h ps).length - 1) .none
theorem planGo_pairs : ∀ {ps : List PyData} {h : Int} {m : Str}, planGo h m ps = true → ∀ p ∈ ps, ∃ i s, p = .tuple [.int i, .str s]
  | [], _, _, _, _, z => nomatch z
  | a :: r, h, m, e, p, z => by
    rw [planGo] at e
    split at e
    · rename_i i s q
      obtain ⟨i', s', rfl, _⟩ := planStep_some q
      rcases List.mem_cons.mp z with rfl | z
      · exact ⟨_, _, rfl⟩
      · exact planGo_pairs e p z
    · cases e
theorem isPlan_is {n : Int} {d : PyData} (h : isPlan n d = true) : ∃ ps, d = .tuple ps ∧ 1 ≤ (ps.length : Int) ∧ (ps.length : Int) ≤ n ∧ (∀ p ∈ ps, ∃ i s, p = .tuple [.int i, .str s]) ∧ ∃ s r, ps = .tuple [.int 0, .str s] :: r := by
  unfold isPlan at h
  split at h
  · rename_i ps
    simp only [Bool.and_eq_true, decide_eq_true_eq] at h
    obtain ⟨⟨⟨h1, h2⟩, h3⟩, h4⟩ := h
    have hp := planGo_pairs h3
    refine ⟨ps, rfl, h1, h2, hp, ?_⟩
    cases ps with
    | nil => cases h4
    | cons a r =>
      obtain ⟨i, s, rfl⟩ := hp a (List.mem_cons_self ..)
      have : i = 0 := of_decide_eq_true h4
      subst this
      exact ⟨s, r, rfl⟩
  · cases h
theorem modesAt_pos {h : Int} {ps : List PyData} (h0 : 0 ≤ h) (hf : ∃ s r, ps = .tuple [.int 0, .str s] :: r) : 0 < (modesAt h ps).length := by
  obtain ⟨s, r, rfl⟩ := hf
  have : PyData.str s ∈ modesAt h (.tuple [.int 0, .str s] :: r) := List.mem_map.mpr ⟨_, List.mem_filter.mpr ⟨List.mem_cons_self .., decide_eq_true h0⟩, rfl⟩
  exact List.length_pos_of_mem this
/-! from GG -/
def tableSet (b : Int) (found : List PyData) (o : Option Int) (plan : PyData) : List PyData := match o with
  | some d => if 0 ≤ d - b ∧ d - b < (found.length : Int) then found.set (d - b).toNat plan else found
  | none => found
def tableRule (y : Int) (found : List PyData) : PyData → List PyData
  | .tuple [w, p] => [y - 1, y, y + 1].foldl (fun a one => tableSet (yearBegin y) a (dayOf one 4 w) p) found
  | _ => found
def tableFirst (y : Int) (ws : List PyData) : List PyData := (List.range (daysOf y).toNat).map fun (i : Nat) => ws.getD ((yearBegin y + (i : Int)) % 7).toNat .none
def yearTable (y : Int) (ws rs : List PyData) : List PyData := rs.reverse.foldl (tableRule y) (tableFirst y ws)
theorem rule_is {d : PyData} (h : isRule d = true) : ∃ w p, d = .tuple [w, p] ∧ whenOf 4 w = true ∧ isPlan 6 p = true := by
  unfold isRule at h
  split at h
  · exact ⟨_, _, rfl, (Bool.and_eq_true_iff.mp h).1, (Bool.and_eq_true_iff.mp h).2⟩
  · cases h
/-! from H -/
theorem lawNumber_eq {y m d : Int} (m1 : 1 ≤ m) (m2 : m ≤ 12) : ∀ s p : Int, s = (if m < 3 then y - 1 else y) → p = (if 2 < m then m - 3 else m + 9) →
    s / 400 * 146097 + (s - s / 400 * 400) * 365 + (s - s / 400 * 400) / 4 - (s - s / 400 * 400) / 100 + ((153 * p + 2) / 5 + d - 1) - 306 = numberAt y m d := by
  intro s p hs hp
  unfold numberAt
  rw [dayInYear_eq]
  have S := sums y
  have L : lp y = (y / 4 - (y - 1) / 4) - (y / 100 - (y - 1) / 100) + (y / 400 - (y - 1) / 400) := by
    have := yb_succ y
    unfold yearBegin at this
    omega
  obtain ⟨a1, a2, a3, a4, a5, a6, a7, a8, a9, a10, a11, a12, _⟩ := S
  unfold yearBegin
  have hq : (s - s / 400 * 400) / 4 = s / 4 - 100 * (s / 400) := by omega
  have hq2 : (s - s / 400 * 400) / 100 = s / 100 - 4 * (s / 400) := by omega
  rw [hq, hq2]
  rcases cases12 m1 m2 with rfl | rfl | rfl | rfl | rfl | rfl | rfl | rfl | rfl | rfl | rfl | rfl
  · rw [if_pos (by decide)] at hs; rw [if_neg (by decide)] at hp; subst hs hp; rw [a1]; omega
  · rw [if_pos (by decide)] at hs; rw [if_neg (by decide)] at hp; subst hs hp; rw [a2]; omega
  · rw [if_neg (by decide)] at hs; rw [if_pos (by decide)] at hp; subst hs hp; rw [a3]; omega
  · rw [if_neg (by decide)] at hs; rw [if_pos (by decide)] at hp; subst hs hp; rw [a4]; omega
  · rw [if_neg (by decide)] at hs; rw [if_pos (by decide)] at hp; subst hs hp; rw [a5]; omega
  · rw [if_neg (by decide)] at hs; rw [if_pos (by decide)] at hp; subst hs hp; rw [a6]; omega
  · rw [if_neg (by decide)] at hs; rw [if_pos (by decide)] at hp; subst hs hp; rw [a7]; omega
  · rw [if_neg (by decide)] at hs; rw [if_pos (by decide)] at hp; subst hs hp; rw [a8]; omega
  · rw [if_neg (by decide)] at hs; rw [if_pos (by decide)] at hp; subst hs hp; rw [a9]; omega
  · rw [if_neg (by decide)] at hs; rw [if_pos (by decide)] at hp; subst hs hp; rw [a10]; omega
  · rw [if_neg (by decide)] at hs; rw [if_pos (by decide)] at hp; subst hs hp; rw [a11]; omega
  · rw [if_neg (by decide)] at hs; rw [if_pos (by decide)] at hp; subst hs hp; rw [a12]; omega
/-! from HB -/
/-! from HC -/
theorem rest_div (c q w past : Int) (c0 : 0 ≤ c) (c3 : c ≤ 3) (q0 : 0 ≤ q) (q24 : q ≤ 24) (w0 : 0 ≤ w) (w3 : w ≤ 3) (p0 : 0 ≤ past) (h : past ≤ 364 ∨ past = 365 ∧ w = 3 ∧ (q < 24 ∨ c = 3)) (r : Int) (hr : r = 36524 * c + 1461 * q + 365 * w + past) :
    (r - r / 1460 + r / 36524 - r / 146096) / 365 = 100 * c + 4 * q + w := by
  have e1 : r / 36524 = c ∨ (r / 36524 = 4 ∧ c = 3 ∧ q = 24 ∧ w = 3 ∧ past = 365) := by omega
  have e2 : r / 146096 = 0 ∨ (r / 146096 = 1 ∧ c = 3 ∧ q = 24 ∧ w = 3 ∧ past = 365) := by omega
  rcases e1 with e1 | ⟨e1, rfl, rfl, rfl, rfl⟩
  · have e2 : r / 146096 = 0 := by omega
    rw [e1, e2]
    omega
  · subst hr
    decide
theorem past_of {y m d : Int} (v : Valid y m d) (p : Int) (hp : p = (if 2 < m then m - 3 else m + 9)) (pa : Int) (ha : pa = (153 * p + 2) / 5 + d - 1) :
    0 ≤ pa ∧ (pa ≤ 364 ∨ pa = 365 ∧ m = 2 ∧ isLeap y = true) ∧ (5 * pa + 2) / 153 = p ∧ pa - (153 * p + 2) / 5 + 1 = d ∧ (if p < 10 then p + 3 else p - 9) = m := by
  obtain ⟨y1, m1, m2, d1, d2⟩ := v
  have fin : ∀ k : Int, (if 2 < m then m - 3 else m + 9) = k → (if k < 10 then k + 3 else k - 9) = m := by
    intro k hk
    split at hk <;> split <;> omega
  rcases cases12 m1 m2 with rfl | rfl | rfl | rfl | rfl | rfl | rfl | rfl | rfl | rfl | rfl | rfl
  · have e : monthDays y 1 = 31 := rfl
    rw [e] at d2; rw [if_neg (by decide)] at hp; subst hp ha
    exact ⟨by omega, .inl (by omega), by omega, by omega, fin _ (by decide)⟩
  · rw [if_neg (by decide)] at hp; subst hp ha
    cases hl : isLeap y with
    | true =>
      have e : monthDays y 2 = 29 := by unfold monthDays; rw [hl]; rfl
      rw [e] at d2
      refine ⟨by omega, ?_, by omega, by omega, fin _ (by decide)⟩
      rcases Int.lt_or_le d 29 with z | z
      · exact .inl (by omega)
      · exact .inr ⟨by omega, rfl, rfl⟩
    | false =>
      have e : monthDays y 2 = 28 := by unfold monthDays; rw [hl]; decide
      rw [e] at d2
      exact ⟨by omega, .inl (by omega), by omega, by omega, fin _ (by decide)⟩
  · have e : monthDays y 3 = 31 := rfl
    rw [e] at d2; rw [if_pos (by decide)] at hp; subst hp ha
    exact ⟨by omega, .inl (by omega), by omega, by omega, fin _ (by decide)⟩
  · have e : monthDays y 4 = 30 := rfl
    rw [e] at d2; rw [if_pos (by decide)] at hp; subst hp ha
    exact ⟨by omega, .inl (by omega), by omega, by omega, fin _ (by decide)⟩
  · have e : monthDays y 5 = 31 := rfl
    rw [e] at d2; rw [if_pos (by decide)] at hp; subst hp ha
    exact ⟨by omega, .inl (by omega), by omega, by omega, fin _ (by decide)⟩
  · have e : monthDays y 6 = 30 := rfl
    rw [e] at d2; rw [if_pos (by decide)] at hp; subst hp ha
    exact ⟨by omega, .inl (by omega), by omega, by omega, fin _ (by decide)⟩
  · have e : monthDays y 7 = 31 := rfl
    rw [e] at d2; rw [if_pos (by decide)] at hp; subst hp ha
    exact ⟨by omega, .inl (by omega), by omega, by omega, fin _ (by decide)⟩
  · have e : monthDays y 8 = 31 := rfl
    rw [e] at d2; rw [if_pos (by decide)] at hp; subst hp ha
    exact ⟨by omega, .inl (by omega), by omega, by omega, fin _ (by decide)⟩
  · have e : monthDays y 9 = 30 := rfl
    rw [e] at d2; rw [if_pos (by decide)] at hp; subst hp ha
    exact ⟨by omega, .inl (by omega), by omega, by omega, fin _ (by decide)⟩
  · have e : monthDays y 10 = 31 := rfl
    rw [e] at d2; rw [if_pos (by decide)] at hp; subst hp ha
    exact ⟨by omega, .inl (by omega), by omega, by omega, fin _ (by decide)⟩
  · have e : monthDays y 11 = 30 := rfl
    rw [e] at d2; rw [if_pos (by decide)] at hp; subst hp ha
    exact ⟨by omega, .inl (by omega), by omega, by omega, fin _ (by decide)⟩
  · have e : monthDays y 12 = 31 := rfl
    rw [e] at d2; rw [if_pos (by decide)] at hp; subst hp ha
    exact ⟨by omega, .inl (by omega), by omega, by omega, fin _ (by decide)⟩
theorem leap_mod {y : Int} (h : isLeap y = true) : y % 4 = 0 ∧ (y % 100 ≠ 0 ∨ y % 400 = 0) := by
  unfold isLeap at h
  by_cases a : y % 4 = 0 <;> by_cases b : y % 100 = 0 <;> by_cases c : y % 400 = 0 <;> simp [a, b, c] at h ⊢
  all_goals omega
theorem dated {y m d : Int} (v : Valid y m d) : ∃ E r u pa p : Int, (numberAt y m d + 306) / 146097 = E ∧ numberAt y m d + 306 - E * 146097 = r ∧ (r - r / 1460 + r / 36524 - r / 146096) / 365 = u ∧ r - (365 * u + u / 4 - u / 100) = pa ∧
    (5 * pa + 2) / 153 = p ∧ pa - (153 * p + 2) / 5 + 1 = d ∧ (if p < 10 then p + 3 else p - 9) = m ∧ u + E * 400 + (if m < 3 then 1 else 0) = y := by
  obtain ⟨s, hs⟩ : ∃ s : Int, s = (if m < 3 then y - 1 else y) := ⟨_, rfl⟩
  obtain ⟨p, hp⟩ : ∃ p : Int, p = (if 2 < m then m - 3 else m + 9) := ⟨_, rfl⟩
  obtain ⟨pa, ha⟩ : ∃ x : Int, x = (153 * p + 2) / 5 + d - 1 := ⟨_, rfl⟩
  have N := lawNumber_eq (y := y) (m := m) (d := d) v.m1 v.m2 s p hs hp
  rw [← ha] at N
  obtain ⟨p0, pb, q1, q2, q3⟩ := past_of v p hp pa ha
  have hy : s + (if m < 3 then 1 else 0) = y := by
    split at hs <;> split <;> omega
  obtain ⟨c, q, w, hu, c0, c3, q0, q24, w0, w3⟩ : ∃ c q w : Int, s - s / 400 * 400 = 100 * c + 4 * q + w ∧ 0 ≤ c ∧ c ≤ 3 ∧ 0 ≤ q ∧ q ≤ 24 ∧ 0 ≤ w ∧ w ≤ 3 :=
    ⟨(s % 400) / 100, (s % 100) / 4, s % 4, by omega, by omega, by omega, by omega, by omega, by omega, by omega⟩
  have lim : pa ≤ 364 ∨ pa = 365 ∧ w = 3 ∧ (q < 24 ∨ c = 3) := by
    rcases pb with h | ⟨h, rfl, hl⟩
    · exact .inl h
    · obtain ⟨l4, l100⟩ := leap_mod hl
      rw [if_pos (by decide)] at hs
      refine .inr ⟨h, by omega, ?_⟩
      rcases l100 with l | l <;> omega
  rw [hu] at N
  have e4 : (100 * c + 4 * q + w) / 4 = 25 * c + q := by omega
  have e100 : (100 * c + 4 * q + w) / 100 = c := by omega
  have R := rest_div c q w pa c0 c3 q0 q24 w0 w3 p0 lim _ rfl
  rw [e4, e100] at N
  have hE : (numberAt y m d + 306) / 146097 = s / 400 := by omega
  have hr : numberAt y m d + 306 - s / 400 * 146097 = 36524 * c + 1461 * q + 365 * w + pa := by omega
  refine ⟨_, _, _, pa, p, hE, hr, R, ?_, q1, q2, q3, ?_⟩
  · rw [e4, e100]
    omega
  · rw [← hu, ← hy]
    omega
/-! from HD -/
end K81

/-! part Q1 -/
namespace K81
open PySem PySem.Spec PyProof.Rows L2 Evl Lk LamX Mk
section
variable {K : PySem.W.Frag} {n : Nat} {Q : O → List O → Nat → Prop} {X : Addr → List O → Nat → Prop}
theorem k_is_whole {d : PyData} {lo hi : Int} (h : Q (.dat (.bool (isWhole d lo hi))) [.dat d, .dat (.int lo), .dat (.int hi)] n) : d_is_whole K [.dat d, .dat (.int lo), .dat (.int hi)] n Q X := by
  unfold d_is_whole b_is_whole
  cases d <;> wtm_at "in" <;> wtm_at "all"
  all_goals (refine x_fin h ?_; simp_all [isWhole]; try omega)
local macro_rules | `(tactic| wtm_at "k") => `(tactic| with_reducible refine k_is_whole ?_)
theorem k_is_leap {y : Int} (h : Q (.dat (.bool (isLeap y))) [.dat (.int y)] n) : d_is_leap K [.dat (.int y)] n Q X := by
  unfold d_is_leap b_is_leap
  wtm_at "in"
  wtm_at "all"
  all_goals (refine x_fin h ?_; simp_all [isLeap])
local macro_rules | `(tactic| wtm_at "k") => `(tactic| with_reducible refine k_is_leap ?_)
theorem k_month_days {y m : Int} (h1 : 1 ≤ m) (h2 : m ≤ 12) (h : Q (.dat (.int (monthDays y m))) [.dat (.int y), .dat (.int m)] n) : d_month_days K [.dat (.int y), .dat (.int m)] n Q X := by
  unfold d_month_days b_month_days
  wtm_at "in"
  wtm_at "all"
  · refine x_fin h ?_
    simp_all [monthDays]
  all_goals
    refine x_fIxT (lens_at h1 h2) ?_
    wtm_at "all"
    refine x_fin h ?_
    simp_all [monthDays]
local macro_rules | `(tactic| wtm_at "k") => `(tactic| refine k_month_days (by omega) (by omega) ?_)
theorem k_year_begin {y : Int} (h : Q (.dat (.int (yearBegin y))) [.dat (.int y)] n) : d_year_begin K [.dat (.int y)] n Q X := by
  unfold d_year_begin b_year_begin
  wtm_at "in"
  wtm_at "all"
  exact x_fin h rfl
local macro_rules | `(tactic| wtm_at "k") => `(tactic| with_reducible refine k_year_begin ?_)
theorem k_day_in_year {y m d : Int} (h1 : 1 ≤ m) (h2 : m ≤ 12) (h : Q (.dat (.int (dayInYear y m d))) [.dat (.int y), .dat (.int m), .dat (.int d)] n) : d_day_in_year K [.dat (.int y), .dat (.int m), .dat (.int d)] n Q X := by
  unfold d_day_in_year b_day_in_year
  wtm_at "in"
  wtm_at "all"
  refine x_lcA (l := List.range (m - 1).toNat) (fun i : Nat => PyData.int (1 + (i : Int))) (fun i : Nat => PyData.int (monthDays y (1 + (i : Int)))) (by simp; omega) (fun i hi A hA => ?_) ?_
  · have := List.mem_range.mp hi
    wtm_at "all"
    exact hA
  wtm_at "all"
  refine x_fin h ?_
  simp [dayInYear]
local macro_rules | `(tactic| wtm_at "k") => `(tactic| refine k_day_in_year (by omega) (by omega) ?_)
theorem k_number_at {y m d : Int} (h1 : 1 ≤ m) (h2 : m ≤ 12) (h : Q (.dat (.int (numberAt y m d))) [.dat (.tuple [.int y, .int m, .int d])] n) : d_number_at K [.dat (.tuple [.int y, .int m, .int d])] n Q X := by
  unfold d_number_at b_number_at
  wtm_at "in"
  wtm_at "all"
  exact x_fin h rfl
local macro_rules | `(tactic| wtm_at "k") => `(tactic| refine k_number_at (by omega) (by omega) ?_)
theorem k_days_of {y : Int} (h : Q (.dat (.int (daysOf y))) [.dat (.int y)] n) : d_days_of K [.dat (.int y)] n Q X := by
  unfold d_days_of b_days_of
  wtm_at "in"
  wtm_at "all"
  all_goals (refine x_fin h ?_; simp_all [daysOf])
local macro_rules | `(tactic| wtm_at "k") => `(tactic| with_reducible refine k_days_of ?_)
theorem last_eq' : last = 1000000000000000000000000000000 := by decide
theorem k_need_year {d : PyData} (h : isWhole d 1 last = true → Q (.dat .none) [.dat d] n) (h2 : isWhole d 1 last = false → X (He.ga K "BadYear") [.dat d] n) : d_need_year K [.dat d] n Q X := by
  unfold d_need_year b_need_year
  wtm_at "in"
  wtm_at "all"
  · exact h2 (by simp_all [last_eq'])
  · exact h (by simp_all [last_eq'])
theorem k_need_hour {d : PyData} (h : isWhole d 0 23 = true → Q (.dat .none) [.dat d] n) (h2 : isWhole d 0 23 = false → X (He.ga K "BadHour") [.dat d] n) : d_need_hour K [.dat d] n Q X := by
  unfold d_need_hour b_need_hour
  wtm_at "in"
  wtm_at "all"
  · exact h2 (by simp_all)
  · exact h (by simp_all)
theorem three_or (ds : List PyData) : (∃ a b c, ds = [a, b, c]) ∨ ds.length ≠ 3 := by
  match ds with
  | [] => exact .inr (by simp)
  | [_] => exact .inr (by simp)
  | [_, _] => exact .inr (by simp)
  | [a, b, c] => exact .inl ⟨a, b, c, rfl⟩
  | _ :: _ :: _ :: _ :: _ => exact .inr (by simp)
theorem k_is_date {d : PyData} (h : Q (.dat (.bool (isDate d))) [.dat d] n) : d_is_date K [.dat d] n Q X := by
  unfold d_is_date b_is_date
  cases d with
  | tuple ds =>
    rcases three_or ds with ⟨a, b, c, rfl⟩ | hl
    · wtm_at "in"
      wtm_at "all"
      · refine x_fin h ?_
        rw [isDate_no]
        simp_all [last_eq']
      · refine x_fin h ?_
        rw [isDate_no]
        simp_all [last_eq']
      · obtain ⟨y, rfl, y1, y2⟩ := isWhole_int (d := a) (lo := 1) (hi := 1000000000000000000000000000000) (by simp_all)
        obtain ⟨m, rfl, m1, m2⟩ := isWhole_int (d := b) (lo := 1) (hi := 12) (by simp_all)
        wtm_at "all"
        refine x_fin h ?_
        simp_all [isDate, last_eq']
    · wtm_at "in"
      wtm_at "all"
      · rw [isDate_len hl] at h
        exact h
      · wtm_at "hy"
        omega
  | _ =>
    wtm_at "in"
    wtm_at "all"
    exact h
local macro_rules | `(tactic| wtm_at "k") => `(tactic| with_reducible refine k_is_date ?_)
theorem k_need_date {d : PyData} (h : isDate d = true → Q (.dat .none) [.dat d] n) (h2 : isDate d = false → X (He.ga K "BadDate") [.dat d] n) : d_need_date K [.dat d] n Q X := by
  unfold d_need_date b_need_date
  wtm_at "in"
  wtm_at "all"
  · exact h2 (by simp_all)
  · exact h (by simp_all)
/-! ### dates of numbers -/
theorem k_month_and_day {y m d : Int} (v : Valid y m d) (h : Q (.dat (.tuple [.int m, .int d])) [.dat (.int y), .dat (.int (dayInYear y m d))] n) : d_month_and_day K [.dat (.int y), .dat (.int (dayInYear y m d))] n Q X := by
  unfold d_month_and_day b_month_and_day
  wtm_at "in"
  wtm_at "all"
  refine x_whI (fun t s => ∃ i, s = ⟨[some (.dat (.int y)), some (.dat (.int (sumDays y m - sumDays y i + d - 1))), some (.dat (.int i))], n, []⟩ ∧ 1 ≤ i ∧ i ≤ m ∧ t = (m - i).toNat) ?_ (m := (m - 1).toNat) ⟨1, ?_, by decide, v.m1, rfl⟩
  · rintro t s N ⟨i, rfl, i1, im, rfl⟩ hN
    have vm := v.m2
    have d1 := v.d1
    have d2 := v.d2
    have i12 : i ≤ 12 := by omega
    wtm_at "all"
    · rename_i hc
      have hlt : i < m := by
        wtm_at "hy"
        rcases Int.lt_or_le i m with q | q
        · exact q
        · have : i = m := by omega
          subst this
          omega
      refine hN (m - (i + 1)).toNat _ (by omega) ⟨i + 1, ?_, by omega, by omega, rfl⟩
      rw [sumDays_succ i1]
      have e : sumDays y m - sumDays y i + d - 1 - monthDays y i = sumDays y m - (sumDays y i + monthDays y i) + d - 1 := by omega
      rw [e]
    · rename_i hc
      have him : i = m := by
        wtm_at "hy"
        rcases Int.lt_or_le i m with q | q
        · have := sumDays_lt (y := y) i1 q v.m2
          omega
        · omega
      subst him
      have e : sumDays y i - sumDays y i + d - 1 + 1 = d := by omega
      rw [e]
      wtm_at "all"
      exact h
  · rw [dayInYear_eq, (sums y).1]
    have e : sumDays y m - 0 + d - 1 = sumDays y m + d - 1 := by omega
    rw [e]
local macro_rules | `(tactic| wtm_at "k") => `(tactic| refine k_month_and_day (by assumption) ?_)
end
end K81

/-! part Q2 -/
namespace K81
open PySem PySem.Spec PyProof.Rows L2 Evl Lk LamX Mk
section
variable {K : PySem.W.Frag} {n : Nat} {Q : O → List O → Nat → Prop} {X : Addr → List O → Nat → Prop}
local macro_rules | `(tactic| wtm_at "k") => `(tactic| first
  | (with_reducible refine k_is_whole ?_)
  | (with_reducible refine k_is_leap ?_)
  | ((with_reducible refine' k_month_days ?a ?b ?h); (case a => omega); (case b => omega))
  | (with_reducible refine k_year_begin ?_)
  | ((with_reducible refine' k_day_in_year ?a ?b ?h); (case a => omega); (case b => omega))
  | ((with_reducible refine' k_number_at ?a ?b ?h); (case a => omega); (case b => omega))
  | (with_reducible refine k_days_of ?_)
  | (with_reducible refine k_is_date ?_)
  | ((with_reducible refine' k_month_and_day ?a ?h); (case a => assumption)))
theorem k_date_at {y m d : Int} (v : Valid y m d) (h : Q (.dat (.tuple [.int y, .int m, .int d])) [.dat (.int (numberAt y m d))] n) : d_date_at K [.dat (.int (numberAt y m d))] n Q X := by
  obtain ⟨q1, q2⟩ := number_round v
  have v0 := round_valid v
  have nb := number_between v0
  generalize hy0 : (y - 1) % 400 + 1 = y0 at q2 v0 nb
  have y1 := v0.y1
  unfold d_date_at b_date_at
  wtm_at "in"
  wtm_at "go"
  rw [q1, q2]
  generalize hr0 : numberAt y0 m d = r0 at nb
  have r0p : 0 ≤ r0 := by
    have := yb_mono (a := 1) (b := y0) y1
    rw [yb_one] at this
    omega
  have yb0 : yearBegin (1 + r0 / 366) ≤ r0 := by
    unfold yearBegin
    omega
  have le0 : 1 + r0 / 366 ≤ y0 := by
    rcases Int.lt_or_le y0 (1 + r0 / 366) with q | q
    · have := yb_lt q
      omega
    · exact q
  refine x_whI (fun t s => ∃ i, s = ⟨[some (.dat (.int (numberAt y m d))), some (.dat (.int ((y - 1) / 400))), some (.dat (.int r0)), some (.dat (.int i))], n, []⟩ ∧ 1 ≤ i ∧ i ≤ y0 ∧ t = (y0 - i).toNat) ?_ (m := (y0 - (1 + r0 / 366)).toNat) ⟨1 + r0 / 366, rfl, by omega, le0, rfl⟩
  rintro t s N ⟨i, rfl, i1, iy, rfl⟩ hN
  wtm_at "all"
  · rename_i hc
    have hlt : i < y0 := by
      wtm_at "hy"
      rcases Int.lt_or_le i y0 with q | q
      · exact q
      · have : i = y0 := by omega
        subst this
        omega
    exact hN (y0 - (i + 1)).toNat _ (by omega) ⟨i + 1, rfl, by omega, by omega, rfl⟩
  · rename_i hc
    have hiy : i = y0 := by
      wtm_at "hy"
      rcases Int.lt_or_le i y0 with q | q
      · have := yb_lt q
        omega
      · omega
    subst hiy
    have ed : r0 - yearBegin i = dayInYear i m d := by
      rw [← hr0]
      unfold numberAt
      omega
    have ey : 400 * ((y - 1) / 400) + i = y := by omega
    rw [ed, ey]
    wtm_at "all"
    exact h
theorem all_map' {α : Type} (p : α → Bool) : ∀ l : List α, (l.map p).all id = l.all p
  | [] => rfl
  | x :: l => by rw [List.map_cons, List.all_cons, List.all_cons, all_map' p l]; rfl
theorem k_is_name {d : PyData} (hs : ∀ s, d = .str s → PyData.strOk s = true) (hz : ∀ s, d = .str s → s.length ≤ 100000) (h : Q (.dat (.bool (isName d))) [.dat d] n) : d_is_name K [.dat d] n Q X := by
  unfold d_is_name b_is_name
  cases d with
  | str z =>
    have hz := hz z rfl
    have hs := hs z rfl
    wtm_at "in"
    wtm_at "all"
    case _ =>
      have e : isName (.str z) = (decide ((1 : Int) ≤ (z.length : Nat)) && decide (((z.length : Nat) : Int) ≤ 8) && !decide (z = "any") && z.cps.toList.all fun c => decide (c ∈ letters.cps.toList)) := rfl
      rw [e] at h
      generalize z.cps.toList.all (fun c => decide (c ∈ letters.cps.toList)) = L at h
      refine x_fin h ?_
      wtm_at "bz"
    case _ =>
      have e : isName (.str z) = (decide ((1 : Int) ≤ (z.length : Nat)) && decide (((z.length : Nat) : Int) ≤ 8) && !decide (z = "any") && z.cps.toList.all fun c => decide (c ∈ letters.cps.toList)) := rfl
      rw [e] at h
      generalize z.cps.toList.all (fun c => decide (c ∈ letters.cps.toList)) = L at h
      refine x_fin h ?_
      wtm_at "bz"
    case _ =>
      refine x_lcA (l := z.cps.toList) (fun c : Nat => PyData.str ⟨#[c]⟩) (fun c : Nat => PyData.bool (decide (c ∈ letters.cps.toList))) (by rw [Array.length_toList]; exact hz) (fun c hc A hA => ?_) ?_
      · wtm_at "all"
        exact hA
      wtm_at "all"
      rw [all_map']
      have e : isName (.str z) = (decide ((1 : Int) ≤ (z.length : Nat)) && decide (((z.length : Nat) : Int) ≤ 8) && !decide (z = "any") && z.cps.toList.all fun c => decide (c ∈ letters.cps.toList)) := rfl
      rw [e] at h
      generalize z.cps.toList.all (fun c => decide (c ∈ letters.cps.toList)) = L at h
      refine x_fin h ?_
      wtm_at "bz"
    case _ =>
      have e : isName (.str z) = (decide ((1 : Int) ≤ (z.length : Nat)) && decide (((z.length : Nat) : Int) ≤ 8) && !decide (z = "any") && z.cps.toList.all fun c => decide (c ∈ letters.cps.toList)) := rfl
      rw [e] at h
      generalize z.cps.toList.all (fun c => decide (c ∈ letters.cps.toList)) = L at h
      refine x_fin h ?_
      wtm_at "bz"
  | _ =>
    wtm_at "in"
    wtm_at "all"
    exact h
mutual
/-- tame data: its texts well-formed and short -/
def tmD : PyData → Bool
  | .str x => PyData.strOk x && decide (x.length ≤ 1000)
  | .list ds => tmDs ds
  | .tuple ds => tmDs ds
  | _ => true
def tmDs : List PyData → Bool
  | [] => true
  | d :: ds => tmD d && tmDs ds
end
structure Tame (d : PyData) : Prop where
  k : tmD d = true
theorem tmDs_all {ds : List PyData} : tmDs ds = true ↔ ∀ d ∈ ds, tmD d = true := by
  induction ds with
  | nil => simp [tmDs]
  | cons a ds ih => rw [tmDs, Bool.and_eq_true, ih]; simp
theorem Tame.tup {ds : List PyData} (h : ∀ d ∈ ds, Tame d) : Tame (.tuple ds) := ⟨by rw [tmD]; exact tmDs_all.mpr fun d hd => (h d hd).k⟩
theorem Tame.list {ds : List PyData} (h : ∀ d ∈ ds, Tame d) : Tame (.list ds) := ⟨by rw [tmD]; exact tmDs_all.mpr fun d hd => (h d hd).k⟩
theorem Tame.item {ds : List PyData} {d : PyData} (t : Tame (.tuple ds)) (h : d ∈ ds) : Tame d := by
  have k := t.k
  rw [tmD] at k
  exact ⟨tmDs_all.mp k d h⟩
theorem Tame.int {i : Int} : Tame (.int i) := ⟨by simp [tmD]⟩
theorem Tame.none : Tame .none := ⟨by simp [tmD]⟩
theorem Tame.bool {b : Bool} : Tame (.bool b) := ⟨by simp [tmD]⟩
theorem Tame.dict {kv : List (PyData × PyData)} : Tame (.dict kv) := ⟨by simp [tmD]⟩
theorem Tame.str {x : Str} (h : PyData.strOk x = true) (l : x.length ≤ 1000) : Tame (.str x) := ⟨by rw [tmD, h, decide_eq_true l]; rfl⟩
theorem Tame.len {x : Str} (t : Tame (.str x)) : x.length ≤ 100000 := by
  have k := t.k
  rw [tmD, Bool.and_eq_true, decide_eq_true_eq] at k
  omega
theorem Tame.ok {x : Str} (t : Tame (.str x)) : PyData.strOk x = true := by
  have k := t.k
  rw [tmD, Bool.and_eq_true] at k
  exact k.1
theorem k_is_name' {d : PyData} (t : Tame d) (h : Q (.dat (.bool (isName d))) [.dat d] n) : d_is_name K [.dat d] n Q X := k_is_name (fun s e => (e ▸ t : Tame (.str s)).ok) (fun s e => (e ▸ t : Tame (.str s)).len) h
local macro_rules | `(tactic| wtm_at "k") => `(tactic| ((with_reducible refine' k_is_name' ?a ?h); (case a => assumption)))
theorem two_or (ds : List PyData) : (∃ a b, ds = [a, b]) ∨ ds.length ≠ 2 := by
  match ds with
  | [] => exact .inr (by simp)
  | [_] => exact .inr (by simp)
  | [a, b] => exact .inl ⟨a, b, rfl⟩
  | _ :: _ :: _ :: _ => exact .inr (by simp)
theorem step_len {h : Int} {m : Str} {ds : List PyData} (e : ds.length ≠ 2) : planStep h m (.tuple ds) = none := by
  match ds, e with
  | [], _ => rfl
  | [_], _ => cases ‹PyData› <;> rfl
  | _ :: _ :: _ :: _, _ => rename_i a b c d _; cases a <;> cases b <;> rfl
  | [_, _], e => exact (e rfl).elim
theorem k_is_plan_of {d : PyData} {most : Int} (t : Tame d) (h : Q (.dat (.bool (isPlan most d))) [.dat d, .dat (.int most)] n) : d_is_plan_of K [.dat d, .dat (.int most)] n Q X := by
  unfold d_is_plan_of b_is_plan_of
  cases d with
  | tuple ds =>
    have hp : isPlan most (.tuple ds) = (decide (1 ≤ (ds.length : Int)) && decide ((ds.length : Int) ≤ most) && planGo (-1) "" ds && firstHour ds) := rfl
    wtm_at "in"
    wtm_at "all"
    case _ =>
      rw [hp] at h
      refine x_fin h ?_
      wtm_at "bz"
    case _ =>
      rename_i c1 c2
      refine x_forI (fun r s => ∃ hh m u, s = ⟨[some (.dat (.tuple ds)), some (.dat (.int most)), some (.dat (.int hh)), some (.dat (.str m)), u], n, []⟩ ∧ PyData.strOk m = true ∧ (∀ d ∈ r, Tame d) ∧ planGo (-1) "" ds = planGo hh m r) ?_ ?_ ⟨-1, "", none, rfl, by decide +kernel, fun d hd => t.item hd, rfl⟩
      · rintro p r s N ⟨hh, m, u, rfl, hm, ht, inv⟩ hN
        have tp := ht p List.mem_cons_self
        have no : planStep hh m p = none → Q (.dat (.bool false)) [.dat (.tuple ds), .dat (.int most)] n := fun q => by
          rw [hp, inv, planGo, q] at h
          simpa using h
        cases p with
        | tuple es =>
          rcases two_or es with ⟨a, b, rfl⟩ | hl
          · have ta := tp.item (d := a) (by simp)
            have tb := tp.item (d := b) (by simp)
            wtm_at "all"
            · rename_i q
              exact no (planStep_no (.inr (.inl (show isWhole a (hh + 1) 23 = false from by simpa using q))))
            · rename_i q
              exact no (planStep_no (.inr (.inr (show isName b = false from by simpa using q))))
            · rename_i q1 q2
              obtain ⟨i, rfl, i1, i2⟩ := isWhole_int (d := a) (lo := hh + 1) (hi := 23) (by simpa using q1)
              obtain ⟨w, rfl⟩ := isName_str (d := b) (by simpa using q2)
              have wk := tb.ok
              have q2 : isName (.str w) = true := by simpa using q2
              wtm_at "all"
              · rename_i q3
                refine no ?_
                show (if (decide (hh + 1 ≤ i) && decide (i ≤ 23)) && (isName (.str w) && !decide (w = m)) then some (i, w) else none) = none
                rw [q3, if_neg]
                simp
              · rename_i q3
                refine hN _ ⟨i, w, _, rfl, wk, fun d hd => ht d (List.mem_cons_of_mem _ hd), ?_⟩
                rw [inv, planGo]
                have e : planStep hh m (.tuple [.int i, .str w]) = some (i, w) := by
                  show (if (decide (hh + 1 ≤ i) && decide (i ≤ 23)) && (isName (.str w) && !decide (w = m)) then some (i, w) else none) = _
                  rw [q3, q2, decide_eq_true i1, decide_eq_true i2]
                  rfl
                rw [e]
          · wtm_at "all"
            · exact no (step_len hl)
            · wtm_at "hy"
              omega
        | _ =>
          wtm_at "all"
          exact no rfl
      · rintro s ⟨hh, m, u, rfl, hm, _, inv⟩
        rw [planGo] at inv
        match ds, inv, c1 with
        | [], _, c1 => cases c1
        | p :: r, inv, c1' =>
          have inv' := inv
          rw [planGo] at inv'
          cases q : planStep (-1) "" p with
          | none => rw [q] at inv'; cases inv'
          | some z =>
            obtain ⟨i, w, rfl, _⟩ := planStep_some q
            rw [hp, inv] at h
            wtm_at "all"
            refine x_fin h ?_
            rw [c1', show decide (((PyData.tuple [.int i, .str w] :: r).length : Int) ≤ most) = true from by simpa using c2]
            rfl
    case _ =>
      rw [hp] at h
      refine x_fin h ?_
      wtm_at "bz"
  | _ =>
    wtm_at "in"
    wtm_at "all"
    exact h
end
end K81

/-! part Q3 -/
namespace K81
open PySem PySem.Spec PyProof.Rows L2 Evl Lk LamX Mk
section
variable {K : PySem.W.Frag} {n : Nat} {Q : O → List O → Nat → Prop} {X : Addr → List O → Nat → Prop}
local macro_rules | `(tactic| wtm_at "k") => `(tactic| first
  | (with_reducible refine k_is_whole ?_)
  | (with_reducible refine k_is_leap ?_)
  | ((with_reducible refine' k_month_days ?a ?b ?h); (case a => omega); (case b => omega))
  | (with_reducible refine k_year_begin ?_)
  | ((with_reducible refine' k_day_in_year ?a ?b ?h); (case a => omega); (case b => omega))
  | ((with_reducible refine' k_number_at ?a ?b ?h); (case a => omega); (case b => omega))
  | (with_reducible refine k_days_of ?_)
  | (with_reducible refine k_is_date ?_)
  | ((with_reducible refine' k_month_and_day ?a ?h); (case a => assumption)))
theorem k_mode_in {ps : List PyData} {hr : Int} (hp : isPlan 6 (.tuple ps) = true) (h0 : 0 ≤ hr) (h : Q (.dat (modeAt hr ps)) [.dat (.tuple ps), .dat (.int hr)] n) : d_mode_in K [.dat (.tuple ps), .dat (.int hr)] n Q X := by
  obtain ⟨_, e, l1, l2, pairs, hf⟩ := isPlan_is hp
  cases e
  have hpos := modesAt_pos h0 hf
  unfold d_mode_in b_mode_in
  wtm_at "in"
  wtm_at "all"
  refine x_lcL (fun p => decide (hourOf p ≤ hr)) (fun p => .str (modeS p)) (by simp; omega) (fun d hd A B hA hB => ?_) ?_
  · obtain ⟨i, s, rfl⟩ := pairs d hd
    wtm_at "all"
    · rename_i c
      exact hA c
    · rename_i c
      exact hB c
  rw [List.nil_append]
  have e : (ps.filter fun p => decide (hourOf p ≤ hr)).map (fun p => PyData.str (modeS p)) = modesAt hr ps := rfl
  rw [e]
  rw [modeAt] at h
  generalize modesAt hr ps = l at hpos h
  have hne : l ≠ [] := fun z => by
    rw [z] at hpos
    exact absurd hpos (by decide)
  rw [← List.dropLast_concat_getLast hne] at h ⊢
  generalize l.dropLast = xs at h ⊢
  generalize l.getLast hne = v at h ⊢
  wtm_at "all"
  refine x_fIxL (atI_last xs v) ?_
  wtm_at "all"
  refine x_fin h ?_
  rw [List.length_append, List.length_singleton, Nat.add_sub_cancel, List.getD_eq_getElem?_getD, List.getElem?_append_right (Nat.le_refl _), Nat.sub_self]
  rfl
theorem k_nth_day {y m wd nn : Int} (m1 : 1 ≤ m) (m2 : m ≤ 12) (w0 : 0 ≤ wd) (w6 : wd ≤ 6) (hn : nn = -1 ∨ 1 ≤ nn ∧ nn ≤ 5) (h : Q (.dat (optD (nthDay y m wd nn))) [.dat (.int y), .dat (.int m), .dat (.int wd), .dat (.int nn)] n) : d_nth_day K [.dat (.int y), .dat (.int m), .dat (.int wd), .dat (.int nn)] n Q X := by
  have h31 := (monthDays_bd (y := y) m1 m2).2
  have h28 := (monthDays_bd (y := y) m1 m2).1
  have hp := nthDays_pos (y := y) m1 m2 w0 w6
  unfold d_nth_day b_nth_day
  wtm_at "in"
  wtm_at "all"
  refine x_lcM (l := List.range (monthDays y m).toNat) (fun i : Nat => PyData.int (0 + (i : Int))) (fun i : Nat => decide ((firstOf y m + (i : Int)) % 7 = wd)) (fun i : Nat => PyData.int (firstOf y m + (i : Int))) (by rw [List.length_range]; omega) (fun i hi A B hA hB => ?_) ?_
  · have hi := List.mem_range.mp hi
    rw [Int.zero_add]
    wtm_at "all"
    · rename_i c
      exact hA c
    · rename_i c
      exact hB c
  have e : ((List.range (monthDays y m).toNat).filter fun (i : Nat) => decide ((firstOf y m + (i : Int)) % 7 = wd)).map (fun (i : Nat) => PyData.int (firstOf y m + (i : Int))) = (nthDays y m wd).map PyData.int := by
    unfold nthDays
    rw [List.map_map]
    rfl
  rw [e]
  wtm_at "all"
  · rename_i c
    obtain rfl := of_decide_eq_true c
    have e2 : ((((nthDays y m wd).map PyData.int).length : Int) - 1) = (((nthDays y m wd).length - 1 : Nat) : Int) := by rw [List.length_map]; omega
    rw [e2]
    refine x_fIxL (d := .int ((nthDays y m wd)[(nthDays y m wd).length - 1]'(by omega))) (atI_nat (by rw [List.getElem?_map, List.getElem?_eq_getElem (by omega)]; rfl)) ?_
    wtm_at "all"
    refine x_fin h ?_
    rw [nthDay, if_pos rfl, List.getElem?_eq_getElem (by omega)]
    rfl
  · rename_i c1 c2
    have n1 : nn ≠ -1 := of_decide_eq_false c1
    have c2 := of_decide_eq_true c2
    rw [List.length_map] at c2
    obtain ⟨j, rfl⟩ : ∃ j : Nat, nn = (j : Int) + 1 := ⟨(nn - 1).toNat, by omega⟩
    have hj : j < (nthDays y m wd).length := by omega
    have e2 : ((j : Int) + 1 - 1) = (j : Int) := by omega
    rw [e2]
    refine x_fIxL (d := .int (nthDays y m wd)[j]) (atI_nat (by rw [List.getElem?_map, List.getElem?_eq_getElem hj]; rfl)) ?_
    wtm_at "all"
    refine x_fin h ?_
    rw [nthDay, if_neg n1, show ((j : Int) + 1 - 1).toNat = j from by omega, List.getElem?_eq_getElem hj]
    rfl
  · rename_i c1 c2
    have n1 : nn ≠ -1 := of_decide_eq_false c1
    have c2 := of_decide_eq_false c2
    rw [List.length_map] at c2
    obtain ⟨j, rfl⟩ : ∃ j : Nat, nn = (j : Int) + 1 := ⟨(nn - 1).toNat, by omega⟩
    refine x_fin h ?_
    rw [nthDay, if_neg n1, show ((j : Int) + 1 - 1).toNat = j from by omega, List.getElem?_eq_none (by omega)]
    rfl
local macro_rules | `(tactic| wtm_at "k") => `(tactic| ((with_reducible refine' k_nth_day ?a ?b ?c ?d ?e ?h); (case a => omega); (case b => omega); (case c => omega); (case d => omega); (case e => omega)))
theorem k_day_of : ∀ (m : Nat) {d : PyData} {y : Int} {n : Nat} {Q : O → List O → Nat → Prop} {X : Addr → List O → Nat → Prop}, Tame d → whenOf m d = true → Q (.dat (optD (dayOf y m d))) [.dat d, .dat (.int y)] n → d_day_of K m [.dat d, .dat (.int y)] n Q X
  | 0, _, _, _, _, _, _, hw, _ => nomatch hw
  | m + 1, d, y, n, Q, X, t, hw, h => by
    match d, hw with
    | .tuple (.str w :: rest), hw =>
      have hw' : whenBy (whenOf m) w rest = true := hw
      have tw := (t.item (d := .str w) List.mem_cons_self).ok
      have h' : Q (.dat (optD (dayBy y (dayOf y m) w rest))) [.dat (.tuple (.str w :: rest)), .dat (.int y)] n := h
      unfold whenBy at hw'
      unfold dayBy at h'
      by_cases w1 : w = "date"
      · subst w1
        rw [if_pos rfl] at hw' h'
        obtain ⟨mm, dd, rfl, m1, m2, d1, d2⟩ := dateOf_is hw'
        unfold d_day_of b_day_of
        wtm_at "in"
        wtm_at "all"
        all_goals
          refine x_fin h' ?_
          have ec : eqd (.tuple (cutD [.str "date", .int mm, .int dd] (some 1) none)) (.tuple [.int 2, .int 29]) = decide (mm = 2 ∧ dd = 29) := eqv_two mm dd 2 29
          simp only [ec] at *
          show _ = O.dat (optD (if (mm = 2 ∧ dd = 29) ∧ isLeap y = false then none else some (yearBegin y + dayInYear y mm dd)))
          first
            | (simp_all [optD]; done)
            | (rw [if_neg (by simp_all)]; rfl)
      by_cases w2 : w = "nth"
      · subst w2
        rw [if_neg w1, if_pos rfl] at hw' h'
        obtain ⟨mm, wd, nn, rfl, m1, m2, w0, w6, hn⟩ := nthOf_is hw'
        unfold d_day_of b_day_of
        wtm_at "in"
        wtm_at "all"
        exact h'
      by_cases w3 : w = "shift"
      · subst w3
        rw [if_neg w1, if_neg w2, if_pos rfl] at hw' h'
        obtain ⟨a, k, rfl, ha, k1, k2, k3⟩ := shiftOf_is hw'
        have ta := t.item (d := a) (by simp)
        unfold d_day_of b_day_of
        wtm_at "in"
        wtm_at "all"
        refine k_day_of m ta ha ?_
        have e : shiftDay (dayOf y m) [a, .int k] = (dayOf y m a).map fun d => d + k := rfl
        rw [e] at h'
        cases q : dayOf y m a with
        | none =>
          rw [q] at h'
          wtm_at "all"
          exact h'
        | some i =>
          rw [q] at h'
          wtm_at "all"
          exact h'
      by_cases w4 : w = "moved"
      · subst w4
        rw [if_neg w1, if_neg w2, if_neg w3, if_pos rfl] at hw'
        rw [if_neg w1, if_neg w2, if_neg w3] at h'
        obtain ⟨a, wd, k, rfl, ha, w0, w6, k1, k2, k3⟩ := movedOf_is hw'
        have ta := t.item (d := a) (by simp)
        unfold d_day_of b_day_of
        wtm_at "in"
        wtm_at "all"
        refine k_day_of m ta ha ?_
        have e : movedDay (dayOf y m) [a, .int wd, .int k] = (dayOf y m a).map fun d => if d % 7 = wd then d + k else d := rfl
        rw [e] at h'
        cases q : dayOf y m a with
        | none =>
          rw [q] at h'
          wtm_at "all"
          exact h'
        | some i =>
          rw [q] at h'
          simp only [optD] at h' ⊢
          wtm_at "all"
          all_goals
            refine x_fin h' ?_
            simp_all
      rw [if_neg w1, if_neg w2, if_neg w3, if_neg w4] at hw'
      cases hw'
end
end K81

/-! part Q4 -/
namespace K81
open PySem PySem.Spec PyProof.Rows L2 Evl Lk LamX Mk
section
variable {K : PySem.W.Frag} {n : Nat} {Q : O → List O → Nat → Prop} {X : Addr → List O → Nat → Prop}
local macro_rules | `(tactic| wtm_at "k") => `(tactic| first
  | (with_reducible refine k_is_whole ?_)
  | (with_reducible refine k_is_leap ?_)
  | ((with_reducible refine' k_month_days ?a ?b ?h); (case a => omega); (case b => omega))
  | (with_reducible refine k_year_begin ?_)
  | ((with_reducible refine' k_day_in_year ?a ?b ?h); (case a => omega); (case b => omega))
  | ((with_reducible refine' k_number_at ?a ?b ?h); (case a => omega); (case b => omega))
  | (with_reducible refine k_days_of ?_)
  | (with_reducible refine k_is_date ?_)
  | ((with_reducible refine' k_month_and_day ?a ?h); (case a => assumption)))
theorem dateOf_no {rest : List PyData} (h : rest.length ≠ 2) : dateOf rest = false := by
  match rest, h with
  | [], _ => rfl
  | [a], _ => cases a <;> rfl
  | [_, _], h => exact (h rfl).elim
  | a :: _ :: _ :: _, _ => cases a <;> rfl
theorem shiftOf_no {p : PyData → Bool} {rest : List PyData} (h : rest.length ≠ 2) : shiftOf p rest = false := by
  match rest, h with
  | [], _ => rfl
  | [a], _ => rfl
  | [_, _], h => exact (h rfl).elim
  | a :: _ :: _ :: _, _ => rfl
theorem nthOf_no {rest : List PyData} (h : rest.length ≠ 3) : nthOf rest = false := by
  match rest, h with
  | [], _ => rfl
  | [a], _ => rfl
  | [_, _], _ => rfl
  | [_, _, _], h => exact (h rfl).elim
  | a :: _ :: _ :: _ :: _, _ => rfl
theorem movedOf_no {p : PyData → Bool} {rest : List PyData} (h : rest.length ≠ 3) : movedOf p rest = false := by
  match rest, h with
  | [], _ => rfl
  | [a], _ => rfl
  | [_, _], _ => rfl
  | [_, _, _], h => exact (h rfl).elim
  | a :: _ :: _ :: _ :: _, _ => rfl
theorem three_r (ds : List PyData) : (∃ a b c, ds = [a, b, c]) ∨ ds.length ≠ 3 := three_or ds
theorem k_is_when_of : ∀ (m : Nat) {d : PyData} {n : Nat} {Q : O → List O → Nat → Prop} {X : Addr → List O → Nat → Prop}, Tame d → Q (.dat (.bool (whenOf m d))) [.dat d, .dat (.int (m : Int))] n → d_is_when_of K (m + 1) [.dat d, .dat (.int (m : Int))] n Q X
  | 0, d, n, Q, X, t, h => by
    unfold d_is_when_of b_is_when_of
    cases d <;> wtm_at "in" <;> wtm_at "all"
    all_goals exact h
  | m + 1, d, n, Q, X, t, h => by
    have dm : decide (((m + 1 : Nat) : Int) = 0) = false := decide_eq_false (by omega)
    unfold d_is_when_of b_is_when_of
    cases d with
    | tuple ds =>
      match ds, t, h with
      | [], t, h =>
        wtm_at "in"
        wtm_at "go"
        exact h
      | a :: rest, t, h =>
        have ta := t.item (d := a) (by simp)
        cases a with
        | str w =>
          have tw := ta.ok
          have h' : Q (.dat (.bool (whenBy (whenOf m) w rest))) [.dat (.tuple (.str w :: rest)), .dat (.int ((m + 1 : Nat) : Int))] n := h
          unfold whenBy at h'
          by_cases w1 : w = "date"
          · subst w1
            rw [if_pos rfl] at h'
            rcases two_or rest with ⟨b, c, rfl⟩ | hl
            · cases b with
              | int mm =>
                by_cases hb : 1 ≤ mm ∧ mm ≤ 12
                · wtm_at "in"
                  wtm_at "all"
                  all_goals
                    refine x_fin h' ?_
                    clear h; simp_all [dateOf, isWhole]
                · have dw : isWhole (.int mm) 1 12 = false := by simp only [isWhole]; simp; omega
                  have de : dateOf [.int mm, c] = false := by
                    have : (decide (1 ≤ mm) && decide (mm ≤ 12)) = false := dw
                    show ((decide (1 ≤ mm) && decide (mm ≤ 12)) && _) = false
                    rw [this]; rfl
                  rw [de] at h'
                  wtm_at "in"
                  wtm_at "all"
                  exact h'
              | _ =>
                wtm_at "in"
                wtm_at "all"
                exact h'
            · rw [dateOf_no hl] at h'
              have dl : decide (((PyData.str "date" :: rest).length : Int) = 3) = false := decide_eq_false (by rw [List.length_cons]; omega)
              wtm_at "in"
              wtm_at "all"
              exact h'
          by_cases w2 : w = "nth"
          · subst w2
            rw [if_neg w1, if_pos rfl] at h'
            rcases three_r rest with ⟨b, c, e, rfl⟩ | hl
            · have te := t.item (d := e) (by simp)
              cases hb : isWhole b 1 12 <;> cases hc : isWhole c 0 6
              · wtm_at "in"
                wtm_at "all"
                refine x_fin h' ?_
                clear h t te; simp_all [nthOf]
              · wtm_at "in"
                wtm_at "all"
                refine x_fin h' ?_
                clear h t te; simp_all [nthOf]
              · wtm_at "in"
                wtm_at "all"
                refine x_fin h' ?_
                clear h t te; simp_all [nthOf]
              cases e with
              | int i =>
                wtm_at "in"
                wtm_at "all"
                all_goals
                  refine x_fin h' ?_
                  clear h; simp_all [nthOf, ne0]
              | _ =>
                wtm_at "in"
                wtm_at "all"
                refine x_fin h' ?_
                clear h; simp_all [nthOf, isWhole]
            · rw [nthOf_no hl] at h'
              have dl : decide (((PyData.str "nth" :: rest).length : Int) = 4) = false := decide_eq_false (by rw [List.length_cons]; omega)
              wtm_at "in"
              wtm_at "all"
              exact h'
          have im : ((m + 1 : Nat) : Int) - 1 = (m : Int) := by omega
          by_cases w3 : w = "shift"
          · subst w3
            rw [if_neg w1, if_neg w2, if_pos rfl] at h'
            rcases two_or rest with ⟨b, c, rfl⟩ | hl
            · have tb := t.item (d := b) (by simp)
              have tc := t.item (d := c) (by simp)
              wtm_at "in"
              wtm_at "go"
              rw [im]
              refine k_is_when_of m tb ?_
              cases hw : whenOf m b
              · wtm_at "all"
                refine x_fin h' ?_
                clear h; simp_all [shiftOf]
              cases c with
              | int i =>
                wtm_at "all"
                all_goals
                  refine x_fin h' ?_
                  clear h; simp_all [shiftOf, ne0]
              | _ =>
                wtm_at "all"
                refine x_fin h' ?_
                clear h; simp_all [shiftOf, isWhole]
            · rw [shiftOf_no hl] at h'
              have dl : decide (((PyData.str "shift" :: rest).length : Int) = 3) = false := decide_eq_false (by rw [List.length_cons]; omega)
              wtm_at "in"
              wtm_at "all"
              exact h'
          by_cases w4 : w = "moved"
          · subst w4
            rw [if_neg w1, if_neg w2, if_neg w3, if_pos rfl] at h'
            rcases three_r rest with ⟨b, c, e, rfl⟩ | hl
            · have tb := t.item (d := b) (by simp)
              have te := t.item (d := e) (by simp)
              wtm_at "in"
              wtm_at "go"
              rw [im]
              refine k_is_when_of m tb ?_
              cases hw : whenOf m b
              · wtm_at "all"
                refine x_fin h' ?_
                clear h; simp_all [movedOf]
              cases hc : isWhole c 0 6
              · wtm_at "all"
                refine x_fin h' ?_
                clear h; simp_all [movedOf]
              cases e with
              | int i =>
                wtm_at "all"
                all_goals
                  refine x_fin h' ?_
                  clear h; simp_all [movedOf, ne0]
              | _ =>
                wtm_at "all"
                refine x_fin h' ?_
                clear h; simp_all [movedOf, isWhole]
            · rw [movedOf_no hl] at h'
              have dl : decide (((PyData.str "moved" :: rest).length : Int) = 4) = false := decide_eq_false (by rw [List.length_cons]; omega)
              wtm_at "in"
              wtm_at "all"
              exact h'
          rw [if_neg w1, if_neg w2, if_neg w3, if_neg w4] at h'
          have e1 : decide (w = "date") = false := decide_eq_false w1
          have e2 : decide (w = "nth") = false := decide_eq_false w2
          have e3 : decide (w = "shift") = false := decide_eq_false w3
          have e4 : decide (w = "moved") = false := decide_eq_false w4
          wtm_at "in"
          wtm_at "all"
          exact h'
        | _ =>
          wtm_at "in"
          wtm_at "go"
          exact h
    | _ =>
      wtm_at "in"
      wtm_at "all"
      exact h
theorem k_is_when {d : PyData} (t : Tame d) (h : Q (.dat (.bool (whenOf 4 d))) [.dat d] n) : d_is_when K [.dat d] n Q X := by
  unfold d_is_when b_is_when
  wtm_at "in"
  wtm_at "go"
  refine k_is_when_of 4 t ?_
  wtm_at "go"
  exact h
end
end K81

/-! part Q5 -/
namespace K81
open PySem PySem.Spec PyProof.Rows L2 Evl Lk LamX Mk
section
variable {K : PySem.W.Frag} {n : Nat} {Q : O → List O → Nat → Prop} {X : Addr → List O → Nat → Prop}
local macro_rules | `(tactic| wtm_at "k") => `(tactic| first
  | (with_reducible refine k_is_whole ?_)
  | (with_reducible refine k_is_leap ?_)
  | ((with_reducible refine' k_month_days ?a ?b ?h); (case a => omega); (case b => omega))
  | (with_reducible refine k_year_begin ?_)
  | ((with_reducible refine' k_day_in_year ?a ?b ?h); (case a => omega); (case b => omega))
  | ((with_reducible refine' k_number_at ?a ?b ?h); (case a => omega); (case b => omega))
  | (with_reducible refine k_days_of ?_)
  | (with_reducible refine k_is_date ?_)
  | ((with_reducible refine' k_month_and_day ?a ?h); (case a => assumption)))
local macro_rules | `(tactic| wtm_at "k") => `(tactic| first
  | ((with_reducible refine' k_is_plan_of ?a ?h); (case a => assumption))
  | ((with_reducible refine' k_is_when ?a ?h); (case a => assumption))
  | ((with_reducible refine' k_date_at ?a ?h); (case a => assumption)))
theorem k_told_day_no {d y : PyData} (t : Tame d) (hw : whenOf 4 d = false) (h : X (He.ga K "BadWhen") [.dat d, .dat y] n) : d_told_day K [.dat d, .dat y] n Q X := by
  unfold d_told_day b_told_day
  wtm_at "in"
  wtm_at "all"
  exact h
theorem k_told_day_year {d y : PyData} (t : Tame d) (hw : whenOf 4 d = true) (hy : isWhole y 1 last = false) (h : X (He.ga K "BadYear") [.dat d, .dat y] n) : d_told_day K [.dat d, .dat y] n Q X := by
  unfold d_told_day b_told_day
  wtm_at "in"
  wtm_at "go"
  refine k_need_year (fun z => ?_) fun _ => ?_
  · rw [hy] at z; cases z
  · wtm_at "all"
    exact h
theorem whole_year {y : Int} (y1 : 1 ≤ y) (y2 : y ≤ last) : isWhole (.int y) 1 last = true := by
  have e : isWhole (.int y) 1 last = (decide (1 ≤ y) && decide (y ≤ last)) := rfl
  rw [e, decide_eq_true y1, decide_eq_true y2]
  rfl
theorem k_told_day_none {d : PyData} {y : Int} (t : Tame d) (hw : whenOf 4 d = true) (y1 : 1 ≤ y) (y2 : y ≤ last) (hi : ∀ i, dayOf y 4 d = some i → inDays i = false) (h : Q (.dat .none) [.dat d, .dat (.int y)] n) : d_told_day K [.dat d, .dat (.int y)] n Q X := by
  have hy := whole_year y1 y2
  unfold d_told_day b_told_day
  wtm_at "in"
  wtm_at "go"
  refine k_need_year (fun _ => ?_) fun z => (Bool.false_ne_true (z.symm.trans hy)).elim
  wtm_at "go"
  refine k_day_of 4 t hw ?_
  cases q : dayOf y 4 d with
  | none =>
    simp only [optD]
    wtm_at "go"
    exact h
  | some i =>
    have hi := hi i q
    have hi2 : (decide (0 ≤ i) && decide (i < yearBegin (1000000000000000000000000000000 + 1))) = false := by
      rw [← last_eq']
      exact hi
    simp only [optD]
    wtm_at "go"
    cases h1 : decide (0 ≤ i) with
    | false =>
      wtm_at "go"
      exact h
    | true =>
      rw [h1, Bool.true_and] at hi2
      wtm_at "go"
      exact h
theorem k_told_day_some {d : PyData} {y a b c : Int} (t : Tame d) (hw : whenOf 4 d = true) (y1 : 1 ≤ y) (y2 : y ≤ last) (q : dayOf y 4 d = some (numberAt a b c)) (hi : inDays (numberAt a b c) = true) (v : Valid a b c) (h : Q (.dat (.tuple [.int a, .int b, .int c])) [.dat d, .dat (.int y)] n) : d_told_day K [.dat d, .dat (.int y)] n Q X := by
  have hy := whole_year y1 y2
  have hi2 : (decide (0 ≤ numberAt a b c) && decide (numberAt a b c < yearBegin (1000000000000000000000000000000 + 1))) = true := by
    rw [← last_eq']
    exact hi
  obtain ⟨h1, h2⟩ := Bool.and_eq_true_iff.mp hi2
  unfold d_told_day b_told_day
  wtm_at "in"
  wtm_at "go"
  refine k_need_year (fun _ => ?_) fun z => (Bool.false_ne_true (z.symm.trans hy)).elim
  wtm_at "go"
  refine k_day_of 4 t hw ?_
  rw [q]
  simp only [optD]
  wtm_at "go"
  exact h
end
end K81

/-! part Q6 -/
namespace K81
open PySem PySem.Spec PyProof.Rows L2 Evl Lk LamX Mk
section
variable {K : PySem.W.Frag} {n : Nat} {Q : O → List O → Nat → Prop} {X : Addr → List O → Nat → Prop}
theorem k__law_leap {y : Int} (h : Q (.dat (.bool (isLeap y))) [.dat (.int y)] n) : d__law_leap K [.dat (.int y)] n Q X := by
  unfold d__law_leap b__law_leap
  wtm_at "in"
  wtm_at "all"
  all_goals (refine x_fin h ?_; simp_all [isLeap])
local macro_rules | `(tactic| wtm_at "k") => `(tactic| (with_reducible refine k__law_leap ?_))
theorem in_four {m : Int} : inB (.int m) (.list [.int 4, .int 6, .int 9, .int 11]) = some (decide (m = 4 ∨ m = 6 ∨ m = 9 ∨ m = 11)) := by
  have h : inB (.int m) (.list [.int 4, .int 6, .int 9, .int 11]) = some ([PyData.int 4, .int 6, .int 9, .int 11].any fun z => PyData.eqv z (.int m)) := rfl
  rw [h]
  congr 1
  have e : ∀ a : Int, PyData.eqv (.int a) (.int m) = decide (m = a) := fun a => by
    have := eqd_int (i := a) (j := m)
    unfold eqd at this
    rw [this]
    exact decide_eq_decide.mpr eq_comm
  simp only [List.any_cons, List.any_nil, e, Bool.or_false]
  by_cases h1 : m = 4 <;> by_cases h2 : m = 6 <;> by_cases h3 : m = 9 <;> by_cases h4 : m = 11 <;> simp [h1, h2, h3, h4]
theorem k__law_month {y m : Int} (m1 : 1 ≤ m) (m2 : m ≤ 12) (h : Q (.dat (.int (monthDays y m))) [.dat (.int y), .dat (.int m)] n) : d__law_month K [.dat (.int y), .dat (.int m)] n Q X := by
  unfold d__law_month b__law_month
  wtm_at "in"
  wtm_at "all"
  · rename_i c1 c2
    obtain rfl := of_decide_eq_true c1
    refine x_fin h ?_
    rw [monthDays, c2]
    rfl
  · rename_i c1 c2
    obtain rfl := of_decide_eq_true c1
    refine x_fin h ?_
    rw [monthDays, c2]
    rfl
  · rename_i c1
    have hm := of_decide_eq_false c1
    refine x_fIn in_four ?_
    wtm_at "all"
    · rename_i c2
      refine x_fin h ?_
      rcases of_decide_eq_true c2 with rfl | rfl | rfl | rfl <;> rfl
    · rename_i c2
      have hl := of_decide_eq_false c2
      refine x_fin h ?_
      rcases cases12 m1 m2 with rfl | rfl | rfl | rfl | rfl | rfl | rfl | rfl | rfl | rfl | rfl | rfl <;> first | rfl | omega
theorem k__law_number {y m d : Int} (m1 : 1 ≤ m) (m2 : m ≤ 12) (h : Q (.dat (.int (numberAt y m d))) [.dat (.tuple [.int y, .int m, .int d])] n) : d__law_number K [.dat (.tuple [.int y, .int m, .int d])] n Q X := by
  unfold d__law_number b__law_number
  wtm_at "in"
  wtm_at "all"
  all_goals
    refine x_fin h ?_
    congr 2
    refine lawNumber_eq m1 m2 _ _ ?_ ?_
  all_goals
    wtm_at "hy"
    first
      | (rw [if_pos (by omega)]; done)
      | (rw [if_neg (by omega)]; done)
      | omega
theorem k__law_mode {ps : List PyData} {hr : Int} (hp : isPlan 6 (.tuple ps) = true) (h0 : 0 ≤ hr) (h : Q (.dat (modeAt hr ps)) [.dat (.tuple ps), .dat (.int hr)] n) : d__law_mode K [.dat (.tuple ps), .dat (.int hr)] n Q X := by
  obtain ⟨_, e, l1, l2, pairs, hf⟩ := isPlan_is hp
  cases e
  have hpos := modesAt_pos h0 hf
  unfold d__law_mode b__law_mode
  wtm_at "in"
  wtm_at "all"
  refine x_lcL (fun p => decide (hourOf p ≤ hr)) (fun p => .str (modeS p)) (by simp; omega) (fun d hd A B hA hB => ?_) ?_
  · obtain ⟨i, s, rfl⟩ := pairs d hd
    wtm_at "all"
    · rename_i c
      exact hA c
    · rename_i c
      exact hB c
  rw [List.nil_append]
  have e : (ps.filter fun p => decide (hourOf p ≤ hr)).map (fun p => PyData.str (modeS p)) = modesAt hr ps := rfl
  rw [e]
  rw [modeAt] at h
  generalize modesAt hr ps = l at hpos h
  wtm_at "all"
  have e2 : ((l.length : Int) - 1) = ((l.length - 1 : Nat) : Int) := by omega
  rw [e2]
  refine x_fIxL (d := l[l.length - 1]'(by omega)) (atI_nat (List.getElem?_eq_getElem (by omega))) ?_
  wtm_at "all"
  refine x_fin h ?_
  rw [List.getD_eq_getElem?_getD, List.getElem?_eq_getElem (by omega)]
  rfl
theorem k_draw {room : Int} (h0 : 0 < room) (hz : room.natAbs.log2 < 9000) (hn : n < far) (h : ∀ x, 0 ≤ x → x < room → Q (.dat (.int x)) [.st, .dat (.int room)] (n + 1)) : dDraw [.st, .dat (.int room)] n Q X := ⟨room, rfl, h0, hz, hn, h⟩
theorem log2_len {k : Nat} (h : k ≤ 100000) : (k : Int).natAbs.log2 < 9000 := by
  have : (k : Int).natAbs < 2 ^ 20 := by
    have e : (k : Int).natAbs = k := rfl
    rw [e]; omega
  have := log2_of (c := 9000) this (by decide) (by decide)
  exact this
theorem k_pick_l {ds : List PyData} (h0 : 0 < ds.length) (hz : ds.length ≤ 100000) (hn : n < far) (h : ∀ d ∈ ds, Q (.dat d) [.st, .lst ds] (n + 1)) : d__law_pick K [.st, .lst ds] n Q X := by
  unfold d__law_pick b__law_pick
  wtm_at "in"
  wtm_at "go"
  refine k_draw (by omega) (log2_len hz) hn fun x x0 x1 => ?_
  simp only [u_backs_slot, u_backs_val, u_backs_nil, u_putO, List.set_cons_zero, List.set_cons_succ]
  obtain ⟨j, rfl⟩ : ∃ j : Nat, x = (j : Int) := ⟨x.toNat, by omega⟩
  have hj : j < ds.length := by omega
  wtm_at "go"
  refine x_fIxL (d := ds[j]) (atI_nat (List.getElem?_eq_getElem hj)) ?_
  wtm_at "go"
  exact h _ (List.getElem_mem hj)
theorem k__law_tells {d : PyData} {due : Bool} (b : Bool) (hd : d = .bool b) (h : Q (.dat (.bool (decide (b = due)))) [.dat d, .dat (.bool due)] n) : d__law_tells K [.dat d, .dat (.bool due)] n Q X := by
  subst hd
  unfold d__law_tells b__law_tells
  cases due <;> wtm_at "in" <;> wtm_at "all"
  all_goals exact h
theorem k__law_is_int {d : PyData} {lo hi : Int} (h : Q (.dat (.bool (isWhole d lo hi))) [.dat d, .dat (.int lo), .dat (.int hi)] n) : d__law_is_int K [.dat d, .dat (.int lo), .dat (.int hi)] n Q X := by
  unfold d__law_is_int b__law_is_int
  cases d <;> wtm_at "in" <;> wtm_at "all"
  all_goals (refine x_fin h ?_; simp_all [isWhole]; try omega)
end
end K81

/-! part Q7 -/
namespace K81
open PySem PySem.Spec PyProof.Rows L2 Evl Lk LamX Mk
section
variable {K : PySem.W.Frag} {n : Nat} {Q : O → List O → Nat → Prop} {X : Addr → List O → Nat → Prop}
theorem k__law_dated {y m d : Int} (v : Valid y m d) (h : Q (.dat (.tuple [.int y, .int m, .int d])) [.dat (.int (numberAt y m d))] n) : d__law_dated K [.dat (.int (numberAt y m d))] n Q X := by
  obtain ⟨E, r, u, pa, p, e1, e2, e3, e4, e5, e6, e7, e8⟩ := dated v
  unfold d__law_dated b__law_dated
  wtm_at "in"
  wtm_at "go"
  simp only [e1, e2, e3, e4, e5]
  wtm_at "all"
  all_goals
    rename_i c
    refine x_fin h ?_
    wtm_at "hy"
  · rw [if_pos c] at e7
    rw [e6, e7]
    rw [e8]
  · rw [if_neg c] at e7
    rw [e6, e7]
    rw [e8]
end
end K81

/-! part Q8 -/
namespace K81
open PySem PySem.Spec PyProof.Rows L2 Evl Lk LamX Mk
section
variable {K : PySem.W.Frag} {n : Nat} {Q : O → List O → Nat → Prop} {X : Addr → List O → Nat → Prop}
local macro_rules | `(tactic| wtm_at "k") => `(tactic| first
  | ((with_reducible refine' k__law_number ?a ?b ?h); (case a => omega); (case b => omega))
  | ((with_reducible refine' k__law_month ?a ?b ?h); (case a => omega); (case b => omega)))
theorem k__law_when_day : ∀ (m : Nat) {d : PyData} {y : Int} {n : Nat} {Q : O → List O → Nat → Prop} {X : Addr → List O → Nat → Prop}, Tame d → whenOf m d = true → Q (.dat (optD (dayOf y m d))) [.dat d, .dat (.int y)] n → d__law_when_day K m [.dat d, .dat (.int y)] n Q X
  | 0, _, _, _, _, _, _, hw, _ => nomatch hw
  | m + 1, d, y, n, Q, X, t, hw, h => by
    match d, hw with
    | .tuple (.str w :: rest), hw =>
      have hw' : whenBy (whenOf m) w rest = true := hw
      have tw := (t.item (d := .str w) List.mem_cons_self).ok
      have h' : Q (.dat (optD (dayBy y (dayOf y m) w rest))) [.dat (.tuple (.str w :: rest)), .dat (.int y)] n := h
      unfold whenBy at hw'
      unfold dayBy at h'
      by_cases w1 : w = "date"
      · subst w1
        rw [if_pos rfl] at hw' h'
        obtain ⟨mm, dd, rfl, m1, m2, d1, d2⟩ := dateOf_is hw'
        have cut : ((mm = 2 ∧ dd = 29) ∧ isLeap y = false) ↔ monthDays y mm < dd := by
          have e := monthDays_eq y mm
          have e' := monthDays_eq 2000 mm
          have l0 : lp 2000 = 1 := by decide
          constructor
          · rintro ⟨⟨rfl, rfl⟩, hl⟩
            rw [monthDays, hl]
            decide
          · intro hlt
            by_cases h2 : mm = 2
            · subst h2
              rw [if_pos rfl] at e e'
              have hb := lp_bd y
              refine ⟨⟨rfl, by omega⟩, ?_⟩
              cases hl : isLeap y with
              | false => rfl
              | true =>
                have : lp y = 1 := by rw [lp, if_pos hl]
                omega
            · rw [if_neg h2] at e e'
              omega
        have e : optD (dateDay y [.int mm, .int dd]) = if dd ≤ monthDays y mm then .int (numberAt y mm dd) else .none := by
          show optD (if (mm = 2 ∧ dd = 29) ∧ isLeap y = false then none else some (yearBegin y + dayInYear y mm dd)) = _
          by_cases q : dd ≤ monthDays y mm
          · rw [if_pos q, if_neg fun z => by have := cut.mp z; omega]; rfl
          · rw [if_neg q, if_pos (cut.mpr (by omega))]; rfl
        rw [e] at h'
        unfold d__law_when_day b__law_when_day
        wtm_at "in"
        wtm_at "all"
        · rename_i c
          rw [if_pos (of_decide_eq_true c)] at h'
          exact h'
        · rename_i c
          rw [if_neg (of_decide_eq_false c)] at h'
          exact h'
      by_cases w2 : w = "nth"
      · subst w2
        rw [if_neg w1, if_pos rfl] at hw' h'
        obtain ⟨mm, wd, nn, rfl, m1, m2, w0, w6, hn⟩ := nthOf_is hw'
        have h31 := (monthDays_bd (y := y) m1 m2).2
        have h28 := (monthDays_bd (y := y) m1 m2).1
        have hp := nthDays_pos (y := y) m1 m2 w0 w6
        have hq : Q (.dat (optD (nthDay y mm wd nn))) [.dat (.tuple [.str "nth", .int mm, .int wd, .int nn]), .dat (.int y)] n := h'
        unfold d__law_when_day b__law_when_day
        wtm_at "in"
        wtm_at "all"
        refine x_lcM (l := List.range (monthDays y mm).toNat) (fun i : Nat => PyData.int (0 + (i : Int))) (fun i : Nat => decide ((firstOf y mm + (i : Int)) % 7 = wd)) (fun i : Nat => PyData.int (firstOf y mm + (i : Int))) (by rw [List.length_range]; omega) (fun i hi A B hA hB => ?_) ?_
        · have hi := List.mem_range.mp hi
          rw [Int.zero_add]
          wtm_at "all"
          · rename_i c
            exact hA c
          · rename_i c
            exact hB c
        have e : ((List.range (monthDays y mm).toNat).filter fun (i : Nat) => decide ((firstOf y mm + (i : Int)) % 7 = wd)).map (fun (i : Nat) => PyData.int (firstOf y mm + (i : Int))) = (nthDays y mm wd).map PyData.int := by
          unfold nthDays
          rw [List.map_map]
          rfl
        rw [e]
        wtm_at "all"
        · rename_i c
          obtain rfl := of_decide_eq_true c
          have e2 : ((((nthDays y mm wd).map PyData.int).length : Int) - 1) = (((nthDays y mm wd).length - 1 : Nat) : Int) := by rw [List.length_map]; omega
          rw [e2]
          refine x_fIxL (d := .int ((nthDays y mm wd)[(nthDays y mm wd).length - 1]'(by omega))) (atI_nat (by rw [List.getElem?_map, List.getElem?_eq_getElem (by omega)]; rfl)) ?_
          wtm_at "all"
          refine x_fin hq ?_
          rw [nthDay, if_pos rfl, List.getElem?_eq_getElem (by omega)]
          rfl
        · rename_i c1 c2
          have n1 : nn ≠ -1 := of_decide_eq_false c1
          have c2 := of_decide_eq_true c2
          rw [List.length_map] at c2
          obtain ⟨j, rfl⟩ : ∃ j : Nat, nn = (j : Int) + 1 := ⟨(nn - 1).toNat, by omega⟩
          have hj : j < (nthDays y mm wd).length := by omega
          have e2 : ((j : Int) + 1 - 1) = (j : Int) := by omega
          rw [e2]
          refine x_fIxL (d := .int (nthDays y mm wd)[j]) (atI_nat (by rw [List.getElem?_map, List.getElem?_eq_getElem hj]; rfl)) ?_
          wtm_at "all"
          refine x_fin hq ?_
          rw [nthDay, if_neg n1, show ((j : Int) + 1 - 1).toNat = j from by omega, List.getElem?_eq_getElem hj]
          rfl
        · rename_i c1 c2
          have n1 : nn ≠ -1 := of_decide_eq_false c1
          have c2 := of_decide_eq_false c2
          rw [List.length_map] at c2
          obtain ⟨j, rfl⟩ : ∃ j : Nat, nn = (j : Int) + 1 := ⟨(nn - 1).toNat, by omega⟩
          refine x_fin hq ?_
          rw [nthDay, if_neg n1, show ((j : Int) + 1 - 1).toNat = j from by omega, List.getElem?_eq_none (by omega)]
          rfl
      by_cases w3 : w = "shift"
      · subst w3
        rw [if_neg w1, if_neg w2, if_pos rfl] at hw' h'
        obtain ⟨a, k, rfl, ha, k1, k2, k3⟩ := shiftOf_is hw'
        have ta := t.item (d := a) (by simp)
        unfold d__law_when_day b__law_when_day
        wtm_at "in"
        wtm_at "all"
        refine k__law_when_day m ta ha ?_
        have e : shiftDay (dayOf y m) [a, .int k] = (dayOf y m a).map fun d => d + k := rfl
        rw [e] at h'
        cases q : dayOf y m a with
        | none =>
          rw [q] at h'
          simp only [optD] at h' ⊢
          wtm_at "all"
          exact h'
        | some i =>
          rw [q] at h'
          simp only [optD] at h' ⊢
          wtm_at "all"
          exact h'
      by_cases w4 : w = "moved"
      · subst w4
        rw [if_neg w1, if_neg w2, if_neg w3, if_pos rfl] at hw'
        rw [if_neg w1, if_neg w2, if_neg w3] at h'
        obtain ⟨a, wd, k, rfl, ha, w0, w6, k1, k2, k3⟩ := movedOf_is hw'
        have ta := t.item (d := a) (by simp)
        unfold d__law_when_day b__law_when_day
        wtm_at "in"
        wtm_at "all"
        refine k__law_when_day m ta ha ?_
        have e : movedDay (dayOf y m) [a, .int wd, .int k] = (dayOf y m a).map fun d => if d % 7 = wd then d + k else d := rfl
        rw [e] at h'
        cases q : dayOf y m a with
        | none =>
          rw [q] at h'
          simp only [optD] at h' ⊢
          wtm_at "all"
          exact h'
        | some i =>
          rw [q] at h'
          simp only [optD] at h' ⊢
          wtm_at "all"
          all_goals
            refine x_fin h' ?_
            simp_all
      rw [if_neg w1, if_neg w2, if_neg w3, if_neg w4] at hw'
      cases hw'
end
end K81

/-! part Q9 -/
namespace K81
open PySem PySem.Spec PyProof.Rows L2 Evl Lk LamX Mk
section
variable {K : PySem.W.Frag} {n : Nat} {Q : O → List O → Nat → Prop} {X : Addr → List O → Nat → Prop}
local macro_rules | `(tactic| wtm_at "k") => `(tactic| first
  | (with_reducible refine k_is_whole ?_)
  | (with_reducible refine k_is_leap ?_)
  | ((with_reducible refine' k_month_days ?a ?b ?h); (case a => omega); (case b => omega))
  | (with_reducible refine k_year_begin ?_)
  | ((with_reducible refine' k_day_in_year ?a ?b ?h); (case a => omega); (case b => omega))
  | ((with_reducible refine' k_number_at ?a ?b ?h); (case a => omega); (case b => omega))
  | (with_reducible refine k_days_of ?_)
  | (with_reducible refine k_is_date ?_)
  | ((with_reducible refine' k_month_and_day ?a ?h); (case a => assumption)))
local macro_rules | `(tactic| wtm_at "k") => `(tactic| first
  | ((with_reducible refine' k_is_plan_of ?a ?h); (case a => assumption))
  | ((with_reducible refine' k_is_when ?a ?h); (case a => assumption))
  | ((with_reducible refine' k_date_at ?a ?h); (case a => assumption)))
theorem dateStep_no {l a b c : Int} {p e : PyData} (h : isDate p = false ∨ isPlan l e = false) : dateStep l a b c (.tuple [p, e]) = none := by
  cases q : dateStep l a b c (.tuple [p, e]) with
  | none => rfl
  | some z =>
    obtain ⟨y, m, n, pl, e1, _, h1, h2, _⟩ := dateStep_some q
    cases e1
    rcases h with h | h
    · rw [h1] at h; cases h
    · rw [h2] at h; cases h
theorem dateStep_len {l a b c : Int} {es : List PyData} (h : es.length ≠ 2) : dateStep l a b c (.tuple es) = none := by
  cases q : dateStep l a b c (.tuple es) with
  | none => rfl
  | some z =>
    obtain ⟨y, m, n, pl, e1, _⟩ := dateStep_some q
    cases e1
    exact (h rfl).elim
theorem x_le3 {y m k a b c : Int} {q : O → Prop} (h : q (.dat (.bool (le3 y m k a b c)))) : fLe (.tuple [.int y, .int m, .int k]) (.tuple [.int a, .int b, .int c]) q := by
  rw [u_fLeT]
  show q (.dat (.bool (leTup [y, m, k] [a, b, c])))
  unfold leTup
  rw [lex_le3]
  exact h
theorem k_is_dates {d : PyData} {most longest : Int} (t : Tame d) (h : Q (.dat (.bool (isDates most longest d))) [.dat d, .dat (.int most), .dat (.int longest)] n) : d_is_dates K [.dat d, .dat (.int most), .dat (.int longest)] n Q X := by
  unfold d_is_dates b_is_dates
  cases d with
  | tuple ds =>
    have hp : isDates most longest (.tuple ds) = (decide ((ds.length : Int) ≤ most) && datesGo longest 0 0 0 ds) := rfl
    wtm_at "in"
    wtm_at "all"
    case _ =>
      rename_i c
      have c2 : decide ((ds.length : Int) ≤ most) = false := decide_eq_false (by have := of_decide_eq_true c; omega)
      rw [hp, c2] at h
      exact h
    case _ =>
      rename_i c
      have c2 : decide ((ds.length : Int) ≤ most) = true := decide_eq_true (by have := of_decide_eq_false c; omega)
      rw [hp, c2, Bool.true_and] at h
      refine x_forI (fun r s => ∃ a b c u, s = ⟨[some (.dat (.tuple ds)), some (.dat (.int most)), some (.dat (.int longest)), some (.dat (.tuple [.int a, .int b, .int c])), u], n, []⟩ ∧ (∀ d ∈ r, Tame d) ∧ datesGo longest 0 0 0 ds = datesGo longest a b c r) ?_ ?_ ⟨0, 0, 0, none, rfl, fun d hd => t.item hd, rfl⟩
      · rintro p r s N ⟨a, b, c, u, rfl, ht, inv⟩ hN
        have tp := ht p List.mem_cons_self
        have no : dateStep longest a b c p = none → Q (.dat (.bool false)) [.dat (.tuple ds), .dat (.int most), .dat (.int longest)] n := fun q => by
          rw [inv, datesGo, q] at h
          exact h
        cases p with
        | tuple es =>
          rcases two_or es with ⟨x, e, rfl⟩ | hl
          · have tx := tp.item (d := x) (by simp)
            have te := tp.item (d := e) (by simp)
            cases hx : isDate x
            · wtm_at "all"
              exact no (dateStep_no (.inl hx))
            cases he : isPlan longest e
            · wtm_at "all"
              exact no (dateStep_no (.inr he))
            obtain ⟨y, m, k, rfl⟩ := isDate_ints hx
            have ds3 : dateStep longest a b c (.tuple [.tuple [.int y, .int m, .int k], e]) = if isDate (.tuple [.int y, .int m, .int k]) && isPlan longest e && !le3 y m k a b c then some (y, m, k) else none := rfl
            wtm_at "go"
            refine x_le3 ?_
            cases hl3 : le3 y m k a b c with
            | true =>
              wtm_at "go"
              refine no ?_
              rw [ds3, hl3, if_neg]
              simp
            | false =>
              wtm_at "go"
              refine hN _ ⟨y, m, k, _, rfl, fun d hd => ht d (List.mem_cons_of_mem _ hd), ?_⟩
              rw [inv, datesGo, ds3, hl3, hx, he]
              rfl
          · wtm_at "all"
            · exact no (dateStep_len hl)
            · wtm_at "hy"
              omega
        | _ =>
          wtm_at "all"
          exact no rfl
      · rintro s ⟨a, b, c, u, rfl, _, inv⟩
        rw [inv, datesGo] at h
        wtm_at "all"
        exact h
  | _ =>
    wtm_at "in"
    wtm_at "all"
    exact h
end
end K81

/-! part Q10 -/
namespace K81
open PySem PySem.Spec PyProof.Rows L2 Evl Lk LamX Mk
section
variable {K : PySem.W.Frag} {n : Nat} {Q : O → List O → Nat → Prop} {X : Addr → List O → Nat → Prop}
local macro_rules | `(tactic| wtm_at "k") => `(tactic| first
  | (with_reducible refine k_is_whole ?_)
  | (with_reducible refine k_is_leap ?_)
  | ((with_reducible refine' k_month_days ?a ?b ?h); (case a => omega); (case b => omega))
  | (with_reducible refine k_year_begin ?_)
  | ((with_reducible refine' k_day_in_year ?a ?b ?h); (case a => omega); (case b => omega))
  | ((with_reducible refine' k_number_at ?a ?b ?h); (case a => omega); (case b => omega))
  | (with_reducible refine k_days_of ?_)
  | (with_reducible refine k_is_date ?_)
  | ((with_reducible refine' k_month_and_day ?a ?h); (case a => assumption)))
local macro_rules | `(tactic| wtm_at "k") => `(tactic| first
  | ((with_reducible refine' k_is_plan_of ?a ?h); (case a => assumption))
  | ((with_reducible refine' k_is_when ?a ?h); (case a => assumption))
  | ((with_reducible refine' k_date_at ?a ?h); (case a => assumption)))
local macro_rules | `(tactic| wtm_at "k") => `(tactic| ((with_reducible refine' k_is_dates ?a ?h); (case a => assumption)))
theorem four_or (ds : List PyData) : (∃ a b c d, ds = [a, b, c, d]) ∨ ds.length ≠ 4 := by
  match ds with
  | [] => exact .inr (by simp)
  | [_] => exact .inr (by simp)
  | [_, _] => exact .inr (by simp)
  | [_, _, _] => exact .inr (by simp)
  | [a, b, c, d] => exact .inl ⟨a, b, c, d, rfl⟩
  | _ :: _ :: _ :: _ :: _ :: _ => exact .inr (by simp)
theorem isCal_len {ds : List PyData} (h : ds.length ≠ 4) : isCalendar (.tuple ds) = false := by
  match ds, h with
  | [], _ => rfl
  | [_], _ => rfl
  | [_, _], _ => rfl
  | [_, _, _], _ => rfl
  | [_, _, _, _], h => exact (h rfl).elim
  | _ :: _ :: _ :: _ :: _ :: _, _ => rfl
theorem k_is_calendar {d : PyData} (t : Tame d) (h : Q (.dat (.bool (isCalendar d))) [.dat d] n) : d_is_calendar K [.dat d] n Q X := by
  unfold d_is_calendar b_is_calendar
  cases d with
  | tuple ds =>
    rcases four_or ds with ⟨w, week, rules, dates, rfl⟩ | hl
    · have tw := t.item (d := w) (by simp)
      have twk := t.item (d := week) (by simp)
      have tr := t.item (d := rules) (by simp)
      have td := t.item (d := dates) (by simp)
      have hc : isCalendar (.tuple [w, week, rules, dates]) = (strIs "calendar" w && (isWeek week && (isRules rules && isDates 8 6 dates))) := rfl
      rw [hc] at h
      cases w with
      | str z =>
        have zk := tw.ok
        cases hz : decide (z = "calendar") with
        | false =>
          have e : strIs "calendar" (.str z) = false := hz
          rw [e] at h
          wtm_at "in"
          wtm_at "go"
          exact h
        | true =>
          have e : strIs "calendar" (.str z) = true := hz
          rw [e, Bool.true_and] at h
          wtm_at "in"
          wtm_at "go"
          cases week with
          | tuple wk =>
            have hw : isWeek (.tuple wk) = (decide (((wk.length : Nat) : Int) = 7) && wk.all (isPlan 6)) := rfl
            cases h7 : decide ((wk.length : Int) = 7) with
            | false =>
              rw [hw, h7] at h
              wtm_at "go"
              exact h
            | true =>
              have l7 := of_decide_eq_true h7
              rw [hw, h7, Bool.true_and] at h
              wtm_at "go"
              refine x_lcL (fun _ => true) (fun p => .bool (isPlan 6 p)) (by simp; omega) (fun p hp A B hA _ => ?_) ?_
              · have tp := twk.item hp
                wtm_at "all"
                exact hA rfl
              rw [filter_true, List.nil_append]
              wtm_at "go"
              rw [all_map']
              cases hall : wk.all (isPlan 6) with
              | false =>
                rw [hall] at h
                wtm_at "go"
                exact h
              | true =>
                rw [hall, Bool.true_and] at h
                wtm_at "go"
                cases rules with
                | tuple rs =>
                  have hr : isRules (.tuple rs) = (decide (((rs.length : Nat) : Int) ≤ 8) && rs.all isRule) := rfl
                  cases h8 : decide (8 < (rs.length : Int)) with
                  | true =>
                    have e8 : decide (((rs.length : Nat) : Int) ≤ 8) = false := decide_eq_false (by have := of_decide_eq_true h8; omega)
                    rw [hr, e8] at h
                    wtm_at "go"
                    exact h
                  | false =>
                    have e8 : decide (((rs.length : Nat) : Int) ≤ 8) = true := decide_eq_true (by have := of_decide_eq_false h8; omega)
                    rw [hr, e8, Bool.true_and] at h
                    wtm_at "go"
                    generalize hR : rs.all isRule = R at h
                    refine x_forI (fun r s => ∃ u, s = ⟨[some (.dat (.tuple [.str z, .tuple wk, .tuple rs, dates])), some (.dat (.str z)), some (.dat (.tuple wk)), some (.dat (.tuple rs)), some (.dat dates), none, u], n, []⟩ ∧ (∀ d ∈ r, Tame d) ∧ R = r.all isRule) ?_ ?_ ⟨none, rfl, fun d hd => tr.item hd, hR.symm⟩
                    · rintro p r s N ⟨u, rfl, ht, inv⟩ hN
                      have tp := ht p List.mem_cons_self
                      rw [List.all_cons] at inv
                      have no : isRule p = false → Q (.dat (.bool false)) [.dat (.tuple [.str z, .tuple wk, .tuple rs, dates])] n := fun q => by
                        rw [inv, q] at h
                        exact h
                      cases p with
                      | tuple es =>
                        rcases two_or es with ⟨x, e, rfl⟩ | hl
                        · have tx := tp.item (d := x) (by simp)
                          have te := tp.item (d := e) (by simp)
                          have hp : isRule (.tuple [x, e]) = (whenOf 4 x && isPlan 6 e) := rfl
                          cases hx : whenOf 4 x
                          · wtm_at "go"
                            exact no (by rw [hp, hx]; rfl)
                          cases he : isPlan 6 e
                          · wtm_at "go"
                            exact no (by rw [hp, hx, he]; rfl)
                          wtm_at "go"
                          exact hN _ ⟨_, rfl, fun d hd => ht d (List.mem_cons_of_mem _ hd), by rw [inv, hp, hx, he]; rfl⟩
                        · have dl : decide ((es.length : Int) = 2) = false := decide_eq_false (by omega)
                          wtm_at "go"
                          refine no ?_
                          match es, hl with
                          | [], _ => rfl
                          | [_], _ => rfl
                          | [_, _], hl => exact (hl rfl).elim
                          | _ :: _ :: _ :: _, _ => rfl
                      | _ =>
                        wtm_at "go"
                        exact no rfl
                    · rintro s ⟨u, rfl, _, inv⟩
                      rw [inv] at h
                      wtm_at "go"
                      exact h
                | _ =>
                  wtm_at "go"
                  exact h
          | _ =>
            wtm_at "go"
            exact h
      | _ =>
        wtm_at "in"
        wtm_at "go"
        exact h
    · rw [isCal_len hl] at h
      have dl : decide ((ds.length : Int) = 4) = false := decide_eq_false (by omega)
      wtm_at "in"
      wtm_at "go"
      exact h
  | _ =>
    wtm_at "in"
    wtm_at "all"
    exact h
end
end K81

/-! part Q11 -/
namespace K81
open PySem PySem.Spec PyProof.Rows L2 Evl Lk LamX Mk
section
variable {K : PySem.W.Frag} {n : Nat} {Q : O → List O → Nat → Prop} {X : Addr → List O → Nat → Prop}
local macro_rules | `(tactic| wtm_at "k") => `(tactic| ((with_reducible refine' k_is_calendar ?a ?h); (case a => assumption)))
theorem k_need_calendar {d : PyData} (t : Tame d) (h : isCalendar d = true → Q (.dat .none) [.dat d] n) (h2 : isCalendar d = false → X (He.ga K "BadCalendar") [.dat d] n) : d_need_calendar K [.dat d] n Q X := by
  unfold d_need_calendar b_need_calendar
  cases hc : isCalendar d
  · wtm_at "in"
    wtm_at "go"
    exact h2 hc
  · wtm_at "in"
    wtm_at "go"
    exact h hc
end
end K81

/-! part Q12 -/
namespace K81
open PySem PySem.Spec PyProof.Rows L2 Evl Lk LamX Mk
section
variable {K : PySem.W.Frag} {n : Nat} {Q : O → List O → Nat → Prop} {X : Addr → List O → Nat → Prop}
theorem k__law_year (hn : n + 5 < far) (h : ∀ y, 1 ≤ y → y ≤ last → Q (.dat (.int y)) [.st] (n + 5)) : d__law_year K [.st] n Q X := by
  unfold d__law_year b__law_year
  wtm_at "in"
  wtm_at "go"
  have e30 : (10 : Int) ^ (30 : Int).toNat = 1000000000000000000000000000000 := by decide
  refine x_fPow ⟨by decide, by decide, by decide⟩ ?_
  rw [e30]
  wtm_at "go"
  refine k_draw (by omega) (by decide +kernel) (by omega) fun a a0 a1 => ?_
  simp only [u_backs_slot, u_backs_val, u_backs_nil, u_putO, List.set_cons_zero, List.set_cons_succ]
  wtm_at "go"
  refine k_draw (by omega) (by decide +kernel) (by omega) fun b b0 b1 => ?_
  simp only [u_backs_slot, u_backs_val, u_backs_nil, u_putO, List.set_cons_zero, List.set_cons_succ]
  wtm_at "go"
  refine k_draw (by omega) (by decide +kernel) (by omega) fun c c0 c1 => ?_
  simp only [u_backs_slot, u_backs_val, u_backs_nil, u_putO, List.set_cons_zero, List.set_cons_succ]
  wtm_at "go"
  refine k_draw (by omega) (by decide +kernel) (by omega) fun d d0 d1 => ?_
  simp only [u_backs_slot, u_backs_val, u_backs_nil, u_putO, List.set_cons_zero, List.set_cons_succ]
  wtm_at "go"
  refine k_pick_l (by simp) (by simp) (by omega) fun x hx => ?_
  simp only [u_backs_slot, u_backs_val, u_backs_nil, u_putO, List.set_cons_zero, List.set_cons_succ]
  have L := last_eq'
  simp only [List.mem_cons, List.not_mem_nil, or_false] at hx
  rcases hx with rfl | rfl | rfl | rfl | rfl | rfl | rfl | rfl
  all_goals
    wtm_at "go"
    exact h _ (by omega) (by omega)
local macro_rules | `(tactic| wtm_at "k") => `(tactic| ((with_reducible refine' k__law_month ?a ?b ?h); (case a => omega); (case b => omega)))
theorem k__law_date (hn : n + 9 < far) (h : ∀ y m d, Valid y m d → y ≤ last → Q (.dat (.tuple [.int y, .int m, .int d])) [.st] (n + 9)) : d__law_date K [.st] n Q X := by
  unfold d__law_date b__law_date
  wtm_at "in"
  wtm_at "go"
  refine k__law_year (by omega) fun y y1 y2 => ?_
  simp only [u_backs_slot, u_backs_val, u_backs_nil, u_putO, List.set_cons_zero, List.set_cons_succ]
  wtm_at "go"
  refine k_draw (by omega) (by decide +kernel) (by omega) fun a a0 a1 => ?_
  simp only [u_backs_slot, u_backs_val, u_backs_nil, u_putO, List.set_cons_zero, List.set_cons_succ]
  wtm_at "go"
  refine k_pick_l (by simp) (by simp) (by omega) fun x hx => ?_
  simp only [u_backs_slot, u_backs_val, u_backs_nil, u_putO, List.set_cons_zero, List.set_cons_succ]
  obtain ⟨m, rfl, m1, m2⟩ : ∃ m : Int, x = .int m ∧ 1 ≤ m ∧ m ≤ 12 := by
    simp only [List.mem_cons, List.not_mem_nil, or_false] at hx
    rcases hx with rfl | rfl | rfl | rfl <;> exact ⟨_, rfl, by omega, by omega⟩
  have hd := monthDays_bd (y := y) m1 m2
  have hl : (monthDays y m).natAbs.log2 < 9000 := log2_of (k := 20) (by omega) (by decide) (by decide)
  wtm_at "go"
  refine k_draw (by omega) hl (by omega) fun b b0 b1 => ?_
  simp only [u_backs_slot, u_backs_val, u_backs_nil, u_putO, List.set_cons_zero, List.set_cons_succ]
  wtm_at "go"
  refine k_pick_l (by simp) (by simp) (by omega) fun x hx => ?_
  simp only [u_backs_slot, u_backs_val, u_backs_nil, u_putO, List.set_cons_zero, List.set_cons_succ]
  obtain ⟨d, rfl, d1, d2⟩ : ∃ d : Int, x = .int d ∧ 1 ≤ d ∧ d ≤ monthDays y m := by
    simp only [List.mem_cons, List.not_mem_nil, or_false] at hx
    rcases hx with rfl | rfl | rfl | rfl
    · exact ⟨_, rfl, by omega, by omega⟩
    · exact ⟨_, rfl, by omega, by omega⟩
    · exact ⟨_, rfl, by omega, by omega⟩
    · refine ⟨_, rfl, ?_⟩
      split <;> omega
  wtm_at "go"
  exact h y m d ⟨y1, m1, m2, d1, d2⟩ y2
end
end K81

/-! part R1 -/
namespace K81
open PySem PySem.Spec PyProof.Rows L2 Evl Lk LamX Mk
/-! plain data: numbers, short texts, tuples of them, so deep -/
inductive Pt : Nat → PyData → Prop
  | int {k : Nat} {i : Int} : Pt k (.int i)
  | str {k : Nat} {x : Str} : PyData.strOk x = true → x.length ≤ 1000 → Pt k (.str x)
  | tup {k : Nat} {ds : List PyData} : ds.length ≤ 1000 → (∀ d ∈ ds, Pt k d) → Pt (k + 1) (.tuple ds)
theorem Pt.tame {k : Nat} {d : PyData} (h : Pt k d) : Tame d := by
  induction h with
  | int => exact .int
  | str h l => exact .str h l
  | tup _ _ ih => exact .tup ih
theorem Pt.mono {k m : Nat} {d : PyData} (h : Pt k d) (l : k ≤ m) : Pt m d := by
  induction h generalizing m with
  | int => exact .int
  | str h z => exact .str h z
  | tup h _ ih =>
    obtain ⟨j, rfl⟩ : ∃ j, m = j + 1 := ⟨m - 1, by omega⟩
    exact .tup h fun d hd => ih d hd (by omega)
theorem lay_all {ds : List PyData} (h : ∀ d ∈ ds, d.canLay0 = true) : PyData.canLayAll0 ds = true := by
  induction ds with
  | nil => rfl
  | cons a ds ih => rw [PyData.canLayAll0, h a List.mem_cons_self, ih fun d hd => h d (List.mem_cons_of_mem _ hd)]; rfl
theorem dep_all {ds : List PyData} {k : Nat} (h : ∀ d ∈ ds, d.depth ≤ k) : PyData.depthAll ds ≤ k := by
  induction ds with
  | nil => simp only [PyData.depthAll]; omega
  | cons a ds ih =>
    have h1 := h a List.mem_cons_self
    have h2 := ih fun d hd => h d (List.mem_cons_of_mem _ hd)
    simp only [PyData.depthAll]
    omega
theorem Pt.dep {k : Nat} {d : PyData} (h : Pt k d) : d.canLay0 = true ∧ d.depth ≤ k + 1 := by
  induction h with
  | int => exact ⟨rfl, by simp only [PyData.depth]; omega⟩
  | str h l => exact ⟨by rw [PyData.canLay0]; exact h, by simp only [PyData.depth]; omega⟩
  | tup _ _ ih =>
    refine ⟨by rw [PyData.canLay0]; exact lay_all fun d hd => (ih d hd).1, ?_⟩
    have := dep_all fun d hd => (ih d hd).2
    simp only [PyData.depth]
    omega
theorem Pt.shaped {k : Nat} {d : PyData} (h : Pt k d) (hk : k ≤ 50) : SeqAt.shaped d = true := by
  obtain ⟨h1, h2⟩ := h.dep
  unfold SeqAt.shaped
  rw [h1, decide_eq_true (by omega)]
  rfl
theorem shaped_list {k : Nat} {ds : List PyData} (h : ∀ d ∈ ds, Pt k d) (hk : k ≤ 50) : SeqAt.shaped (.list ds) = true := by
  have h1 := lay_all fun d hd => (h d hd).dep.1
  have h2 := dep_all fun d hd => (h d hd).dep.2
  unfold SeqAt.shaped
  have h3 : (PyData.list ds).canLay0 = true := by rw [PyData.canLay0]; exact h1
  rw [h3, decide_eq_true (by simp only [PyData.depth]; omega)]
  rfl
/-! names, plans, whens, calendars are plain -/
theorem letters_ok : ∀ c ∈ letters.cps.toList, c < 0x110000 := by
  have h : (letters.cps.toList.all fun c => decide (c < 0x110000)) = true := by decide +kernel
  exact fun c hc => of_decide_eq_true (List.all_eq_true.mp h c hc)
theorem name_pt {x : Str} {k : Nat} (h : isName (.str x) = true) : Pt k (.str x) := by
  have e : isName (.str x) = (decide ((1 : Int) ≤ (x.length : Nat)) && decide (((x.length : Nat) : Int) ≤ 8) && !decide (x = "any") && x.cps.toList.all fun c => decide (c ∈ letters.cps.toList)) := rfl
  rw [e] at h
  simp only [Bool.and_eq_true, decide_eq_true_eq] at h
  obtain ⟨⟨⟨_, h2⟩, _⟩, h4⟩ := h
  refine .str ?_ (by omega)
  unfold PyData.strOk
  rw [← Array.all_toList]
  exact List.all_eq_true.mpr fun c hc => decide_eq_true (letters_ok c (of_decide_eq_true (List.all_eq_true.mp h4 c hc)))
theorem pair_pt {i : Int} {x : Str} (h : isName (.str x) = true) {k : Nat} : Pt (k + 1) (.tuple [.int i, .str x]) := by
  refine .tup (by simp) fun d hd => ?_
  simp only [List.mem_cons, List.not_mem_nil, or_false] at hd
  rcases hd with rfl | rfl
  · exact .int
  · exact name_pt h
theorem planGo_pt : ∀ {ps : List PyData} {h : Int} {m : Str}, planGo h m ps = true → ∀ p ∈ ps, Pt 1 p
  | [], _, _, _, _, z => nomatch z
  | a :: r, h, m, e, p, z => by
    rw [planGo] at e
    split at e
    · rename_i i s q
      obtain ⟨i', s', rfl, _, _, _, hn, _⟩ := planStep_some q
      rcases List.mem_cons.mp z with rfl | z
      · exact pair_pt hn
      · exact planGo_pt e p z
    · cases e
theorem plan_pt {n : Int} {d : PyData} (h : isPlan n d = true) (hn : n ≤ 1000) : Pt 2 d := by
  obtain ⟨ps, rfl, h1, h2, _⟩ := isPlan_is h
  unfold isPlan at h
  simp only [Bool.and_eq_true] at h
  exact .tup (by omega) (planGo_pt h.1.2)
theorem date_pt {d : PyData} (h : isDate d = true) : Pt 1 d := by
  obtain ⟨y, m, n, rfl⟩ := isDate_ints h
  refine .tup (by simp) fun d hd => ?_
  simp only [List.mem_cons, List.not_mem_nil, or_false] at hd
  rcases hd with rfl | rfl | rfl <;> exact .int
theorem when_pt : ∀ {n : Nat} {d : PyData}, whenOf n d = true → Pt n d
  | 0, _, h => nomatch h
  | n + 1, d, h => by
    match d, h with
    | .tuple (.str w :: rest), h =>
      have h' : whenBy (whenOf n) w rest = true := h
      unfold whenBy at h'
      have ok : ∀ x : Str, PyData.strOk x = true → x.length ≤ 1000 → (∀ d ∈ rest, Pt n d) → rest.length ≤ 10 → w = x → Pt (n + 1) (.tuple (.str w :: rest)) := fun x h1 h2 h3 h4 e => by
        subst e
        refine .tup (by simp; omega) fun d hd => ?_
        rcases List.mem_cons.mp hd with rfl | hd
        · exact .str h1 h2
        · exact h3 d hd
      by_cases w1 : w = "date"
      · rw [if_pos w1] at h'
        obtain ⟨mm, dd, rfl, _⟩ := dateOf_is h'
        refine ok "date" (by decide +kernel) (by decide +kernel) (fun d hd => ?_) (by simp) w1
        simp only [List.mem_cons, List.not_mem_nil, or_false] at hd
        rcases hd with rfl | rfl <;> exact .int
      by_cases w2 : w = "nth"
      · rw [if_neg w1, if_pos w2] at h'
        obtain ⟨mm, wd, nn, rfl, _⟩ := nthOf_is h'
        refine ok "nth" (by decide +kernel) (by decide +kernel) (fun d hd => ?_) (by simp) w2
        simp only [List.mem_cons, List.not_mem_nil, or_false] at hd
        rcases hd with rfl | rfl | rfl <;> exact .int
      by_cases w3 : w = "shift"
      · rw [if_neg w1, if_neg w2, if_pos w3] at h'
        obtain ⟨a, k, rfl, ha, _⟩ := shiftOf_is h'
        refine ok "shift" (by decide +kernel) (by decide +kernel) (fun d hd => ?_) (by simp) w3
        simp only [List.mem_cons, List.not_mem_nil, or_false] at hd
        rcases hd with rfl | rfl
        · exact when_pt ha
        · exact .int
      by_cases w4 : w = "moved"
      · rw [if_neg w1, if_neg w2, if_neg w3, if_pos w4] at h'
        obtain ⟨a, wd, k, rfl, ha, _⟩ := movedOf_is h'
        refine ok "moved" (by decide +kernel) (by decide +kernel) (fun d hd => ?_) (by simp) w4
        simp only [List.mem_cons, List.not_mem_nil, or_false] at hd
        rcases hd with rfl | rfl | rfl
        · exact when_pt ha
        · exact .int
        · exact .int
      rw [if_neg w1, if_neg w2, if_neg w3, if_neg w4] at h'
      cases h'
theorem two_pt {a b : PyData} {j k m : Nat} (ha : Pt j a) (hb : Pt k b) (h1 : j ≤ m) (h2 : k ≤ m) : Pt (m + 1) (.tuple [a, b]) := by
  refine .tup (by simp) fun d hd => ?_
  simp only [List.mem_cons, List.not_mem_nil, or_false] at hd
  rcases hd with rfl | rfl
  · exact ha.mono h1
  · exact hb.mono h2
theorem datesGo_pt : ∀ {ps : List PyData} {a b c : Int}, datesGo 6 a b c ps = true → ∀ p ∈ ps, ∃ x e, p = .tuple [x, e] ∧ isDate x = true ∧ isPlan 6 e = true
  | [], _, _, _, _, _, z => nomatch z
  | p :: r, a, b, c, e, q, z => by
    rw [datesGo] at e
    split at e
    · rename_i y m k hs
      obtain ⟨y', m', n', pl, rfl, _, h1, h2, _⟩ := dateStep_some hs
      rcases List.mem_cons.mp z with rfl | z
      · exact ⟨_, _, rfl, h1, h2⟩
      · exact datesGo_pt e q z
    · cases e
theorem cal_is {d : PyData} (h : isCalendar d = true) : ∃ ws rs ds, d = .tuple [.str "calendar", .tuple ws, .tuple rs, .tuple ds] ∧ ws.length = 7 ∧ (∀ p ∈ ws, isPlan 6 p = true) ∧ rs.length ≤ 8 ∧ (∀ p ∈ rs, isRule p = true) ∧ ds.length ≤ 8 ∧ datesGo 6 0 0 0 ds = true := by
  unfold isCalendar at h
  split at h
  · rename_i w week rules dates
    simp only [Bool.and_eq_true] at h
    obtain ⟨h1, h2, h3, h4⟩ := h
    obtain rfl : w = .str "calendar" := by
      cases w with
      | str z =>
        have : decide (z = "calendar") = true := h1
        rw [of_decide_eq_true this]
      | _ => cases h1
    unfold isWeek at h2
    split at h2
    · rename_i ws
      unfold isRules at h3
      split at h3
      · rename_i rs
        unfold isDates at h4
        split at h4
        · rename_i ds
          simp only [Bool.and_eq_true, decide_eq_true_eq] at h2 h3 h4
          exact ⟨ws, rs, ds, rfl, by omega, List.all_eq_true.mp h2.2, by omega, List.all_eq_true.mp h3.2, by omega, h4.2⟩
        · cases h4
      · cases h3
    · cases h2
  · cases h
theorem cal_pt {d : PyData} (h : isCalendar d = true) : Pt 7 d := by
  obtain ⟨ws, rs, ds, rfl, h1, h2, h3, h4, h5, h6⟩ := cal_is h
  refine .tup (by simp) fun d hd => ?_
  simp only [List.mem_cons, List.not_mem_nil, or_false] at hd
  rcases hd with rfl | rfl | rfl | rfl
  · exact .str (by decide +kernel) (by decide +kernel)
  · exact (Pt.tup (k := 2) (by omega) fun p hp => plan_pt (h2 p hp) (by decide)).mono (by decide)
  · refine (Pt.tup (k := 5) (by omega) fun p hp => ?_).mono (by decide)
    obtain ⟨w, e, rfl, hw, he⟩ := rule_is (h4 p hp)
    exact two_pt (when_pt hw) (plan_pt he (by decide)) (by decide) (by decide)
  · refine (Pt.tup (k := 3) (by omega) fun p hp => ?_).mono (by decide)
    obtain ⟨x, e, rfl, hx, he⟩ := datesGo_pt h6 p hp
    exact two_pt (date_pt hx) (plan_pt he (by decide)) (by decide) (by decide)
/-! plans made pair by pair -/
def planEnd : Int → Str → List PyData → Option (Int × Str)
  | h, m, [] => some (h, m)
  | h, m, p :: r => match planStep h m p with
    | some (i, s) => planEnd i s r
    | none => none
theorem planGo_end : ∀ {l : List PyData} {h : Int} {m : Str}, planGo h m l = (planEnd h m l).isSome
  | [], _, _ => rfl
  | p :: r, h, m => by
    rw [planGo, planEnd]
    cases planStep h m p with
    | none => rfl
    | some q => exact planGo_end
theorem planEnd_app : ∀ {l : List PyData} {h i : Int} {m w : Str} {p : PyData}, planEnd h m l = some (i, w) → planEnd h m (l ++ [p]) = planStep i w p
  | [], h, i, m, w, p, e => by
    cases e
    show planEnd h m [p] = _
    rw [planEnd]
    cases planStep h m p with
    | none => rfl
    | some q => obtain ⟨a, b⟩ := q; rfl
  | a :: l, h, i, m, w, p, e => by
    rw [planEnd] at e
    rw [List.cons_append, planEnd]
    split at e
    · exact planEnd_app e
    · cases e
theorem planStep_yes {h i : Int} {m w : Str} (h1 : h < i) (h2 : i ≤ 23) (hn : isName (.str w) = true) (hm : w ≠ m) : planStep h m (.tuple [.int i, .str w]) = some (i, w) := by
  show (if (decide (h + 1 ≤ i) && decide (i ≤ 23)) && (isName (.str w) && !decide (w = m)) then some (i, w) else none) = _
  rw [decide_eq_true (by omega : h + 1 ≤ i), decide_eq_true h2, hn, decide_eq_false hm]
  rfl
theorem len_sub : ∀ {out ns : List Int}, out.Nodup → (∀ k ∈ out, k ∈ ns) → out.length ≤ ns.length
  | [], _, _, _ => Nat.zero_le _
  | a :: out, ns, nd, h => by
    have ha := h a List.mem_cons_self
    rw [List.nodup_cons] at nd
    have l := len_sub (out := out) (ns := ns.erase a) nd.2 fun k hk => (List.mem_erase_of_ne (fun z => by subst z; exact nd.1 hk)).mpr (h k (List.mem_cons_of_mem _ hk))
    rw [List.length_erase_of_mem ha] at l
    have : 0 < ns.length := List.length_pos_of_mem ha
    rw [List.length_cons]
    omega
theorem asc_nodup : ∀ {out : List Int}, out.Pairwise (· < ·) → out.Nodup := fun h => h.imp fun z => by omega
end K81

/-! part R2 -/
namespace K81
open PySem PySem.Spec PyProof.Rows L2 Evl Lk LamX Mk
section
variable {K : PySem.W.Frag} {n : Nat} {Q : O → List O → Nat → Prop} {X : Addr → List O → Nat → Prop}
def fourModes : List PyData := [.str "day", .str "night", .str "feast", .str "x"]
theorem four_names : ∀ x ∈ fourModes, ∃ w, x = .str w ∧ isName (.str w) = true := by
  intro x hx
  unfold fourModes at hx
  simp only [List.mem_cons, List.not_mem_nil, or_false] at hx
  rcases hx with rfl | rfl | rfl | rfl <;> exact ⟨_, rfl, by decide +kernel⟩
theorem name_ok {w : Str} (h : isName (.str w) = true) : PyData.strOk w = true := by
  have := name_pt (k := 0) h
  cases this with
  | str h _ => exact h
theorem atI_end {α : Type} (xs : List α) (v : α) : atI (xs ++ [v]) (((xs ++ [v]).length : Int) - 1) = some v := by
  have e : (((xs ++ [v]).length : Int) - 1) = ((xs.length : Nat) : Int) := by simp
  rw [e]
  exact atI_nat (by simp)
theorem first_app {l r : List PyData} (h : l ≠ []) : firstHour (l ++ r) = firstHour l := by
  cases l with
  | nil => exact (h rfl).elim
  | cons a l =>
    cases a with
    | tuple xs =>
      cases xs with
      | nil => rfl
      | cons x xs => cases x <;> rfl
    | _ => rfl
theorem isPlan_of {l : List PyData} {h : Int} {m : Str} (h1 : planEnd (-1) "" l = some (h, m)) (h2 : firstHour l = true) (h3 : l.length ≤ 6) : isPlan 6 (.tuple l) = true := by
  show (decide (1 ≤ (l.length : Int)) && decide ((l.length : Int) ≤ 6) && planGo (-1) "" l && firstHour l) = true
  have : 1 ≤ l.length := by
    cases l with
    | nil => cases h2
    | cons _ _ => simp
  rw [planGo_end, h1, h2, decide_eq_true (by omega), decide_eq_true (by omega)]
  rfl
theorem k__law_plan {many : Int} (m1 : 1 ≤ many) (m4 : many ≤ 4) (hn : n + 20 < far) (h : ∀ d k, isPlan 6 d = true → n ≤ k → k ≤ n + 20 → Q (.dat d) [.st, .lst fourModes, .dat (.int many)] k) : d__law_plan K [.st, .lst fourModes, .dat (.int many)] n Q X := by
  have hlog : many.natAbs.log2 < 9000 := log2_of (k := 20) (by omega) (by decide) (by decide)
  unfold d__law_plan b__law_plan
  wtm_at "in"
  wtm_at "go"
  refine k_draw (by omega) hlog (by omega) fun a a0 a1 => ?_
  wtm_at "bk"
  wtm_at "go"
  refine x_lcI (fun r acc s => ∃ k, s = ⟨[some .st, some (.lst fourModes), some (.dat (.int many)), none, none, none, none, none], k, [0, 1]⟩ ∧ (∃ ns : List Int, acc = ns.map PyData.int ∧ (∀ i ∈ ns, 1 ≤ i ∧ i ≤ 23) ∧ ns.length + r.length ≤ 3) ∧ n + 1 ≤ k ∧ k + r.length ≤ n + 4) ?_ ?_ ⟨n + 1, rfl, ⟨[], rfl, by simp, by simp [Mk.intsFrom]; omega⟩, by omega, by simp [Mk.intsFrom]; omega⟩
  · rintro d r acc s A B ⟨k, rfl, ⟨ns, rfl, hb, hl⟩, k1, k2⟩ hA hB
    rw [List.length_cons] at hl k2
    wtm_at "go"
    refine k_draw (by omega) (by decide +kernel) (by omega) fun x x0 x1 => ?_
    wtm_at "bk"
    wtm_at "go"
    refine hA _ _ (by simp; omega) ⟨k + 1, rfl, ⟨ns ++ [1 + x], by simp, fun i hi => ?_, by simp; omega⟩, by omega, by omega⟩
    rcases List.mem_append.mp hi with hi | hi
    · exact hb i hi
    · rw [List.mem_singleton.mp hi]
      omega
  rintro acc s ⟨k, rfl, ⟨ns, rfl, hb, hl⟩, k1, k2⟩
  rw [List.length_nil] at hl k2
  wtm_at "go"
  refine x_fSortI (by omega) fun out ho hm => ?_
  have lo : out.length ≤ 3 := by
    have := len_sub (asc_nodup ho) fun k hk => (hm k).mp hk
    omega
  have hb' : ∀ i ∈ out, 1 ≤ i ∧ i ≤ 23 := fun i hi => hb i ((hm i).mp hi)
  clear hm hb hl
  wtm_at "go"
  refine x_fAddL (by simp; omega) ?_
  wtm_at "go"
  refine x_forI (fun r s => ∃ k found u6 u7, s = ⟨[some .st, some (.lst fourModes), some (.dat (.int many)), some (.lst (out.map PyData.int)), some (.lst found), none, u6, u7], k, [0, 1]⟩ ∧ n ≤ k ∧ k + r.length ≤ n + 8 ∧ ((found = [] ∧ r = .int 0 :: out.map PyData.int) ∨ ∃ (xs : List PyData) (hh : Int) (m : Str) (rs : List Int), found = xs ++ [.tuple [.int hh, .str m]] ∧ planEnd (-1) "" found = some (hh, m) ∧ firstHour found = true ∧ r = rs.map PyData.int ∧ (∀ i ∈ rs, hh < i ∧ i ≤ 23) ∧ rs.Pairwise (· < ·) ∧ found.length + rs.length ≤ 4 ∧ (∀ d ∈ found, Pt 1 d))) ?_ ?_ ⟨k, [], none, none, rfl, by omega, by simp; omega, .inl ⟨rfl, rfl⟩⟩
  · rintro d r s N ⟨k, found, u6, u7, rfl, k1, k2, hf⟩ hN
    rw [List.length_cons] at k2
    rcases hf with ⟨rfl, hr⟩ | ⟨xs, hh, m, rs, rfl, he, h1, hr, hi, hp, hl, hpt⟩
    · obtain ⟨rfl, rfl⟩ := List.cons.inj hr
      wtm_at "go"
      refine k_pick_l (by decide) (by decide) (by omega) fun x hx => ?_
      wtm_at "bk"
      obtain ⟨w, rfl, hw⟩ := four_names x hx
      wtm_at "go"
      refine x_append (by simp) ?_
      wtm_at "go"
      have hst : planStep (-1) "" (.tuple [.int 0, .str w]) = some (0, w) := planStep_yes (by decide) (by decide) hw fun z => by
        subst z
        revert hw
        decide +kernel
      refine hN _ ⟨k + 1, [.tuple [.int 0, .str w]], _, _, rfl, by omega, by omega, .inr ⟨[], 0, w, out, rfl, ?_, rfl, rfl, fun i hi => ⟨by have := hb' i hi; omega, (hb' i hi).2⟩, ho, by simp; omega, ?_⟩⟩
      · rw [planEnd, hst]
        rfl
      · intro d hd
        rw [List.mem_singleton.mp hd]
        exact pair_pt hw
    · obtain ⟨i, rs, rfl⟩ : ∃ i rs', rs = i :: rs' := by
        cases rs with
        | nil => cases hr
        | cons i rs => exact ⟨i, rs, rfl⟩
      rw [List.map_cons] at hr
      obtain ⟨rfl, rfl⟩ := List.cons.inj hr
      have hsh : SeqAt.shaped (.list (xs ++ [.tuple [.int hh, .str m]])) = true := shaped_list hpt (by decide)
      have hne : eqd (.list (xs ++ [.tuple [.int hh, .str m]])) (.list []) = false := by
        unfold eqd
        cases xs <;> simp [PyData.eqv, PyData.eqvAll]
      have hat := atI_end xs (PyData.tuple [.int hh, .str m])
      have hmk : PyData.strOk m = true := by
        have := hpt (.tuple [.int hh, .str m]) (by simp)
        cases this with
        | tup _ z =>
          have := z (.str m) (by simp)
          cases this with
          | str h _ => exact h
      obtain ⟨hi1, hi2⟩ := hi i List.mem_cons_self
      rw [List.pairwise_cons] at hp
      wtm_at "go"
      refine k_pick_l (by decide) (by decide) (by omega) fun x hx => ?_
      wtm_at "bk"
      obtain ⟨w, rfl, hw⟩ := four_names x hx
      have hwk := name_ok hw
      cases hmw : decide (m = w) with
      | true =>
        wtm_at "go"
        refine hN _ ⟨k + 1, _, _, _, rfl, by omega, by omega, .inr ⟨xs, hh, m, rs, rfl, he, h1, rfl, fun j hj => ⟨by have := (hi j (List.mem_cons_of_mem _ hj)).1; omega, (hi j (List.mem_cons_of_mem _ hj)).2⟩, hp.2, by simp at hl ⊢; omega, hpt⟩⟩
      | false =>
        have hne2 : m ≠ w := of_decide_eq_false hmw
        wtm_at "go"
        refine x_append (by simp at hl ⊢; omega) ?_
        wtm_at "go"
        refine hN _ ⟨k + 1, _, _, _, rfl, by omega, by omega, .inr ⟨xs ++ [.tuple [.int hh, .str m]], i, w, rs, rfl, ?_, ?_, rfl, fun j hj => ⟨hp.1 j hj, (hi j (List.mem_cons_of_mem _ hj)).2⟩, hp.2, by simp at hl ⊢; omega, fun d hd => ?_⟩⟩
        · rw [planEnd_app he]
          exact planStep_yes hi1 hi2 hw fun z => hne2 z.symm
        · rw [first_app (by simp)]
          exact h1
        · rcases List.mem_append.mp hd with hd | hd
          · exact hpt d hd
          · rw [List.mem_singleton.mp hd]
            exact pair_pt hw
  · rintro s ⟨k, found, u6, u7, rfl, k1, k2, hf⟩
    rcases hf with ⟨_, hr⟩ | ⟨xs, hh, m, rs, rfl, he, h1, hr, hi, hp, hl, hpt⟩
    · cases hr
    · wtm_at "go"
      exact h _ k (isPlan_of he h1 (by omega)) (by omega) (by rw [List.length_nil] at k2; omega)
end
end K81

/-! part Q13 -/
namespace K81
open PySem PySem.Spec PyProof.Rows L2 Evl Lk LamX Mk
section
variable {K : PySem.W.Frag} {n : Nat} {Q : O → List O → Nat → Prop} {X : Addr → List O → Nat → Prop}
local macro_rules | `(tactic| wtm_at "k") => `(tactic| ((with_reducible refine' k__law_month ?a ?b ?h); (case a => omega); (case b => omega)))
theorem whole_of {i lo hi : Int} (h1 : lo ≤ i) (h2 : i ≤ hi) : isWhole (.int i) lo hi = true := by
  show (decide (lo ≤ i) && decide (i ≤ hi)) = true
  rw [decide_eq_true h1, decide_eq_true h2]; rfl
theorem ne0_of {i : Int} (h : i ≠ 0) : ne0 (.int i) = true := by
  show (!decide (i = 0)) = true
  rw [decide_eq_false h]; rfl
theorem when_shift {m : Nat} {d : PyData} {k : Int} (h : whenOf m d = true) (h1 : -40 ≤ k) (h2 : k ≤ 40) (h0 : k ≠ 0) : whenOf (m + 1) (.tuple [.str "shift", d, .int k]) = true := by
  show whenBy (whenOf m) "shift" [d, .int k] = true
  unfold whenBy
  rw [if_neg (by decide), if_neg (by decide), if_pos rfl]
  show (whenOf m d && (isWhole (.int k) (-40) 40 && ne0 (.int k))) = true
  rw [h, whole_of h1 h2, ne0_of h0]; rfl
theorem when_moved {m : Nat} {d : PyData} {w k : Int} (h : whenOf m d = true) (w0 : 0 ≤ w) (w6 : w ≤ 6) (h1 : -6 ≤ k) (h2 : k ≤ 6) (h0 : k ≠ 0) : whenOf (m + 1) (.tuple [.str "moved", d, .int w, .int k]) = true := by
  show whenBy (whenOf m) "moved" [d, .int w, .int k] = true
  unfold whenBy
  rw [if_neg (by decide), if_neg (by decide), if_neg (by decide), if_pos rfl]
  show (whenOf m d && isWhole (.int w) 0 6 && (isWhole (.int k) (-6) 6 && ne0 (.int k))) = true
  rw [h, whole_of h1 h2, ne0_of h0, whole_of w0 w6]; rfl
theorem when_nth {m : Nat} {y w k : Int} (y1 : 1 ≤ y) (y2 : y ≤ 12) (w0 : 0 ≤ w) (w6 : w ≤ 6) (h1 : -1 ≤ k) (h2 : k ≤ 5) (h0 : k ≠ 0) : whenOf (m + 1) (.tuple [.str "nth", .int y, .int w, .int k]) = true := by
  show whenBy (whenOf m) "nth" [.int y, .int w, .int k] = true
  unfold whenBy
  rw [if_neg (by decide), if_pos rfl]
  show (isWhole (.int y) 1 12 && isWhole (.int w) 0 6 && (isWhole (.int k) (-1) 5 && ne0 (.int k))) = true
  rw [whole_of y1 y2, whole_of h1 h2, ne0_of h0, whole_of w0 w6]; rfl
theorem when_date {m : Nat} {y k : Int} (y1 : 1 ≤ y) (y2 : y ≤ 12) (h1 : 1 ≤ k) (h2 : k ≤ monthDays 2000 y) : whenOf (m + 1) (.tuple [.str "date", .int y, .int k]) = true := by
  show whenBy (whenOf m) "date" [.int y, .int k] = true
  unfold whenBy
  rw [if_pos rfl]
  show ((decide (1 ≤ y) && decide (y ≤ 12)) && isWhole (.int k) 1 (monthDays 2000 y)) = true
  rw [decide_eq_true y1, decide_eq_true y2, whole_of h1 h2]; rfl
def DayRule (K : PySem.W.Frag) (m : Nat) : Prop := ∀ {n : Nat} {Q : O → List O → Nat → Prop} {X : Addr → List O → Nat → Prop}, n + 10 * (m + 1) < far → (∀ d k, whenOf (m + 1) d = true → n ≤ k → k ≤ n + 10 * (m + 1) → Q (.dat d) [.st, .dat (.int ((m + 1 : Nat) : Int))] k) → d__law_day_rule K (m + 2) [.st, .dat (.int ((m + 1 : Nat) : Int))] n Q X
theorem day_step {m : Nat} (ih : ∀ j, m = j + 1 → DayRule K j) : DayRule K m := by
  intro n Q X hn h
  unfold d__law_day_rule b__law_day_rule
  wtm_at "in"
  wtm_at "go"
  refine k_draw (by omega) (by decide +kernel) (by omega) fun a a0 a1 => ?_
  wtm_at "bk"
  wtm_at "go"
  refine k_draw (by omega) (by decide +kernel) (by omega) fun b b0 b1 => ?_
  wtm_at "bk"
  have nth : ∀ (x z : PyData) (y : Int), x ∈ [PyData.int (1 + b), PyData.int 2] → 0 ≤ y → y < 7 → z ∈ [PyData.int 1, .int (-1), .int 5, .int 2, .int 4] → whenOf (m + 1) (.tuple [.str "nth", x, .int y, z]) = true := by
    intro x z y hx y0 y1 hz
    simp only [List.mem_cons, List.not_mem_nil, or_false] at hx hz
    rcases hx with rfl | rfl <;> rcases hz with rfl | rfl | rfl | rfl | rfl <;> exact when_nth (by omega) (by omega) y0 (by omega) (by decide) (by decide) (by decide)
  have month : ∀ x : PyData, x ∈ [PyData.int (1 + b), .int 12, .int 1, .int 2] → ∃ y, x = .int y ∧ 1 ≤ y ∧ y ≤ 12 := by
    intro x hx
    simp only [List.mem_cons, List.not_mem_nil, or_false] at hx
    rcases hx with rfl | rfl | rfl | rfl <;> exact ⟨_, rfl, by omega, by omega⟩
  have date : ∀ (y c : Int) (z : PyData), 1 ≤ y → y ≤ 12 → 0 ≤ c → c < 28 → z ∈ [PyData.int 1, .int (monthDays 2000 y), .int (1 + c)] → whenOf (m + 1) (.tuple [.str "date", .int y, z]) = true := by
    intro y c z y1 y2 c0 c1 hz
    have := monthDays_bd (y := 2000) y1 y2
    simp only [List.mem_cons, List.not_mem_nil, or_false] at hz
    rcases hz with rfl | rfl | rfl <;> exact when_date y1 y2 (by omega) (by omega)
  wtm_at "all"
  · rename_i c1 c2
    obtain ⟨j, rfl⟩ : ∃ j, m = j + 1 := ⟨m - 1, by have := of_decide_eq_true c1; omega⟩
    refine k_pick_l (by simp) (by simp) (by omega) fun x hx => ?_
    wtm_at "bk"
    obtain ⟨k, rfl, hk1, hk2, hk0⟩ : ∃ k : Int, x = .int k ∧ -40 ≤ k ∧ k ≤ 40 ∧ k ≠ 0 := by
      simp only [List.mem_cons, List.not_mem_nil, or_false] at hx
      rcases hx with rfl | rfl | rfl | rfl | rfl | rfl | rfl | rfl <;> exact ⟨_, rfl, by decide, by decide, by decide⟩
    wtm_at "go"
    rw [show (((j + 1 + 1 : Nat) : Int) - 1) = ((j + 1 : Nat) : Int) by omega]
    refine ih j rfl (by omega) fun d q hw h1 h2 => ?_
    wtm_at "bk"
    wtm_at "go"
    exact h _ _ (when_shift hw hk1 hk2 hk0) (by omega) (by omega)
  · rename_i c1 c2 c3
    obtain ⟨j, rfl⟩ : ∃ j, m = j + 1 := ⟨m - 1, by have := of_decide_eq_true c1; omega⟩
    rw [show (((j + 1 + 1 : Nat) : Int) - 1) = ((j + 1 : Nat) : Int) by omega]
    refine ih j rfl (by omega) fun d q hw h1 h2 => ?_
    wtm_at "bk"
    wtm_at "go"
    refine k_draw (by omega) (by decide +kernel) (by omega) fun e e0 e1 => ?_
    wtm_at "bk"
    wtm_at "go"
    refine k_pick_l (by simp) (by simp) (by omega) fun x hx => ?_
    wtm_at "bk"
    obtain ⟨k, rfl, hk1, hk2, hk0⟩ : ∃ k : Int, x = .int k ∧ -6 ≤ k ∧ k ≤ 6 ∧ k ≠ 0 := by
      simp only [List.mem_cons, List.not_mem_nil, or_false] at hx
      rcases hx with rfl | rfl | rfl | rfl | rfl | rfl <;> exact ⟨_, rfl, by decide, by decide, by decide⟩
    wtm_at "go"
    exact h _ _ (when_moved hw e0 (by omega) hk1 hk2 hk0) (by omega) (by omega)
  · refine k_pick_l (by simp) (by simp) (by omega) fun x hx => ?_
    wtm_at "bk"
    wtm_at "go"
    refine k_draw (by omega) (by decide +kernel) (by omega) fun e e0 e1 => ?_
    wtm_at "bk"
    wtm_at "go"
    refine k_pick_l (by simp) (by simp) (by omega) fun z hz => ?_
    wtm_at "bk"
    wtm_at "go"
    exact h _ _ (nth x z e hx e0 e1 hz) (by omega) (by omega)
  · refine k_pick_l (by simp) (by simp) (by omega) fun x hx => ?_
    wtm_at "bk"
    obtain ⟨y, rfl, y1, y2⟩ := month x hx
    wtm_at "go"
    refine k_draw (by omega) (by decide +kernel) (by omega) fun e e0 e1 => ?_
    wtm_at "bk"
    wtm_at "go"
    refine k_pick_l (by simp) (by simp) (by omega) fun z hz => ?_
    wtm_at "bk"
    wtm_at "go"
    exact h _ _ (date y e z y1 y2 e0 e1 hz) (by omega) (by omega)
  · refine k_pick_l (by simp) (by simp) (by omega) fun x hx => ?_
    wtm_at "bk"
    wtm_at "go"
    refine k_draw (by omega) (by decide +kernel) (by omega) fun e e0 e1 => ?_
    wtm_at "bk"
    wtm_at "go"
    refine k_pick_l (by simp) (by simp) (by omega) fun z hz => ?_
    wtm_at "bk"
    wtm_at "go"
    exact h _ _ (nth x z e hx e0 e1 hz) (by omega) (by omega)
  · refine k_pick_l (by simp) (by simp) (by omega) fun x hx => ?_
    wtm_at "bk"
    obtain ⟨y, rfl, y1, y2⟩ := month x hx
    wtm_at "go"
    refine k_draw (by omega) (by decide +kernel) (by omega) fun e e0 e1 => ?_
    wtm_at "bk"
    wtm_at "go"
    refine k_pick_l (by simp) (by simp) (by omega) fun z hz => ?_
    wtm_at "bk"
    wtm_at "go"
    exact h _ _ (date y e z y1 y2 e0 e1 hz) (by omega) (by omega)
theorem k__law_day_rule : ∀ m : Nat, DayRule K m
  | 0 => day_step fun j e => absurd e (by omega)
  | m + 1 => day_step fun j e => by
    obtain rfl : m = j := by omega
    exact k__law_day_rule m
end
end K81

/-! part R3 -/
namespace K81
open PySem PySem.Spec PyProof.Rows L2 Evl Lk LamX Mk
/-! the table of a year, the law's dict of its special days -/
theorem diy_first (y : Int) : dayInYear y 1 1 = 0 := by
  rw [dayInYear_eq, (sums y).1]; rfl
theorem number_first (y : Int) : numberAt y 1 1 = yearBegin y := by
  unfold numberAt
  rw [diy_first, Int.add_zero]
theorem daysOf_eq (y : Int) : daysOf y = 365 + lp y := by
  unfold daysOf lp
  split <;> rfl
theorem next_year (y : Int) : yearBegin (y + 1) = yearBegin y + daysOf y := by
  rw [yb_succ, daysOf_eq]
  omega
theorem daysOf_bd (y : Int) : 365 ≤ daysOf y ∧ daysOf y ≤ 366 := by
  unfold daysOf
  split <;> decide
theorem ixN_of {len : Nat} {j : Int} (h0 : 0 ≤ j) (h1 : j < len) : ixN len j = some j.toNat := by
  unfold ixN
  rw [if_pos h0, if_pos h1]
theorem atI_of {ds : List PyData} {j : Int} (h0 : 0 ≤ j) (h1 : j < ds.length) : atI ds j = some (ds.getD j.toNat .none) := by
  obtain ⟨k, rfl⟩ : ∃ k : Nat, j = (k : Int) := ⟨j.toNat, by omega⟩
  have hk : k < ds.length := by omega
  refine atI_nat ?_
  rw [Int.toNat_natCast, List.getD_eq_getElem?_getD, List.getElem?_eq_getElem hk]
  rfl
def spSet (lo hi : Int) (kvs : List (Key × PyData)) (o : Option Int) (p : PyData) : List (Key × PyData) := match o with
  | some d => if lo ≤ d ∧ d < hi then putD kvs (.inl d) p else kvs
  | none => kvs
def spRule (y : Int) (kvs : List (Key × PyData)) : PyData → List (Key × PyData)
  | .tuple [w, p] => [y - 1, y, y + 1].foldl (fun a one => spSet (yearBegin y) (yearBegin (y + 1)) a (dayOf one 4 w) p) kvs
  | _ => kvs
def special (y : Int) (rs : List PyData) : List (Key × PyData) := rs.reverse.foldl (spRule y) []
theorem getK_cons {a k : Key} {v : PyData} {kvs : List (Key × PyData)} : getK ((a, v) :: kvs) k = if a = k then some v else getK kvs k := by
  unfold getK
  by_cases h : a = k
  · rw [if_pos h, List.find?_cons_of_pos (by simpa using h)]
    rfl
  · rw [if_neg h, List.find?_cons_of_neg (by simpa using h)]
theorem getK_app {k : Key} : ∀ {a b : List (Key × PyData)}, getK (a ++ b) k = (getK a k).or (getK b k)
  | [], b => by
    show getK b k = _
    rfl
  | (x, v) :: a, b => by
    rw [List.cons_append, getK_cons, getK_cons]
    split
    · rfl
    · exact getK_app
theorem getK_none {k : Key} : ∀ {kvs : List (Key × PyData)}, kvs.any (fun kv => decide (kv.1 = k)) = false → getK kvs k = none
  | [], _ => rfl
  | (x, v) :: a, h => by
    rw [List.any_cons, Bool.or_eq_false_iff] at h
    rw [getK_cons, if_neg (of_decide_eq_false h.1)]
    exact getK_none h.2
theorem getK_map {k j : Key} {v : PyData} : ∀ {kvs : List (Key × PyData)}, kvs.any (fun kv => decide (kv.1 = k)) = true → getK (kvs.map fun kv => if kv.1 = k then (kv.1, v) else kv) j = if k = j then some v else getK kvs j
  | [], h => by cases h
  | (x, u) :: a, h => by
    rw [List.map_cons]
    by_cases hx : x = k
    · subst hx
      rw [if_pos rfl, getK_cons, getK_cons]
      by_cases hj : x = j
      · rw [if_pos hj, if_pos hj]
      · rw [if_neg hj, if_neg hj, if_neg hj]
        by_cases h2 : a.any (fun kv => decide (kv.1 = x)) = true
        · rw [getK_map h2, if_neg hj]
        · have e : a.map (fun kv => if kv.1 = x then (kv.1, v) else kv) = a := by
            have h2 : a.any (fun kv => decide (kv.1 = x)) = false := Bool.eq_false_iff.mpr h2
            refine (List.map_congr_left fun kv hkv => ?_).trans (List.map_id a)
            rw [if_neg]
            · rfl
            · intro z
              have := List.any_eq_false.mp h2 kv hkv
              exact this (decide_eq_true z)
          rw [e]
    · rw [if_neg hx, getK_cons, getK_cons]
      rw [List.any_cons, Bool.or_eq_true] at h
      have h2 : a.any (fun kv => decide (kv.1 = k)) = true := h.resolve_left fun z => hx (of_decide_eq_true z)
      rw [getK_map h2]
      by_cases hxj : x = j
      · rw [if_pos hxj, if_pos hxj, if_neg fun z => hx (hxj.trans z.symm)]
      · rw [if_neg hxj, if_neg hxj]
theorem getK_put {kvs : List (Key × PyData)} {k j : Key} {v : PyData} : getK (putD kvs k v) j = if k = j then some v else getK kvs j := by
  unfold putD
  by_cases h : kvs.any (fun kv => decide (kv.1 = k)) = true
  · rw [if_pos h]
    exact getK_map h
  · rw [if_neg h, getK_app]
    have h : kvs.any (fun kv => decide (kv.1 = k)) = false := Bool.eq_false_iff.mpr h
    by_cases hj : k = j
    · subst hj
      rw [getK_none h, if_pos rfl, getK_cons, if_pos rfl]
      rfl
    · rw [if_neg hj, getK_cons, if_neg hj]
      cases getK kvs j <;> rfl
theorem putD_len {kvs : List (Key × PyData)} {k : Key} {v : PyData} : (putD kvs k v).length ≤ kvs.length + 1 := by
  unfold putD
  split
  · rw [List.length_map]; omega
  · rw [List.length_append]; simp
/-- the dict and the table go together -/
def Same (y : Int) (ws : List PyData) (kvs : List (Key × PyData)) (found : List PyData) : Prop := (found.length : Int) = daysOf y ∧ ∀ N : Int, yearBegin y ≤ N → N < yearBegin y + daysOf y → (getK kvs (.inl N)).getD (ws.getD (N % 7).toNat .none) = found.getD (N - yearBegin y).toNat .none
theorem same_set {y : Int} {ws : List PyData} {kvs : List (Key × PyData)} {found : List PyData} (s : Same y ws kvs found) (o : Option Int) (p : PyData) : Same y ws (spSet (yearBegin y) (yearBegin (y + 1)) kvs o p) (tableSet (yearBegin y) found o p) := by
  cases o with
  | none => exact s
  | some d =>
    obtain ⟨hl, h⟩ := s
    unfold spSet tableSet
    simp only
    rw [next_year]
    by_cases c : yearBegin y ≤ d ∧ d < yearBegin y + daysOf y
    · rw [if_pos c, if_pos (by omega)]
      refine ⟨by rw [List.length_set]; exact hl, fun N n1 n2 => ?_⟩
      rw [getK_put, List.getD_eq_getElem?_getD, List.getD_eq_getElem?_getD, List.getElem?_set]
      by_cases e : d = N
      · subst e
        rw [if_pos rfl, if_pos rfl, if_pos (by omega)]
        rfl
      · rw [if_neg fun z => e (Sum.inl.inj z), if_neg (by omega), ← List.getD_eq_getElem?_getD, ← List.getD_eq_getElem?_getD]
        exact h N n1 n2
    · rw [if_neg c, if_neg (by omega)]
      exact ⟨hl, h⟩
theorem same_rule {y : Int} {ws : List PyData} {kvs : List (Key × PyData)} {found : List PyData} (s : Same y ws kvs found) (d : PyData) : Same y ws (spRule y kvs d) (tableRule y found d) := by
  unfold spRule tableRule
  split
  · rename_i w p
    simp only [List.foldl_cons, List.foldl_nil]
    exact same_set (same_set (same_set s _ _) _ _) _ _
  · rename_i hne
    first
      | exact s
      | (split
         · exact absurd rfl (hne _ _)
         · exact s)
theorem same_all {y : Int} {ws : List PyData} : ∀ {rs : List PyData} {kvs : List (Key × PyData)} {found : List PyData}, Same y ws kvs found → Same y ws (rs.foldl (spRule y) kvs) (rs.foldl (tableRule y) found)
  | [], _, _, s => s
  | d :: rs, _, _, s => by
    rw [List.foldl_cons, List.foldl_cons]
    exact same_all (same_rule s d)
theorem same_first (y : Int) (ws : List PyData) : Same y ws [] (tableFirst y ws) := by
  have hd := daysOf_bd y
  unfold tableFirst
  refine ⟨by rw [List.length_map, List.length_range]; omega, fun N n1 n2 => ?_⟩
  rw [List.getD_eq_getElem?_getD (l := List.map _ _), List.getElem?_map, List.getElem?_range (by omega)]
  show ws.getD (N % 7).toNat .none = ws.getD ((yearBegin y + ((N - yearBegin y).toNat : Int)) % 7).toNat .none
  rw [show yearBegin y + ((N - yearBegin y).toNat : Int) = N by omega]
theorem same_special (y : Int) (ws rs : List PyData) : Same y ws (special y rs) (yearTable y ws rs) := same_all (same_first y ws)
theorem table_len (y : Int) (ws rs : List PyData) : ((yearTable y ws rs).length : Int) = daysOf y := (same_special y ws rs).1
def datedPlan (t : PyData) : List PyData → Option PyData
  | [] => none
  | .tuple [x, e] :: r => if eqd x t = true then some e else datedPlan t r
  | _ :: r => datedPlan t r
def planOn (ws rs ds : List PyData) (y m k : Int) : PyData := (datedPlan (.tuple [.int y, .int m, .int k]) ds).getD ((yearTable y ws rs).getD (numberAt y m k - yearBegin y).toNat .none)
section
variable {K : PySem.W.Frag} {n : Nat} {Q : O → List O → Nat → Prop} {X : Addr → List O → Nat → Prop}
local macro_rules | `(tactic| wtm_at "k") => `(tactic| first
  | (with_reducible refine k_is_leap ?_)
  | (with_reducible refine k_year_begin ?_)
  | ((with_reducible refine' k_number_at ?a ?b ?h); (case a => omega); (case b => omega))
  | (with_reducible refine k_days_of ?_)
  | ((with_reducible refine' k__law_number ?a ?b ?h); (case a => omega); (case b => omega))
  | ((with_reducible refine' k__law_month ?a ?b ?h); (case a => omega); (case b => omega)))
theorem k_year_table {a da : PyData} {ws rs : List PyData} {y : Int} (hw : ws.length = 7) (hr : ∀ p ∈ rs, isRule p = true) (h : Q (.dat (.list (yearTable y ws rs))) [.dat (.tuple [a, .tuple ws, .tuple rs, da]), .dat (.int y)] n) : d_year_table K [.dat (.tuple [a, .tuple ws, .tuple rs, da]), .dat (.int y)] n Q X := by
  have hd := daysOf_bd y
  unfold d_year_table b_year_table
  wtm_at "in"
  wtm_at "go"
  refine x_lcA (l := List.range (daysOf y).toNat) (fun i : Nat => PyData.int (0 + (i : Int))) (fun i : Nat => ws.getD ((yearBegin y + (i : Int)) % 7).toNat .none) (by rw [List.length_range]; omega) (fun i hi A hA => ?_) ?_
  · rw [Int.zero_add]
    have hat : atI ws ((yearBegin y + (i : Int)) % 7) = some (ws.getD ((yearBegin y + (i : Int)) % 7).toNat .none) := atI_of (by omega) (by omega)
    wtm_at "go"
    exact hA
  rw [show (List.range (daysOf y).toNat).map (fun i : Nat => ws.getD ((yearBegin y + (i : Int)) % 7).toNat .none) = tableFirst y ws from rfl]
  wtm_at "go"
  refine x_forI (fun r s => ∃ u5 u6 u7 u8 found, s = ⟨[some (.dat (.tuple [a, .tuple ws, .tuple rs, da])), some (.dat (.int y)), some (.dat (.int (yearBegin y))), some (.lst found), none, u5, u6, u7, u8], n, []⟩ ∧ (∀ p ∈ r, isRule p = true) ∧ r.foldl (tableRule y) found = yearTable y ws rs) ?_ ?_ ⟨none, none, none, none, tableFirst y ws, rfl, fun p hp => hr p (List.mem_reverse.mp hp), rfl⟩
  · rintro p r s N ⟨u5, u6, u7, u8, found, rfl, hp, inv⟩ hN
    obtain ⟨w, e, rfl, hw4, he⟩ := rule_is (hp p List.mem_cons_self)
    have tw := (when_pt hw4).tame
    rw [List.foldl_cons] at inv
    wtm_at "go"
    refine x_forI (fun q s => ∃ u7 u8 f os, s = ⟨[some (.dat (.tuple [a, .tuple ws, .tuple rs, da])), some (.dat (.int y)), some (.dat (.int (yearBegin y))), some (.lst f), none, some (.dat w), some (.dat e), u7, u8], n, []⟩ ∧ q = os.map PyData.int ∧ os.foldl (fun a one => tableSet (yearBegin y) a (dayOf one 4 w) e) f = tableRule y found (.tuple [w, e])) ?_ ?_ ⟨u7, u8, found, [y - 1, y, y + 1], rfl, rfl, rfl⟩
    · rintro d q s M ⟨u7, u8, f, os, rfl, hq, inv2⟩ hM
      obtain ⟨one, os, rfl⟩ : ∃ i rs', os = i :: rs' := by
        cases os with
        | nil => cases hq
        | cons i rs => exact ⟨i, rs, rfl⟩
      rw [List.map_cons] at hq
      obtain ⟨rfl, rfl⟩ := List.cons.inj hq
      rw [List.foldl_cons] at inv2
      wtm_at "go"
      refine k_day_of 4 tw hw4 ?_
      cases hday : dayOf one 4 w with
      | none =>
        rw [hday] at inv2
        simp only [optD]
        wtm_at "go"
        exact hM _ ⟨_, _, f, os, rfl, rfl, inv2⟩
      | some i =>
        rw [hday] at inv2
        unfold tableSet at inv2
        simp only at inv2
        simp only [optD]
        wtm_at "go"
        cases c1 : decide (0 ≤ i - yearBegin y) with
        | false =>
          have c1' := of_decide_eq_false c1
          rw [if_neg fun z => c1' z.1] at inv2
          wtm_at "go"
          exact hM _ ⟨_, _, f, os, rfl, rfl, inv2⟩
        | true =>
          have c1' := of_decide_eq_true c1
          cases c2 : decide (i - yearBegin y < (f.length : Int)) with
          | false =>
            have c2' := of_decide_eq_false c2
            rw [if_neg fun z => c2' z.2] at inv2
            wtm_at "go"
            exact hM _ ⟨_, _, f, os, rfl, rfl, inv2⟩
          | true =>
            have c2' := of_decide_eq_true c2
            rw [if_pos ⟨c1', c2'⟩] at inv2
            wtm_at "go"
            refine x_lputK rfl (ixN_of c1' c2') ?_
            simp only [List.set_cons_zero, List.set_cons_succ]
            exact hM _ ⟨_, _, _, os, rfl, rfl, inv2⟩
    · rintro s ⟨u7, u8, f, os, rfl, hq, inv2⟩
      obtain rfl : os = [] := by
        cases os with
        | nil => rfl
        | cons i rs => cases hq
      rw [List.foldl_nil] at inv2
      refine hN _ ⟨_, _, _, _, f, rfl, fun p hp' => hp p (List.mem_cons_of_mem _ hp'), ?_⟩
      rw [inv2]
      exact inv
  · rintro s ⟨u5, u6, u7, u8, found, rfl, _, inv⟩
    rw [List.foldl_nil] at inv
    subst inv
    wtm_at "go"
    exact h
theorem k__law_special {rs : List PyData} {y : Int} (hl : rs.length ≤ 8) (hr : ∀ p ∈ rs, isRule p = true) (h : Q (.dct (special y rs)) [.dat (.tuple rs), .dat (.int y)] n) : d__law_special K [.dat (.tuple rs), .dat (.int y)] n Q X := by
  unfold d__law_special b__law_special
  wtm_at "in"
  wtm_at "go"
  rw [number_first, number_first]
  refine x_forI (fun r s => ∃ u5 u6 u7 u8 kvs, s = ⟨[some (.dat (.tuple rs)), some (.dat (.int y)), some (.dat (.int (yearBegin y))), some (.dat (.int (yearBegin (y + 1)))), some (.dct kvs), u5, u6, u7, u8], n, []⟩ ∧ (∀ p ∈ r, isRule p = true) ∧ r.foldl (spRule y) kvs = special y rs ∧ kvs.length + 3 * r.length ≤ 24) ?_ ?_ ⟨none, none, none, none, [], rfl, fun p hp => hr p (List.mem_reverse.mp hp), rfl, by simp; omega⟩
  · rintro p r s N ⟨u5, u6, u7, u8, kvs, rfl, hp, inv, hlen⟩ hN
    obtain ⟨w, e, rfl, hw4, he⟩ := rule_is (hp p List.mem_cons_self)
    have tw := (when_pt hw4).tame
    rw [List.foldl_cons] at inv
    rw [List.length_cons] at hlen
    wtm_at "go"
    refine x_forI (fun q s => ∃ u7 u8 f os, s = ⟨[some (.dat (.tuple rs)), some (.dat (.int y)), some (.dat (.int (yearBegin y))), some (.dat (.int (yearBegin (y + 1)))), some (.dct f), some (.dat w), some (.dat e), u7, u8], n, []⟩ ∧ q = os.map PyData.int ∧ os.foldl (fun a one => spSet (yearBegin y) (yearBegin (y + 1)) a (dayOf one 4 w) e) f = spRule y kvs (.tuple [w, e]) ∧ f.length + os.length ≤ kvs.length + 3) ?_ ?_ ⟨u7, u8, kvs, [y - 1, y, y + 1], rfl, rfl, rfl, by simp⟩
    · rintro d q s M ⟨u7, u8, f, os, rfl, hq, inv2, hfl⟩ hM
      obtain ⟨one, os, rfl⟩ : ∃ i rs', os = i :: rs' := by
        cases os with
        | nil => cases hq
        | cons i rs => exact ⟨i, rs, rfl⟩
      rw [List.map_cons] at hq
      obtain ⟨rfl, rfl⟩ := List.cons.inj hq
      rw [List.foldl_cons] at inv2
      rw [List.length_cons] at hfl
      wtm_at "go"
      refine k__law_when_day 4 tw hw4 ?_
      cases hday : dayOf one 4 w with
      | none =>
        rw [hday] at inv2
        simp only [optD]
        wtm_at "go"
        exact hM _ ⟨_, _, f, os, rfl, rfl, inv2, by omega⟩
      | some i =>
        rw [hday] at inv2
        unfold spSet at inv2
        simp only at inv2
        simp only [optD]
        wtm_at "go"
        cases c1 : decide (yearBegin y ≤ i) with
        | false =>
          have c1' := of_decide_eq_false c1
          rw [if_neg fun z => c1' z.1] at inv2
          wtm_at "go"
          exact hM _ ⟨_, _, f, os, rfl, rfl, inv2, by omega⟩
        | true =>
          have c1' := of_decide_eq_true c1
          cases c2 : decide (i < yearBegin (y + 1)) with
          | false =>
            have c2' := of_decide_eq_false c2
            rw [if_neg fun z => c2' z.2] at inv2
            wtm_at "go"
            exact hM _ ⟨_, _, f, os, rfl, rfl, inv2, by omega⟩
          | true =>
            have c2' := of_decide_eq_true c2
            rw [if_pos ⟨c1', c2'⟩] at inv2
            wtm_at "go"
            refine x_dputK rfl rfl (by omega) ?_
            simp only [List.set_cons_zero, List.set_cons_succ]
            have := putD_len (kvs := f) (k := .inl i) (v := e)
            exact hM _ ⟨_, _, _, os, rfl, rfl, inv2, by omega⟩
    · rintro s ⟨u7, u8, f, os, rfl, hq, inv2, hfl⟩
      obtain rfl : os = [] := by
        cases os with
        | nil => rfl
        | cons i rs => cases hq
      rw [List.foldl_nil] at inv2
      rw [List.length_nil] at hfl
      refine hN _ ⟨_, _, _, _, f, rfl, fun p hp' => hp p (List.mem_cons_of_mem _ hp'), ?_, by omega⟩
      rw [inv2]
      exact inv
  · rintro s ⟨u5, u6, u7, u8, kvs, rfl, _, inv, _⟩
    rw [List.foldl_nil] at inv
    subst inv
    wtm_at "go"
    exact h
theorem number_in {y m k : Int} (v : Valid y m k) : yearBegin y ≤ numberAt y m k ∧ numberAt y m k < yearBegin y + daysOf y := by
  have := number_between v
  rw [next_year] at this
  exact this
theorem k__law_plan_of {w : PyData} {ws rs ds : List PyData} {y m k : Int} (hc : isCalendar (.tuple [w, .tuple ws, .tuple rs, .tuple ds]) = true) (v : Valid y m k) (h : Q (.dat (planOn ws rs ds y m k)) [.dat (.tuple [w, .tuple ws, .tuple rs, .tuple ds]), .dat (.tuple [.int y, .int m, .int k])] n) : d__law_plan_of K [.dat (.tuple [w, .tuple ws, .tuple rs, .tuple ds]), .dat (.tuple [.int y, .int m, .int k])] n Q X := by
  obtain ⟨ws', rs', ds', e, hw, hwp, hrl, hrp, hdl, hdp⟩ := cal_is hc
  cases e
  have m1 := v.m1
  have m2 := v.m2
  have st : SeqAt.shaped (.tuple [.int y, .int m, .int k]) = true := Pt.shaped (k := 1) (.tup (by simp) fun d hd => by
    simp only [List.mem_cons, List.not_mem_nil, or_false] at hd
    rcases hd with rfl | rfl | rfl <;> exact .int) (by decide)
  unfold d__law_plan_of b__law_plan_of
  wtm_at "in"
  wtm_at "go"
  refine x_forI (fun r s => ∃ u2 u3, s = ⟨[some (.dat (.tuple [.str "calendar", .tuple ws, .tuple rs, .tuple ds])), some (.dat (.tuple [.int y, .int m, .int k])), u2, u3, none], n, []⟩ ∧ (∀ p ∈ r, ∃ x e, p = .tuple [x, e] ∧ isDate x = true ∧ isPlan 6 e = true) ∧ datedPlan (.tuple [.int y, .int m, .int k]) ds = datedPlan (.tuple [.int y, .int m, .int k]) r) ?_ ?_ ⟨none, none, rfl, datesGo_pt hdp, rfl⟩
  · rintro p r s N ⟨u2, u3, rfl, hp, inv⟩ hN
    obtain ⟨x, e, rfl, hx, he⟩ := hp p List.mem_cons_self
    have sx := (date_pt hx).shaped (by decide)
    rw [datedPlan] at inv
    wtm_at "go"
    cases c : eqd x (.tuple [.int y, .int m, .int k]) with
    | true =>
      rw [if_pos c] at inv
      wtm_at "go"
      unfold planOn at h
      rw [inv] at h
      exact h
    | false =>
      rw [if_neg (by rw [c]; decide)] at inv
      wtm_at "go"
      exact hN _ ⟨_, _, rfl, fun p hp' => hp p (List.mem_cons_of_mem _ hp'), inv⟩
  · rintro s ⟨u2, u3, rfl, _, inv⟩
    rw [datedPlan] at inv
    wtm_at "go"
    refine k__law_special hrl hrp ?_
    have hat : atI ws (numberAt y m k % 7) = some (ws.getD (numberAt y m k % 7).toNat .none) := atI_of (by omega) (by omega)
    wtm_at "go"
    unfold planOn at h
    rw [inv] at h
    have nb := number_in v
    rw [(same_special y ws rs).2 _ nb.1 nb.2]
    exact h
end
end K81

/-! part R4 -/
namespace K81
open PySem PySem.Spec PyProof.Rows L2 Evl Lk LamX Mk
theorem whole_iff {i lo hi : Int} : isWhole (.int i) lo hi = true ↔ lo ≤ i ∧ i ≤ hi := by
  have e : isWhole (.int i) lo hi = (decide (lo ≤ i) && decide (i ≤ hi)) := rfl
  rw [e, Bool.and_eq_true, decide_eq_true_eq, decide_eq_true_eq]
theorem date_valid {y m k : Int} (h : isDate (.tuple [.int y, .int m, .int k]) = true) : Valid y m k ∧ y ≤ last := by
  have e : isDate (.tuple [.int y, .int m, .int k]) = (isWhole (.int y) 1 last && isWhole (.int m) 1 12 && isWhole (.int k) 1 (monthDays y m)) := rfl
  rw [e, Bool.and_eq_true, Bool.and_eq_true, whole_iff, whole_iff, whole_iff] at h
  exact ⟨⟨h.1.1.1, h.1.2.1, h.1.2.2, h.2.1, h.2.2⟩, h.1.1.2⟩
theorem date_of_valid {y m k : Int} (v : Valid y m k) (l : y ≤ last) : isDate (.tuple [.int y, .int m, .int k]) = true := by
  have e : isDate (.tuple [.int y, .int m, .int k]) = (isWhole (.int y) 1 last && isWhole (.int m) 1 12 && isWhole (.int k) 1 (monthDays y m)) := rfl
  rw [e, Bool.and_eq_true, Bool.and_eq_true, whole_iff, whole_iff, whole_iff]
  exact ⟨⟨⟨v.y1, l⟩, v.m1, v.m2⟩, v.d1, v.d2⟩
section
variable {K : PySem.W.Frag} {n : Nat} {Q : O → List O → Nat → Prop} {X : Addr → List O → Nat → Prop}
local macro_rules | `(tactic| wtm_at "k") => `(tactic| first
  | (with_reducible refine k_year_begin ?_)
  | ((with_reducible refine' k_number_at ?a ?b ?h); (case a => omega); (case b => omega)))
theorem k_plan_on_bad {d t : PyData} (tm : Tame d) (hc : isCalendar d = false) (h : X (He.ga K "BadCalendar") [.dat d, .dat t] n) : d_plan_on K [.dat d, .dat t] n Q X := by
  unfold d_plan_on b_plan_on
  wtm_at "in"
  wtm_at "go"
  refine k_need_calendar tm (fun z => ?_) fun _ => ?_
  · rw [hc] at z; cases z
  · wtm_at "go"
    exact h
theorem k_plan_on {w : PyData} {ws rs ds : List PyData} {y m k : Int} (hc : isCalendar (.tuple [w, .tuple ws, .tuple rs, .tuple ds]) = true) (hd : isDate (.tuple [.int y, .int m, .int k]) = true) (h : Q (.dat (planOn ws rs ds y m k)) [.dat (.tuple [w, .tuple ws, .tuple rs, .tuple ds]), .dat (.tuple [.int y, .int m, .int k])] n) : d_plan_on K [.dat (.tuple [w, .tuple ws, .tuple rs, .tuple ds]), .dat (.tuple [.int y, .int m, .int k])] n Q X := by
  have tm := (cal_pt hc).tame
  have hc' := hc
  obtain ⟨ws', rs', ds', e, hw, hwp, hrl, hrp, hdl, hdp⟩ := cal_is hc
  cases e
  have v := (date_valid hd).1
  have m1 := v.m1
  have m2 := v.m2
  have st : SeqAt.shaped (.tuple [.int y, .int m, .int k]) = true := (date_pt hd).shaped (by decide)
  have nb := number_in v
  have tl := table_len y ws rs
  have hat : atI (yearTable y ws rs) (numberAt y m k - yearBegin y) = some ((yearTable y ws rs).getD (numberAt y m k - yearBegin y).toNat .none) := atI_of (by omega) (by omega)
  unfold d_plan_on b_plan_on
  wtm_at "in"
  wtm_at "go"
  refine k_need_calendar tm (fun _ => ?_) fun z => (Bool.false_ne_true (z.symm.trans hc)).elim
  wtm_at "go"
  refine k_need_date (fun _ => ?_) fun z => (Bool.false_ne_true (z.symm.trans hd)).elim
  wtm_at "go"
  refine x_forI (fun r s => ∃ u2 u3, s = ⟨[some (.dat (.tuple [.str "calendar", .tuple ws, .tuple rs, .tuple ds])), some (.dat (.tuple [.int y, .int m, .int k])), u2, u3], n, []⟩ ∧ (∀ p ∈ r, ∃ x e, p = .tuple [x, e] ∧ isDate x = true ∧ isPlan 6 e = true) ∧ datedPlan (.tuple [.int y, .int m, .int k]) ds = datedPlan (.tuple [.int y, .int m, .int k]) r) ?_ ?_ ⟨none, none, rfl, datesGo_pt hdp, rfl⟩
  · rintro p r s N ⟨u2, u3, rfl, hp, inv⟩ hN
    obtain ⟨x, e, rfl, hx, he⟩ := hp p List.mem_cons_self
    have sx := (date_pt hx).shaped (by decide)
    rw [datedPlan] at inv
    wtm_at "go"
    cases c : eqd x (.tuple [.int y, .int m, .int k]) with
    | true =>
      rw [if_pos c] at inv
      wtm_at "go"
      unfold planOn at h
      rw [inv] at h
      exact h
    | false =>
      rw [if_neg (by rw [c]; decide)] at inv
      wtm_at "go"
      exact hN _ ⟨_, _, rfl, fun p hp' => hp p (List.mem_cons_of_mem _ hp'), inv⟩
  · rintro s ⟨u2, u3, rfl, _, inv⟩
    rw [datedPlan] at inv
    wtm_at "go"
    refine k_year_table hw hrp ?_
    wtm_at "go"
    unfold planOn at h
    rw [inv] at h
    exact h
/-- each plan of a calendar is a plan -/
theorem datedPlan_is {t : PyData} : ∀ {ds : List PyData} {p : PyData}, (∀ q ∈ ds, ∃ x e, q = .tuple [x, e] ∧ isDate x = true ∧ isPlan 6 e = true) → datedPlan t ds = some p → isPlan 6 p = true
  | [], _, _, h => nomatch h
  | q :: r, p, hq, h => by
    obtain ⟨x, e, rfl, _, he⟩ := hq q List.mem_cons_self
    rw [datedPlan] at h
    split at h
    · cases h; exact he
    · exact datedPlan_is (fun q hq' => hq q (List.mem_cons_of_mem _ hq')) h
theorem tableSet_all {P : PyData → Prop} {b : Int} {found : List PyData} {o : Option Int} {p : PyData} (h : ∀ d ∈ found, P d) (hp : P p) : ∀ d ∈ tableSet b found o p, P d := by
  unfold tableSet
  split
  · split
    · intro d hd
      rcases List.mem_or_eq_of_mem_set hd with hd | rfl
      · exact h d hd
      · exact hp
    · exact h
  · exact h
theorem table_all {P : PyData → Prop} {y : Int} : ∀ {rs found : List PyData}, (∀ d ∈ found, P d) → (∀ r ∈ rs, ∃ w p, r = .tuple [w, p] ∧ P p) → ∀ d ∈ rs.foldl (tableRule y) found, P d
  | [], _, h, _ => h
  | r :: rs, found, h, hr => by
    rw [List.foldl_cons]
    refine table_all ?_ fun q hq => hr q (List.mem_cons_of_mem _ hq)
    obtain ⟨w, p, rfl, hp⟩ := hr r List.mem_cons_self
    unfold tableRule
    simp only [List.foldl_cons, List.foldl_nil]
    exact tableSet_all (tableSet_all (tableSet_all h hp) hp) hp
theorem planOn_is {w : PyData} {ws rs ds : List PyData} {y m k : Int} (hc : isCalendar (.tuple [w, .tuple ws, .tuple rs, .tuple ds]) = true) (v : Valid y m k) : isPlan 6 (planOn ws rs ds y m k) = true := by
  obtain ⟨ws', rs', ds', e, hw, hwp, hrl, hrp, hdl, hdp⟩ := cal_is hc
  cases e
  unfold planOn
  cases q : datedPlan (.tuple [.int y, .int m, .int k]) ds with
  | some p => exact datedPlan_is (datesGo_pt hdp) q
  | none =>
    have nb := number_in v
    have tl := table_len y ws rs
    show isPlan 6 ((yearTable y ws rs).getD (numberAt y m k - yearBegin y).toNat .none) = true
    have hi : (numberAt y m k - yearBegin y).toNat < (yearTable y ws rs).length := by omega
    rw [List.getD_eq_getElem?_getD, List.getElem?_eq_getElem hi]
    refine table_all (P := fun d => isPlan 6 d = true) (rs := rs.reverse) (found := tableFirst y ws) (fun d hd => ?_) (fun r hr => ?_) _ (List.getElem_mem hi)
    · unfold tableFirst at hd
      obtain ⟨i, hi, rfl⟩ := List.mem_map.mp hd
      have : ((yearBegin y + (i : Int)) % 7).toNat < ws.length := by omega
      rw [List.getD_eq_getElem?_getD, List.getElem?_eq_getElem this]
      exact hwp _ (List.getElem_mem this)
    · obtain ⟨w, p, rfl, _, hp⟩ := rule_is (hrp r (List.mem_reverse.mp hr))
      exact ⟨w, p, rfl, hp⟩
theorem k_mode_at {w : PyData} {ws rs ds : List PyData} {y m k hr : Int} (hc : isCalendar (.tuple [w, .tuple ws, .tuple rs, .tuple ds]) = true) (hd : isDate (.tuple [.int y, .int m, .int k]) = true) (h0 : 0 ≤ hr) (h23 : hr ≤ 23) (h : ∀ ps, planOn ws rs ds y m k = .tuple ps → isPlan 6 (.tuple ps) = true → Q (.dat (modeAt hr ps)) [.dat (.tuple [w, .tuple ws, .tuple rs, .tuple ds]), .dat (.tuple [.int y, .int m, .int k]), .dat (.int hr)] n) : d_mode_at K [.dat (.tuple [w, .tuple ws, .tuple rs, .tuple ds]), .dat (.tuple [.int y, .int m, .int k]), .dat (.int hr)] n Q X := by
  have hp := planOn_is hc (date_valid hd).1
  obtain ⟨ps, e, _⟩ := isPlan_is hp
  rw [e] at hp
  have hwh : isWhole (.int hr) 0 23 = true := whole_iff.mpr ⟨h0, h23⟩
  unfold d_mode_at b_mode_at
  wtm_at "in"
  wtm_at "go"
  refine k_plan_on hc hd ?_
  rw [e]
  wtm_at "go"
  refine k_need_hour (fun _ => ?_) fun z => (Bool.false_ne_true (z.symm.trans hwh)).elim
  wtm_at "go"
  refine k_mode_in hp h0 ?_
  wtm_at "go"
  exact h ps e hp
theorem k_mode_at_bad {w hr : PyData} {ws rs ds : List PyData} {y m k : Int} (hc : isCalendar (.tuple [w, .tuple ws, .tuple rs, .tuple ds]) = true) (hd : isDate (.tuple [.int y, .int m, .int k]) = true) (hh : isWhole hr 0 23 = false) (h : X (He.ga K "BadHour") [.dat (.tuple [w, .tuple ws, .tuple rs, .tuple ds]), .dat (.tuple [.int y, .int m, .int k]), .dat hr] n) : d_mode_at K [.dat (.tuple [w, .tuple ws, .tuple rs, .tuple ds]), .dat (.tuple [.int y, .int m, .int k]), .dat hr] n Q X := by
  unfold d_mode_at b_mode_at
  wtm_at "in"
  wtm_at "go"
  refine k_plan_on hc hd ?_
  wtm_at "go"
  refine k_need_hour (fun z => ?_) fun _ => ?_
  · rw [hh] at z; cases z
  · wtm_at "go"
    exact h
end
end K81

/-! part R5 -/
namespace K81
open PySem PySem.Spec PyProof.Rows L2 Evl Lk LamX Mk
theorem eqd_nilL {ds : List PyData} : eqd (.list ds) (.list []) = ds.isEmpty := by
  unfold eqd
  cases ds <;> simp [PyData.eqv, PyData.eqvAll]
theorem none_kept {α : Type} (f : α → PyData) (keep : α → Bool) : ∀ l : List α, eqd (.list ((l.filter keep).map f)) (.list []) = l.all fun x => !keep x := by
  intro l
  rw [eqd_nilL]
  induction l with
  | nil => rfl
  | cons a l ih =>
    rw [List.all_cons]
    cases h : keep a with
    | true =>
      rw [List.filter_cons_of_pos h]
      rfl
    | false =>
      rw [List.filter_cons_of_neg (by rw [h]; decide), ih]
      rfl
theorem shaped_ints {α : Type} (f : α → Int) (keep : α → Bool) (l : List α) : SeqAt.shaped (.list ((l.filter keep).map fun x => PyData.int (f x))) = true := shaped_list (k := 0) (fun d hd => by
  obtain ⟨x, _, rfl⟩ := List.mem_map.mp hd
  exact .int) (by decide)
section
variable {K : PySem.W.Frag} {n : Nat} {Q : O → List O → Nat → Prop} {X : Addr → List O → Nat → Prop}
local macro_rules | `(tactic| wtm_at "k") => `(tactic| first
  | (with_reducible refine k__law_is_int ?_)
  | ((with_reducible refine' k__law_month ?a ?b ?h); (case a => omega); (case b => omega)))
theorem k__law_is_mode {d : PyData} (t : Tame d) (h : Q (.dat (.bool (isName d))) [.dat d] n) : d__law_is_mode K [.dat d] n Q X := by
  unfold d__law_is_mode b__law_is_mode
  cases d with
  | str z =>
    have zk := t.ok
    have zl := t.len
    have e : isName (.str z) = (decide ((1 : Int) ≤ (z.length : Nat)) && decide (((z.length : Nat) : Int) ≤ 8) && !decide (z = "any") && z.cps.toList.all fun c => decide (c ∈ letters.cps.toList)) := rfl
    cases c1 : decide (((z.length : Nat) : Int) < 1) with
    | true =>
      have c1' : decide ((1 : Int) ≤ (z.length : Nat)) = false := decide_eq_false (by have := of_decide_eq_true c1; omega)
      rw [e, c1'] at h
      wtm_at "in"
      wtm_at "go"
      exact h
    | false =>
      have c1' : decide ((1 : Int) ≤ (z.length : Nat)) = true := decide_eq_true (by have := of_decide_eq_false c1; omega)
      cases c2 : decide (8 < ((z.length : Nat) : Int)) with
      | true =>
        have c2' : decide (((z.length : Nat) : Int) ≤ 8) = false := decide_eq_false (by have := of_decide_eq_true c2; omega)
        rw [e, c1', c2'] at h
        wtm_at "in"
        wtm_at "go"
        exact h
      | false =>
        have c2' : decide (((z.length : Nat) : Int) ≤ 8) = true := decide_eq_true (by have := of_decide_eq_false c2; omega)
        cases c3 : decide (z = "any") with
        | true =>
          rw [e, c1', c2', c3] at h
          wtm_at "in"
          wtm_at "go"
          exact h
        | false =>
          rw [e, c1', c2', c3] at h
          wtm_at "in"
          wtm_at "go"
          refine x_lcM (l := z.cps.toList) (fun c : Nat => PyData.str ⟨#[c]⟩) (fun c : Nat => !decide (c ∈ letters.cps.toList)) (fun _ => .int 1) (by rw [Array.length_toList]; exact zl) (fun c hc A B hA hB => ?_) ?_
          · wtm_at "all"
            · rename_i q
              exact hA q
            · rename_i q
              exact hB q
          have hsh := shaped_ints (fun _ : Nat => 1) (fun c : Nat => !decide (c ∈ letters.cps.toList)) z.cps.toList
          wtm_at "go"
          refine x_fin h ?_
          rw [none_kept]
          simp
  | _ =>
    wtm_at "in"
    wtm_at "all"
    exact h
theorem k__law_is_day {d : PyData} (h : Q (.dat (.bool (isDate d))) [.dat d] n) : d__law_is_day K [.dat d] n Q X := by
  unfold d__law_is_day b__law_is_day
  have e30 : (10 : Int) ^ (30 : Int).toNat = last := by decide
  cases d with
  | tuple ds =>
    rcases three_or ds with ⟨a, b, c, rfl⟩ | hl
    · wtm_at "in"
      wtm_at "go"
      refine x_fPow ⟨by decide, by decide, by decide⟩ ?_
      rw [e30]
      wtm_at "go"
      cases ha : isWhole a 1 last
      · rw [isDate_no (by rw [ha]; rfl)] at h
        wtm_at "go"
        exact h
      cases hb : isWhole b 1 12
      · rw [isDate_no (by rw [ha, hb]; rfl)] at h
        wtm_at "go"
        exact h
      obtain ⟨y, rfl, y1, y2⟩ := isWhole_int ha
      obtain ⟨m, rfl, m1, m2⟩ := isWhole_int hb
      wtm_at "go"
      refine x_fin h ?_
      show _ = O.dat (.bool (isWhole (.int y) 1 last && isWhole (.int m) 1 12 && isWhole c 1 (monthDays y m)))
      rw [ha, hb]
      rfl
    · have hl' : (!decide ((ds.length : Int) = 3)) = true := by
        rw [decide_eq_false (by omega)]; rfl
      have dl : decide ((ds.length : Int) = 3) = false := decide_eq_false (by omega)
      wtm_at "in"
      wtm_at "go"
      rw [isDate_len hl] at h
      exact h
  | _ =>
    wtm_at "in"
    wtm_at "all"
    exact h
end
end K81

/-! part R6 -/
namespace K81
open PySem PySem.Spec PyProof.Rows L2 Evl Lk LamX Mk
section
variable {K : PySem.W.Frag} {n : Nat} {Q : O → List O → Nat → Prop} {X : Addr → List O → Nat → Prop}
local macro_rules | `(tactic| wtm_at "k") => `(tactic| first
  | (with_reducible refine k__law_is_int ?_)
  | ((with_reducible refine' k__law_month ?a ?b ?h); (case a => omega); (case b => omega)))
theorem when_few {m : Nat} {ds : List PyData} (h : ds.length < 3) : whenOf m (.tuple ds) = false := by
  cases q : whenOf m (.tuple ds) with
  | false => rfl
  | true =>
    cases m with
    | zero => cases q
    | succ m =>
      match ds, h, q with
      | .str w :: rest, h, q =>
        have q : whenBy (whenOf m) w rest = true := q
        unfold whenBy at q
        have l : (PyData.str w :: rest).length = rest.length + 1 := rfl
        split at q
        · have := dateOf_len (x := .str w) q
          omega
        · split at q
          · have := nthOf_len (x := .str w) q
            omega
          · split at q
            · have := shiftOf_len (x := .str w) q
              omega
            · split at q
              · have := movedOf_len (x := .str w) q
                omega
              · cases q
theorem two_ints {c : PyData} : (isWhole c (-1) 5 && ne0 c) = (isWhole c 1 5 || isWhole c (-1) (-1)) := by
  cases c with
  | int i =>
    show ((decide (-1 ≤ i) && decide (i ≤ 5)) && !decide (i = 0)) = ((decide (1 ≤ i) && decide (i ≤ 5)) || (decide (-1 ≤ i) && decide (i ≤ -1)))
    rw [Bool.eq_iff_iff]
    simp
    omega
  | _ => rfl
theorem k__law_is_rule_day : ∀ (m : Nat) {d : PyData} {n : Nat} {Q : O → List O → Nat → Prop} {X : Addr → List O → Nat → Prop}, Tame d → Q (.dat (.bool (whenOf m d))) [.dat d, .dat (.int (m : Int))] n → d__law_is_rule_day K (m + 1) [.dat d, .dat (.int (m : Int))] n Q X
  | 0, d, n, Q, X, t, h => by
    unfold d__law_is_rule_day b__law_is_rule_day
    cases d <;> wtm_at "in" <;> wtm_at "go"
    all_goals exact h
  | m + 1, d, n, Q, X, t, h => by
    have dm : decide (((m + 1 : Nat) : Int) = 0) = false := decide_eq_false (by omega)
    have im : ((m + 1 : Nat) : Int) - 1 = (m : Int) := by omega
    unfold d__law_is_rule_day b__law_is_rule_day
    cases d with
    | tuple ds =>
      by_cases h3 : ds.length < 3
      · have d3 : decide ((ds.length : Int) < 3) = true := decide_eq_true (by omega)
        rw [when_few h3] at h
        wtm_at "in"
        wtm_at "go"
        exact h
      match ds, t, h, h3 with
      | [], t, h, h3 => exact (h3 (by decide)).elim
      | a :: rest, t, h, h3 =>
        have d3 : decide (((a :: rest).length : Int) < 3) = false := decide_eq_false (by omega)
        cases a with
        | str w =>
          have tw := (t.item (d := .str w) (by simp)).ok
          have h' : Q (.dat (.bool (whenBy (whenOf m) w rest))) [.dat (.tuple (.str w :: rest)), .dat (.int ((m + 1 : Nat) : Int))] n := h
          clear h
          unfold whenBy at h'
          by_cases w1 : w = "date"
          · subst w1
            rw [if_pos rfl] at h'
            rcases two_or rest with ⟨b, c, rfl⟩ | hl
            · cases hb : isWhole b 1 12 with
              | false =>
                have de : dateOf [b, c] = false := by
                  cases b with
                  | int i =>
                    show ((decide (1 ≤ i) && decide (i ≤ 12)) && _) = false
                    rw [show (decide (1 ≤ i) && decide (i ≤ 12)) = false from hb]
                    rfl
                  | _ => rfl
                rw [de] at h'
                wtm_at "in"
                wtm_at "go"
                exact h'
              | true =>
                obtain ⟨i, rfl, i1, i2⟩ := isWhole_int hb
                wtm_at "in"
                wtm_at "go"
                refine x_fin h' ?_
                show _ = O.dat (.bool ((decide (1 ≤ i) && decide (i ≤ 12)) && isWhole c 1 (monthDays 2000 i)))
                rw [decide_eq_true i1, decide_eq_true i2]
                rfl
            · rw [dateOf_no hl] at h'
              have dl : decide (((PyData.str "date" :: rest).length : Int) = 3) = false := decide_eq_false (by rw [List.length_cons]; omega)
              wtm_at "in"
              wtm_at "go"
              exact h'
          by_cases w2 : w = "nth"
          · subst w2
            rw [if_neg w1, if_pos rfl] at h'
            rcases three_r rest with ⟨b, c, e, rfl⟩ | hl
            · have hn : nthOf [b, c, e] = (isWhole b 1 12 && isWhole c 0 6 && (isWhole e 1 5 || isWhole e (-1) (-1))) := by
                rw [← two_ints]; rfl
              rw [hn] at h'
              cases hb : isWhole b 1 12
              · rw [hb] at h'
                wtm_at "in"
                wtm_at "go"
                exact h'
              cases hc : isWhole c 0 6
              · rw [hb, hc] at h'
                wtm_at "in"
                wtm_at "go"
                exact h'
              cases he : isWhole e 1 5 <;> rw [hb, hc, he] at h' <;> wtm_at "in" <;> wtm_at "go" <;> exact h'
            · rw [nthOf_no hl] at h'
              have dl : decide (((PyData.str "nth" :: rest).length : Int) = 4) = false := decide_eq_false (by rw [List.length_cons]; omega)
              wtm_at "in"
              wtm_at "go"
              exact h'
          by_cases w3 : w = "shift"
          · subst w3
            rw [if_neg w1, if_neg w2, if_pos rfl] at h'
            rcases two_or rest with ⟨b, c, rfl⟩ | hl
            · have tb := t.item (d := b) (by simp)
              have hn : shiftOf (whenOf m) [b, c] = (whenOf m b && (isWhole c (-40) 40 && ne0 c)) := rfl
              rw [hn] at h'
              cases hc : isWhole c (-40) 40
              · rw [hc, Bool.false_and, Bool.and_false] at h'
                wtm_at "in"
                wtm_at "go"
                exact h'
              obtain ⟨i, rfl, i1, i2⟩ := isWhole_int hc
              cases h0 : decide (i = 0) with
              | true =>
                have : ne0 (.int i) = false := by
                  show (!decide (i = 0)) = false
                  rw [h0]; rfl
                rw [this, Bool.and_false, Bool.and_false] at h'
                wtm_at "in"
                wtm_at "go"
                exact h'
              | false =>
                have : ne0 (.int i) = true := by
                  show (!decide (i = 0)) = true
                  rw [h0]; rfl
                rw [this, hc, Bool.and_true, Bool.and_true] at h'
                wtm_at "in"
                wtm_at "go"
                rw [im]
                refine k__law_is_rule_day m tb ?_
                wtm_at "go"
                exact h'
            · rw [shiftOf_no hl] at h'
              have dl : decide (((PyData.str "shift" :: rest).length : Int) = 3) = false := decide_eq_false (by rw [List.length_cons]; omega)
              wtm_at "in"
              wtm_at "go"
              exact h'
          by_cases w4 : w = "moved"
          · subst w4
            rw [if_neg w1, if_neg w2, if_neg w3, if_pos rfl] at h'
            rcases three_r rest with ⟨b, c, e, rfl⟩ | hl
            · have tb := t.item (d := b) (by simp)
              have hn : movedOf (whenOf m) [b, c, e] = (whenOf m b && isWhole c 0 6 && (isWhole e (-6) 6 && ne0 e)) := rfl
              rw [hn] at h'
              cases hc : isWhole e (-6) 6
              · rw [hc, Bool.false_and, Bool.and_false] at h'
                wtm_at "in"
                wtm_at "go"
                exact h'
              obtain ⟨i, rfl, i1, i2⟩ := isWhole_int hc
              cases h0 : decide (i = 0) with
              | true =>
                have : ne0 (.int i) = false := by
                  show (!decide (i = 0)) = false
                  rw [h0]; rfl
                rw [this, Bool.and_false, Bool.and_false] at h'
                wtm_at "in"
                wtm_at "go"
                exact h'
              | false =>
                have : ne0 (.int i) = true := by
                  show (!decide (i = 0)) = true
                  rw [h0]; rfl
                rw [this, hc, Bool.and_true, Bool.and_true] at h'
                cases hcc : isWhole c 0 6
                · rw [hcc, Bool.and_false] at h'
                  wtm_at "in"
                  wtm_at "go"
                  exact h'
                · rw [hcc, Bool.and_true] at h'
                  wtm_at "in"
                  wtm_at "go"
                  rw [im]
                  refine k__law_is_rule_day m tb ?_
                  wtm_at "go"
                  exact h'
            · rw [movedOf_no hl] at h'
              have dl : decide (((PyData.str "moved" :: rest).length : Int) = 4) = false := decide_eq_false (by rw [List.length_cons]; omega)
              wtm_at "in"
              wtm_at "go"
              exact h'
          rw [if_neg w1, if_neg w2, if_neg w3, if_neg w4] at h'
          have e1 : decide (w = "date") = false := decide_eq_false w1
          have e2 : decide (w = "nth") = false := decide_eq_false w2
          have e3 : decide (w = "shift") = false := decide_eq_false w3
          have e4 : decide (w = "moved") = false := decide_eq_false w4
          wtm_at "in"
          wtm_at "go"
          exact h'
        | _ =>
          wtm_at "in"
          wtm_at "go"
          exact h
    | _ =>
      wtm_at "in"
      wtm_at "go"
      exact h
end
end K81

/-! part R7 -/
namespace K81
open PySem PySem.Spec PyProof.Rows L2 Evl Lk LamX Mk
/-! plans as lists of pairs -/
abbrev prD (q : Int × Str) : PyData := .tuple [.int q.1, .str q.2]
def pairOk : PyData → Bool
  | .tuple [a, b] => isWhole a 0 23 && isName b
  | _ => false
theorem pairOk_is {p : PyData} (h : pairOk p = true) : ∃ q : Int × Str, p = prD q ∧ 0 ≤ q.1 ∧ q.1 ≤ 23 ∧ isName (.str q.2) = true := by
  unfold pairOk at h
  split at h
  · rw [Bool.and_eq_true] at h
    obtain ⟨i, rfl, h1, h2⟩ := isWhole_int h.1
    obtain ⟨w, rfl⟩ := isName_str h.2
    exact ⟨(i, w), rfl, h1, h2, h.2⟩
  · cases h
theorem planGo_ok : ∀ {ds : List PyData} {h : Int} {m : Str}, -1 ≤ h → planGo h m ds = true → ds.all pairOk = true
  | [], _, _, _, _ => rfl
  | p :: r, h, m, h0, e => by
    rw [planGo] at e
    split at e
    · rename_i i s q
      obtain ⟨i', s', rfl, e2, h1, h2, hn, _⟩ := planStep_some q
      cases e2
      rw [List.all_cons, planGo_ok (by omega) e]
      show ((decide (0 ≤ i) && decide (i ≤ 23)) && isName (.str s) && true) = true
      rw [decide_eq_true (by omega), decide_eq_true h2, hn]
      rfl
    · cases e
theorem pairs_of : ∀ {ds : List PyData}, ds.all pairOk = true → ∃ ps : List (Int × Str), ds = ps.map prD ∧ ∀ q ∈ ps, 0 ≤ q.1 ∧ q.1 ≤ 23 ∧ isName (.str q.2) = true
  | [], _ => ⟨[], rfl, fun _ h => nomatch h⟩
  | p :: r, h => by
    rw [List.all_cons, Bool.and_eq_true] at h
    obtain ⟨q, rfl, hq⟩ := pairOk_is h.1
    obtain ⟨ps, rfl, hp⟩ := pairs_of h.2
    refine ⟨q :: ps, rfl, fun x hx => ?_⟩
    rcases List.mem_cons.mp hx with rfl | hx
    · exact hq
    · exact hp x hx
def adj : Str → List Str → Bool
  | _, [] => true
  | m, w :: r => !decide (w = m) && adj w r
def asc : Int → List Int → Bool
  | _, [] => true
  | h, i :: r => decide (h < i) && asc i r
theorem planGo_ps : ∀ {ps : List (Int × Str)} {h : Int} {m : Str}, (∀ q ∈ ps, 0 ≤ q.1 ∧ q.1 ≤ 23 ∧ isName (.str q.2) = true) → planGo h m (ps.map prD) = (asc h (ps.map (·.1)) && adj m (ps.map (·.2)))
  | [], _, _, _ => rfl
  | q :: ps, h, m, ok => by
    obtain ⟨h0, h1, hn⟩ := ok q List.mem_cons_self
    rw [List.map_cons, List.map_cons, List.map_cons, planGo, asc, adj]
    have e : planStep h m (prD q) = if (decide (h + 1 ≤ q.1) && decide (q.1 ≤ 23)) && (isName (.str q.2) && !decide (q.2 = m)) then some (q.1, q.2) else none := rfl
    rw [e, hn, decide_eq_true h1]
    by_cases c : h < q.1
    · by_cases c2 : q.2 = m
      · rw [decide_eq_true c, decide_eq_true c2, decide_eq_true (show h + 1 ≤ q.1 by omega)]
        simp
      · rw [decide_eq_true c, decide_eq_false c2, decide_eq_true (show h + 1 ≤ q.1 by omega)]
        simp only [Bool.and_true, Bool.not_false, Bool.true_and, if_true]
        exact planGo_ps fun q hq => ok q (List.mem_cons_of_mem _ hq)
    · rw [decide_eq_false c, decide_eq_false (show ¬ h + 1 ≤ q.1 by omega)]
      simp
theorem asc_iff : ∀ {l : List Int} {h : Int}, asc h l = true ↔ (h :: l).Pairwise (· < ·)
  | [], h => by simp [asc]
  | i :: r, h => by
    rw [asc, Bool.and_eq_true, asc_iff, decide_eq_true_eq]
    constructor
    · rintro ⟨h1, h2⟩
      refine List.pairwise_cons.mpr ⟨fun x hx => ?_, h2⟩
      rcases List.mem_cons.mp hx with rfl | hx
      · exact h1
      · have := (List.pairwise_cons.mp h2).1 x hx
        omega
    · intro z
      obtain ⟨h1, h2⟩ := List.pairwise_cons.mp z
      exact ⟨h1 i List.mem_cons_self, h2⟩
theorem adj_ix : ∀ {ws : List Str} {m : Str}, adj m ws = (List.range ws.length).all fun i => !decide (ws.getD i ("" : Str) = (m :: ws).getD i ("" : Str))
  | [], _ => rfl
  | w :: r, m => by
    rw [adj, List.length_cons, List.range_succ_eq_map, List.all_cons, List.all_map, adj_ix]
    rfl
theorem asc_unique : ∀ {a b : List Int}, a.Pairwise (· < ·) → b.Pairwise (· < ·) → (∀ k, k ∈ a ↔ k ∈ b) → a = b
  | [], [], _, _, _ => rfl
  | [], x :: b, _, _, h => by have := (h x).mpr List.mem_cons_self; cases this
  | x :: a, [], _, _, h => by have := (h x).mp List.mem_cons_self; cases this
  | x :: a, y :: b, ha, hb, h => by
    rw [List.pairwise_cons] at ha hb
    have e : x = y := by
      rcases List.mem_cons.mp ((h x).mp List.mem_cons_self) with e | h1
      · exact e
      · rcases List.mem_cons.mp ((h y).mpr List.mem_cons_self) with e | h2
        · exact e.symm
        · have := ha.1 y h2
          have := hb.1 x h1
          omega
    subst e
    rw [asc_unique ha.2 hb.2 fun k => ?_]
    constructor
    · intro hk
      rcases List.mem_cons.mp ((h k).mp (List.mem_cons_of_mem _ hk)) with e | h1
      · subst e
        have := ha.1 k hk
        omega
      · exact h1
    · intro hk
      rcases List.mem_cons.mp ((h k).mpr (List.mem_cons_of_mem _ hk)) with e | h1
      · subst e
        have := hb.1 k hk
        omega
      · exact h1
theorem eqv_ints : ∀ {a b : List Int}, PyData.eqvAll (a.map PyData.int) (b.map PyData.int) = decide (a = b)
  | [], [] => by simp [PyData.eqvAll]
  | [], x :: b => by simp [PyData.eqvAll]
  | x :: a, [] => by simp [PyData.eqvAll]
  | x :: a, y :: b => by
    have := eqd_int (i := x) (j := y)
    unfold eqd at this
    rw [List.map_cons, List.map_cons, PyData.eqvAll, this, eqv_ints]
    by_cases h1 : x = y <;> by_cases h2 : a = b <;> simp [h1, h2]
theorem eqd_ints {a b : List Int} : eqd (.list (a.map PyData.int)) (.list (b.map PyData.int)) = decide (a = b) := by
  unfold eqd
  rw [← eqv_ints]
  simp [PyData.eqv]
theorem shaped_il {a : List Int} : SeqAt.shaped (.list (a.map PyData.int)) = true := shaped_list (k := 0) (fun d hd => by
  obtain ⟨x, _, rfl⟩ := List.mem_map.mp hd
  exact .int) (by decide)
section
variable {K : PySem.W.Frag} {n : Nat} {Q : O → List O → Nat → Prop} {X : Addr → List O → Nat → Prop}
local macro_rules | `(tactic| wtm_at "k") => `(tactic| first
  | (with_reducible refine k__law_is_int ?_)
  | ((with_reducible refine' k__law_is_mode ?a ?h); (case a => assumption)))
theorem k__law_is_plan {d : PyData} (t : Tame d) (h : Q (.dat (.bool (isPlan 6 d))) [.dat d] n) : d__law_is_plan K [.dat d] n Q X := by
  unfold d__law_is_plan b__law_is_plan
  cases d with
  | tuple ds =>
    have e : isPlan 6 (.tuple ds) = (decide (1 ≤ (ds.length : Int)) && decide ((ds.length : Int) ≤ 6) && planGo (-1) "" ds && firstHour ds) := rfl
    cases c1 : decide ((ds.length : Int) < 1) with
    | true =>
      have c1' : decide ((1 : Int) ≤ (ds.length : Nat)) = false := decide_eq_false (by have := of_decide_eq_true c1; omega)
      rw [e, c1'] at h
      wtm_at "in"
      wtm_at "go"
      exact h
    | false =>
    have c1' : decide ((1 : Int) ≤ (ds.length : Nat)) = true := decide_eq_true (by have := of_decide_eq_false c1; omega)
    cases c2 : decide (6 < (ds.length : Int)) with
    | true =>
      have c2' : decide (((ds.length : Nat) : Int) ≤ 6) = false := decide_eq_false (by have := of_decide_eq_true c2; omega)
      rw [e, c1', c2'] at h
      wtm_at "in"
      wtm_at "go"
      exact h
    | false =>
      have c2' : decide (((ds.length : Nat) : Int) ≤ 6) = true := decide_eq_true (by have := of_decide_eq_false c2; omega)
      rw [e, c1', c2', Bool.true_and, Bool.true_and] at h
      wtm_at "in"
      wtm_at "go"
      refine x_forI (fun r s => ∃ u, s = ⟨[some (.dat (.tuple ds)), u, none, none, none, none], n, []⟩ ∧ (∀ p ∈ r, Tame p) ∧ ds.all pairOk = r.all pairOk) ?_ ?_ ⟨none, rfl, fun d hd => t.item hd, rfl⟩
      · rintro p r s N ⟨u, rfl, ht, inv⟩ hN
        have tp := ht p List.mem_cons_self
        rw [List.all_cons] at inv
        have no : pairOk p = false → Q (.dat (.bool false)) [.dat (.tuple ds)] n := fun q => by
          have hg : planGo (-1) "" ds = false := by
            cases hg : planGo (-1) "" ds with
            | false => rfl
            | true =>
              have := planGo_ok (by decide) hg
              rw [inv, q] at this
              cases this
          rw [hg] at h
          exact h
        cases p with
        | tuple es =>
          rcases two_or es with ⟨x, y, rfl⟩ | hl
          · have tx := tp.item (d := x) (by simp)
            have ty := tp.item (d := y) (by simp)
            have hp : pairOk (.tuple [x, y]) = (isWhole x 0 23 && isName y) := rfl
            cases hx : isWhole x 0 23
            · wtm_at "go"
              exact no (by rw [hp, hx]; rfl)
            cases hy : isName y
            · wtm_at "go"
              exact no (by rw [hp, hx, hy]; rfl)
            wtm_at "go"
            exact hN _ ⟨_, rfl, fun d hd => ht d (List.mem_cons_of_mem _ hd), by rw [inv, hp, hx, hy]; rfl⟩
          · have dl : decide ((es.length : Int) = 2) = false := decide_eq_false (by omega)
            wtm_at "go"
            refine no ?_
            match es, hl with
            | [], _ => rfl
            | [_], _ => rfl
            | [_, _], hl => exact (hl rfl).elim
            | _ :: _ :: _ :: _, _ => rfl
        | _ =>
          wtm_at "go"
          exact no rfl
      · rintro s ⟨u, rfl, _, inv⟩
        obtain ⟨ps, rfl, ok⟩ := pairs_of inv
        have hlen : (ps.map prD).length ≤ 6 := by
          have := of_decide_eq_true c2'
          omega
        cases ps with
        | nil => cases c1
        | cons q0 ps =>
          obtain ⟨a0, a23, an⟩ := ok q0 List.mem_cons_self
          rw [planGo_ps ok, List.map_cons, List.map_cons, asc, adj, decide_eq_true (show -1 < q0.1 by omega), decide_eq_false (show ¬ q0.2 = "" from fun z => by rw [z] at an; revert an; decide +kernel)] at h
          simp only [Bool.true_and, Bool.not_false] at h
          have hf : firstHour ((q0 :: ps).map prD) = decide (q0.1 = 0) := rfl
          rw [hf] at h
          wtm_at "go"
          refine x_lcA (l := q0 :: ps) prD (fun q => PyData.int q.1) (by rw [List.length_map] at hlen; omega) (fun q hq A hA => ?_) ?_
          · wtm_at "go"
            exact hA
          have e2 : (q0 :: ps).map (fun q => PyData.int q.1) = ((q0 :: ps).map (·.1)).map PyData.int := by simp
          rw [e2]
          have hat : atI (((q0 :: ps).map (·.1)).map PyData.int) 0 = some (.int q0.1) := atI_nat (j := 0) rfl
          wtm_at "go"
          cases c3 : decide (q0.1 = 0) with
          | false =>
            rw [c3, Bool.and_false] at h
            wtm_at "go"
            exact h
          | true =>
            rw [c3, Bool.and_true] at h
            wtm_at "go"
            refine x_fSortI (by rw [List.length_map] at hlen ⊢; omega) fun out ho hm => ?_
            have hs1 : SeqAt.shaped (.list (((q0 :: ps).map (·.1)).map PyData.int)) = true := shaped_il
            have hs2 : SeqAt.shaped (.list (out.map PyData.int)) = true := shaped_il
            have key : eqd (.list (((q0 :: ps).map (·.1)).map PyData.int)) (.list (out.map PyData.int)) = asc q0.1 (ps.map (·.1)) := by
              rw [eqd_ints, Bool.eq_iff_iff, asc_iff, decide_eq_true_eq]
              constructor
              · intro z
                rw [← z] at ho
                exact ho
              · intro z
                exact asc_unique z ho fun k => (hm k).symm
            cases c4 : asc q0.1 (ps.map (·.1)) with
            | false =>
              rw [c4] at h key
              wtm_at "go"
              exact h
            | true =>
              rw [c4, Bool.true_and] at h
              rw [c4] at key
              wtm_at "go"
              have el : ((((((q0 :: ps).map prD).length : Nat) : Int) - 1)).toNat = ps.length := by simp
              rw [el]
              refine x_lcM (l := List.range ps.length) (fun i : Nat => PyData.int (1 + (i : Int))) (fun i : Nat => decide ((ps.map (·.2)).getD i ("" : Str) = (q0.2 :: ps.map (·.2)).getD i ("" : Str))) (fun i : Nat => PyData.int (1 + (i : Int))) (by rw [List.length_range]; simp at hlen; omega) (fun i hi A B hA hB => ?_) ?_
              · have hi := List.mem_range.mp hi
                have hi2 : i < (q0 :: ps).length := by rw [List.length_cons]; omega
                have a1 : atI ((q0 :: ps).map prD) (1 + (i : Int)) = some (.tuple [.int ps[i].1, .str ps[i].2]) := by
                  rw [show 1 + (i : Int) = ((i + 1 : Nat) : Int) by omega]
                  refine atI_nat ?_
                  rw [List.map_cons, List.getElem?_cons_succ, List.getElem?_map, List.getElem?_eq_getElem hi]
                  rfl
                have a2 : atI ((q0 :: ps).map prD) (1 + (i : Int) - 1) = some (.tuple [.int (q0 :: ps)[i].1, .str (q0 :: ps)[i].2]) := by
                  rw [show 1 + (i : Int) - 1 = ((i : Nat) : Int) by omega]
                  refine atI_nat ?_
                  rw [List.getElem?_map, List.getElem?_eq_getElem hi2]
                  rfl
                have k1 := name_ok (ok ps[i] (List.mem_cons_of_mem _ (List.getElem_mem hi))).2.2
                have k2 := name_ok (ok (q0 :: ps)[i] (List.getElem_mem hi2)).2.2
                have kk : decide ((ps.map (·.2)).getD i ("" : Str) = (q0.2 :: ps.map (·.2)).getD i ("" : Str)) = decide (ps[i].2 = (q0 :: ps)[i].2) := by
                  have b1 : (ps.map (·.2)).getD i ("" : Str) = ps[i].2 := by
                    rw [List.getD_eq_getElem?_getD, List.getElem?_map, List.getElem?_eq_getElem hi]
                    rfl
                  have b2 : (q0.2 :: ps.map (·.2)).getD i ("" : Str) = (q0 :: ps)[i].2 := by
                    rw [← List.map_cons (f := fun q : Int × Str => q.2), List.getD_eq_getElem?_getD, List.getElem?_map, List.getElem?_eq_getElem hi2]
                    rfl
                  rw [b1, b2]
                rw [kk] at hA hB
                wtm_at "all"
                · rename_i c
                  exact hA c
                · rename_i c
                  exact hB c
              have hsh := shaped_ints (fun i : Nat => 1 + (i : Int)) (fun i : Nat => decide ((ps.map (·.2)).getD i ("" : Str) = (q0.2 :: ps.map (·.2)).getD i ("" : Str))) (List.range ps.length)
              wtm_at "go"
              refine x_fin h ?_
              rw [none_kept, adj_ix, List.length_map]
  | _ =>
    wtm_at "in"
    wtm_at "go"
    exact h
end
end K81

/-! part R9 -/
namespace K81
open PySem PySem.Spec PyProof.Rows L2 Evl Lk LamX Mk
theorem cutD_mem {ds : List PyData} {lo hi : Option Int} {d : PyData} (h : d ∈ Mk.cutD ds lo hi) : d ∈ ds := by
  unfold Mk.cutD at h
  exact List.mem_of_mem_drop (List.mem_of_mem_take h)
theorem cutD_len (ds : List PyData) (lo hi : Option Int) : (Mk.cutD ds lo hi).length ≤ ds.length := by
  unfold Mk.cutD
  rw [List.length_take, List.length_drop]
  omega
def bentSome (d : PyData) : List PyData := [.none, .str "", .str "any", .int 0, .int 1, .int 5, .int (-1), .int 7, .int 24, .int 41, .bool true, .str "shift", .str "date", .str "day", .tuple [], .list [d], .dict [], .tuple [.tuple [.int 0, .str "day"]]]
theorem bent_tame {d : PyData} (t : Tame d) : ∀ x ∈ bentSome d, Tame x := by
  intro x hx
  unfold bentSome at hx
  simp only [List.mem_cons, List.not_mem_nil, or_false] at hx
  rcases hx with rfl | rfl | rfl | rfl | rfl | rfl | rfl | rfl | rfl | rfl | rfl | rfl | rfl | rfl | rfl | rfl | rfl | rfl
  all_goals first
    | exact .int
    | exact .none
    | exact .bool
    | exact .dict
    | exact .str (by decide +kernel) (by decide +kernel)
    | (refine .tup fun d hd => ?_
       exact absurd hd List.not_mem_nil)
    | (refine .list fun d hd => ?_
       rw [List.mem_singleton.mp hd]; exact t)
    | (refine .tup fun d hd => ?_
       rw [List.mem_singleton.mp hd]
       refine .tup fun d hd => ?_
       simp only [List.mem_cons, List.not_mem_nil, or_false] at hd
       rcases hd with rfl | rfl
       · exact .int
       · exact .str (by decide +kernel) (by decide +kernel))
theorem bent_two {d : PyData} (t : Tame d) : ∀ x ∈ [PyData.tuple [d], d], Tame x := by
  intro x hx
  simp only [List.mem_cons, List.not_mem_nil, or_false] at hx
  rcases hx with rfl | rfl
  · refine .tup fun d hd => ?_
    rw [List.mem_singleton.mp hd]; exact t
  · exact t
section
variable {K : PySem.W.Frag} {n : Nat} {Q : O → List O → Nat → Prop} {X : Addr → List O → Nat → Prop}
def Bent (K : PySem.W.Frag) (m : Nat) : Prop := ∀ {d : PyData} {n : Nat} {Q : O → List O → Nat → Prop} {X : Addr → List O → Nat → Prop}, Pt m d → n + 3 * (m + 1) < far → (∀ d' k, Tame d' → n ≤ k → k ≤ n + 3 * (m + 1) → Q (.dat d') [.st, .dat d] k) → d__law_bent K (m + 1) [.st, .dat d] n Q X
theorem bent_step {m : Nat} (ih : ∀ j, m = j + 1 → Bent K j) : Bent K m := by
  intro d n Q X hp hn h
  have t := hp.tame
  unfold d__law_bent b__law_bent
  cases hp with
  | int =>
    wtm_at "in"
    wtm_at "go"
    refine k_draw (by omega) (by decide +kernel) (by omega) fun a a0 a1 => ?_
    wtm_at "bk"
    wtm_at "go"
    refine x_fAddL (by simp) ?_
    wtm_at "go"
    refine k_pick_l (by simp) (by simp) (by omega) fun x hx => ?_
    wtm_at "bk"
    wtm_at "go"
    refine h x _ ?_ (by omega) (by omega)
    rcases List.mem_append.mp hx with hx | hx
    · exact bent_tame t x hx
    · simp only [List.mem_cons, List.not_mem_nil, or_false] at hx
      rcases hx with rfl | rfl <;> exact .int
  | str h1 h2 =>
    wtm_at "in"
    wtm_at "go"
    refine k_draw (by omega) (by decide +kernel) (by omega) fun a a0 a1 => ?_
    wtm_at "bk"
    wtm_at "go"
    refine x_fAddL (by simp) ?_
    wtm_at "go"
    refine k_pick_l (by simp) (by simp) (by omega) fun x hx => ?_
    wtm_at "bk"
    wtm_at "go"
    refine h x _ ?_ (by omega) (by omega)
    rcases List.mem_append.mp hx with hx | hx
    · exact bent_tame t x hx
    · exact bent_two t x hx
  | tup hl hi =>
    rename_i j ds
    have tame : ∀ {lo hi : Option Int}, ∀ x ∈ Mk.cutD ds lo hi, Tame x := fun x hx => (hi x (cutD_mem hx)).tame
    wtm_at "in"
    wtm_at "go"
    refine k_draw (by omega) (by decide +kernel) (by omega) fun a a0 a1 => ?_
    wtm_at "bk"
    wtm_at "go"
    cases c0 : decide (a = 0) with
    | true =>
      wtm_at "go"
      refine x_fAddL (by simp) ?_
      wtm_at "go"
      refine k_pick_l (by simp) (by simp) (by omega) fun x hx => ?_
      wtm_at "bk"
      wtm_at "go"
      refine h x _ ?_ (by omega) (by omega)
      rcases List.mem_append.mp hx with hx | hx
      · exact bent_tame t x hx
      · exact bent_two t x hx
    | false =>
    wtm_at "go"
    cases cl : decide ((ds.length : Int) = 0) with
    | true =>
      wtm_at "go"
      refine x_fAddL (by simp) ?_
      wtm_at "go"
      refine k_pick_l (by simp) (by simp) (by omega) fun x hx => ?_
      wtm_at "bk"
      wtm_at "go"
      refine h x _ ?_ (by omega) (by omega)
      rcases List.mem_append.mp hx with hx | hx
      · exact bent_tame t x hx
      · exact bent_two t x hx
    | false =>
    have hlen := of_decide_eq_false cl
    wtm_at "go"
    refine k_draw (by omega) (log2_len (by omega)) (by omega) fun b b0 b1 => ?_
    wtm_at "bk"
    have hat : atI ds b = some (ds.getD b.toNat .none) := atI_of b0 b1
    have hmem : ds.getD b.toNat .none ∈ ds := by
      have : b.toNat < ds.length := by omega
      rw [List.getD_eq_getElem?_getD, List.getElem?_eq_getElem this]
      exact List.getElem_mem this
    generalize ds.getD b.toNat .none = x0 at hat hmem
    have tx := (hi x0 hmem).tame
    wtm_at "go"
    cases c1 : decide (a = 1) with
    | true =>
      wtm_at "go"
      refine x_fAddT (by have a1 := cutD_len ds none (some b); have a2 := cutD_len ds (some (b + 1)) none; omega) ?_
      wtm_at "go"
      refine h _ _ (.tup fun x hx => ?_) (by omega) (by omega)
      rcases List.mem_append.mp hx with hx | hx
      · exact tame x hx
      · exact tame x hx
    | false =>
    wtm_at "go"
    cases c2 : decide (a = 2) with
    | true =>
      wtm_at "go"
      refine x_fAddT (by have a1 := cutD_len ds none (some b); simp only [List.length_cons, List.length_nil]; omega) ?_
      wtm_at "go"
      refine x_fAddT (by have a1 := cutD_len ds none (some b); have a2 := cutD_len ds (some b) none; simp only [List.length_append, List.length_cons, List.length_nil]; omega) ?_
      wtm_at "go"
      refine h _ _ (.tup fun x hx => ?_) (by omega) (by omega)
      rcases List.mem_append.mp hx with hx | hx
      · rcases List.mem_append.mp hx with hx | hx
        · exact tame x hx
        · rw [List.mem_singleton.mp hx]; exact tx
      · exact tame x hx
    | false =>
    wtm_at "go"
    cases c3 : decide (a = 3) with
    | true =>
      wtm_at "go"
      cases c4 : decide (0 < b) with
      | true =>
        have b2 := of_decide_eq_true c4
        have hat2 : atI ds (b - 1) = some (ds.getD (b - 1).toNat .none) := atI_of (by omega) (by omega)
        have hmem2 : ds.getD (b - 1).toNat .none ∈ ds := by
          have : (b - 1).toNat < ds.length := by omega
          rw [List.getD_eq_getElem?_getD, List.getElem?_eq_getElem this]
          exact List.getElem_mem this
        generalize ds.getD (b - 1).toNat .none = x1 at hat2 hmem2
        have tx1 := (hi x1 hmem2).tame
        wtm_at "go"
        refine x_fAddT (by have a1 := cutD_len ds none (some (b - 1)); simp only [List.length_cons, List.length_nil]; omega) ?_
        wtm_at "go"
        refine x_fAddT (by have a1 := cutD_len ds none (some (b - 1)); have a2 := cutD_len ds (some (b + 1)) none; simp only [List.length_append, List.length_cons, List.length_nil]; omega) ?_
        wtm_at "go"
        refine h _ _ (.tup fun x hx => ?_) (by omega) (by omega)
        rcases List.mem_append.mp hx with hx | hx
        · rcases List.mem_append.mp hx with hx | hx
          · exact tame x hx
          · simp only [List.mem_cons, List.not_mem_nil, or_false] at hx
            rcases hx with rfl | rfl
            · exact tx
            · exact tx1
        · exact tame x hx
      | false =>
        wtm_at "go"
        refine ih j rfl (hi x0 hmem) (by omega) fun d' k td k1 k2 => ?_
        wtm_at "bk"
        wtm_at "go"
        refine x_fAddT (by have a1 := cutD_len ds none (some b); simp only [List.length_cons, List.length_nil]; omega) ?_
        wtm_at "go"
        refine x_fAddT (by have a1 := cutD_len ds none (some b); have a2 := cutD_len ds (some (b + 1)) none; simp only [List.length_append, List.length_cons, List.length_nil]; omega) ?_
        wtm_at "go"
        refine h _ _ (.tup fun x hx => ?_) (by omega) (by omega)
        rcases List.mem_append.mp hx with hx | hx
        · rcases List.mem_append.mp hx with hx | hx
          · exact tame x hx
          · rw [List.mem_singleton.mp hx]; exact td
        · exact tame x hx
    | false =>
      wtm_at "go"
      refine ih j rfl (hi x0 hmem) (by omega) fun d' k td k1 k2 => ?_
      wtm_at "bk"
      wtm_at "go"
      refine x_fAddT (by have a1 := cutD_len ds none (some b); simp only [List.length_cons, List.length_nil]; omega) ?_
      wtm_at "go"
      refine x_fAddT (by have a1 := cutD_len ds none (some b); have a2 := cutD_len ds (some (b + 1)) none; simp only [List.length_append, List.length_cons, List.length_nil]; omega) ?_
      wtm_at "go"
      refine h _ _ (.tup fun x hx => ?_) (by omega) (by omega)
      rcases List.mem_append.mp hx with hx | hx
      · rcases List.mem_append.mp hx with hx | hx
        · exact tame x hx
        · rw [List.mem_singleton.mp hx]; exact td
      · exact tame x hx
theorem k__law_bent : ∀ m : Nat, Bent K m
  | 0 => bent_step fun j e => absurd e (by omega)
  | m + 1 => bent_step fun j e => by
    obtain rfl : m = j := by omega
    exact k__law_bent m
end
end K81

/-! part R10 -/
namespace K81
open PySem PySem.Spec PyProof.Rows L2 Evl Lk LamX Mk
/-! dates in order -/
abbrev tri (q : Int × Int × Int) : List Int := [q.1, q.2.1, q.2.2]
def okDate (q : Int × Int × Int) : Prop := isDate (.tuple [.int q.1, .int q.2.1, .int q.2.2]) = true
theorem isDate_is {y m k : Int} (h : isDate (.tuple [.int y, .int m, .int k]) = true) : 1 ≤ y ∧ y ≤ last ∧ 1 ≤ m ∧ m ≤ 12 ∧ 1 ≤ k ∧ k ≤ 31 := by
  have e : isDate (.tuple [.int y, .int m, .int k]) = ((decide (1 ≤ y) && decide (y ≤ last)) && (decide (1 ≤ m) && decide (m ≤ 12)) && (decide (1 ≤ k) && decide (k ≤ monthDays y m))) := rfl
  rw [e] at h
  simp only [Bool.and_eq_true, decide_eq_true_eq] at h
  obtain ⟨⟨⟨h1, h2⟩, h3, h4⟩, h5, h6⟩ := h
  have := monthDays_bd (y := y) h3 h4
  exact ⟨h1, h2, h3, h4, h5, by omega⟩
def topB : Int := last + 100
theorem tri_bd {q : Int × Int × Int} (h : okDate q) : TS.Bd topB (tri q) := by
  obtain ⟨h1, h2, h3, h4, h5, h6⟩ := isDate_is h
  intro m hm
  have L := last_eq'
  unfold topB
  simp only [tri, List.mem_cons, List.not_mem_nil, or_false] at hm
  rcases hm with rfl | rfl | rfl <;> constructor <;> omega
theorem code_le {p q : Int × Int × Int} (hp : okDate p) (hq : okDate q) (h : TS.code topB (tri p) ≤ TS.code topB (tri q)) (hne : tri p ≠ tri q) : le3 q.1 q.2.1 q.2.2 p.1 p.2.1 p.2.2 = false := by
  obtain ⟨a, b, c⟩ := p
  obtain ⟨y, m, k⟩ := q
  have bp := tri_bd hp
  have bq := tri_bd hq
  simp only [tri] at h hne bp bq
  unfold le3
  simp only
  refine decide_eq_false ?_
  rintro (h1 | ⟨rfl, h1 | ⟨rfl, h1⟩⟩)
  · have := TS.code_lt (B := topB) (r := [m, k]) (q := [b, c]) rfl bq.tail bp.tail h1
    omega
  · have := TS.code_lt (B := topB) (r := [k]) (q := [c]) rfl bq.tail.tail bp.tail.tail h1
    have e1 : TS.code topB [y, m, k] = y * topB ^ 2 + TS.code topB [m, k] := rfl
    have e2 : TS.code topB [y, b, c] = y * topB ^ 2 + TS.code topB [b, c] := rfl
    rw [e1, e2] at h
    omega
  · have e1 : TS.code topB [y, m, k] = y * topB ^ 2 + (m * topB ^ 1 + TS.code topB [k]) := rfl
    have e2 : TS.code topB [y, m, c] = y * topB ^ 2 + (m * topB ^ 1 + TS.code topB [c]) := rfl
    have e3 : TS.code topB [k] = k := by
      show k * topB ^ 0 + 0 = k
      rw [Int.pow_zero]; omega
    have e4 : TS.code topB [c] = c := by
      show c * topB ^ 0 + 0 = c
      rw [Int.pow_zero]; omega
    rw [e1, e2, e3, e4] at h
    have : k = c := by omega
    subst this
    exact hne rfl
def datesEnd (longest : Int) : Int → Int → Int → List PyData → Option (Int × Int × Int)
  | a, b, c, [] => some (a, b, c)
  | a, b, c, p :: r => match dateStep longest a b c p with
    | some (y, m, n) => datesEnd longest y m n r
    | none => none
theorem datesGo_end {L : Int} : ∀ {l : List PyData} {a b c : Int}, datesGo L a b c l = (datesEnd L a b c l).isSome
  | [], _, _, _ => rfl
  | p :: r, a, b, c => by
    rw [datesGo, datesEnd]
    cases dateStep L a b c p with
    | none => rfl
    | some q => exact datesGo_end
theorem datesEnd_app {L : Int} : ∀ {l : List PyData} {a b c y m n : Int} {p : PyData}, datesEnd L a b c l = some (y, m, n) → datesEnd L a b c (l ++ [p]) = dateStep L y m n p
  | [], a, b, c, y, m, n, p, e => by
    cases e
    show datesEnd L a b c [p] = _
    rw [datesEnd]
    cases dateStep L a b c p with
    | none => rfl
    | some q => rfl
  | x :: l, a, b, c, y, m, n, p, e => by
    rw [datesEnd] at e
    rw [List.cons_append, datesEnd]
    split at e
    · exact datesEnd_app e
    · cases e
theorem dateStep_yes {a b c y m k : Int} {e : PyData} (h : isDate (.tuple [.int y, .int m, .int k]) = true) (he : isPlan 6 e = true) (hl : le3 y m k a b c = false) : dateStep 6 a b c (.tuple [.tuple [.int y, .int m, .int k], e]) = some (y, m, k) := by
  show (if isDate (.tuple [.int y, .int m, .int k]) && isPlan 6 e && !le3 y m k a b c then some (y, m, k) else none) = _
  rw [h, he, hl]
  rfl
theorem tups_of : ∀ {out : List (List Int)} {qs : List (Int × Int × Int)}, (∀ k ∈ out, k ∈ qs.map tri) → ∃ ps : List (Int × Int × Int), out = ps.map tri ∧ ∀ p ∈ ps, p ∈ qs
  | [], _, _ => ⟨[], rfl, fun _ h => by cases h⟩
  | k :: out, qs, h => by
    obtain ⟨q, hq, rfl⟩ := List.mem_map.mp (h k List.mem_cons_self)
    obtain ⟨ps, rfl, hp⟩ := tups_of (out := out) fun k hk => h k (List.mem_cons_of_mem _ hk)
    refine ⟨q :: ps, rfl, fun p hp' => ?_⟩
    rcases List.mem_cons.mp hp' with rfl | hp'
    · exact hq
    · exact hp p hp'
/-- ascending dates -/
def ascD : Int × Int × Int → List (Int × Int × Int) → Prop
  | _, [] => True
  | a, q :: r => le3 q.1 q.2.1 q.2.2 a.1 a.2.1 a.2.2 = false ∧ ascD q r
theorem ascD_of : ∀ {ps : List (Int × Int × Int)} {a : Int × Int × Int}, okDate a → (∀ p ∈ ps, okDate p) → ((a :: ps).map tri).Nodup → ((a :: ps).map tri).Pairwise (fun x y => TS.code topB x ≤ TS.code topB y) → ascD a ps
  | [], _, _, _, _, _ => trivial
  | q :: r, a, ha, hp, nd, pw => by
    rw [List.map_cons, List.nodup_cons] at nd
    rw [List.map_cons, List.pairwise_cons] at pw
    have hq := hp q List.mem_cons_self
    refine ⟨code_le ha hq (pw.1 _ List.mem_cons_self) fun z => nd.1 (z ▸ List.mem_cons_self), ascD_of hq (fun p h => hp p (List.mem_cons_of_mem _ h)) nd.2 pw.2⟩
theorem ascD_zero {ps : List (Int × Int × Int)} (hp : ∀ p ∈ ps, okDate p) (nd : (ps.map tri).Nodup) (pw : (ps.map tri).Pairwise (fun x y => TS.code topB x ≤ TS.code topB y)) : ascD (0, 0, 0) ps := by
  cases ps with
  | nil => trivial
  | cons q r =>
    have hq := hp q List.mem_cons_self
    have := isDate_is hq
    refine ⟨?_, ascD_of hq (fun p h => hp p (List.mem_cons_of_mem _ h)) nd pw⟩
    unfold le3
    exact decide_eq_false (by simp only; omega)
theorem isCal_of {ws rs ds : List PyData} (h1 : ws.length = 7) (h2 : ∀ p ∈ ws, isPlan 6 p = true) (h3 : rs.length ≤ 8) (h4 : ∀ p ∈ rs, isRule p = true) (h5 : ds.length ≤ 8) (h6 : datesGo 6 0 0 0 ds = true) : isCalendar (.tuple [.str "calendar", .tuple ws, .tuple rs, .tuple ds]) = true := by
  show (decide (("calendar" : Str) = "calendar") && ((decide (((ws.length : Nat) : Int) = 7) && ws.all (isPlan 6)) && ((decide (((rs.length : Nat) : Int) ≤ 8) && rs.all isRule) && (decide (((ds.length : Nat) : Int) ≤ 8) && datesGo 6 0 0 0 ds)))) = true
  rw [decide_eq_true rfl, decide_eq_true (by omega), decide_eq_true (by omega), decide_eq_true (by omega), h6, List.all_eq_true.mpr h2, List.all_eq_true.mpr h4]
  rfl
section
variable {K : PySem.W.Frag} {n : Nat} {Q : O → List O → Nat → Prop} {X : Addr → List O → Nat → Prop}
theorem cut_two {ps : List PyData} (h : ps.length = 3) : 0 < (Mk.cutD ps none (some 2)).length ∧ (Mk.cutD ps none (some 2)).length ≤ 100000 ∧ ∀ d ∈ Mk.cutD ps none (some 2), d ∈ ps := by
  match ps, h with
  | [a, b, c], _ =>
    have e : Mk.cutD [a, b, c] none (some 2) = [a, b] := rfl
    rw [e]
    refine ⟨by simp, by simp, fun d hd => ?_⟩
    simp only [List.mem_cons, List.not_mem_nil, or_false] at hd ⊢
    rcases hd with rfl | rfl <;> simp
theorem k__law_calendar {dense : Bool} (hn : n + 2000 < far) (h : ∀ d k, isCalendar d = true → n ≤ k → k ≤ n + 2000 → Q (.dat d) [.st, .lst fourModes, .dat (.bool dense)] k) : d__law_calendar K [.st, .lst fourModes, .dat (.bool dense)] n Q X := by
  unfold d__law_calendar b__law_calendar
  wtm_at "in"
  wtm_at "go"
  refine x_lcI (fun r acc s => ∃ k, s = ⟨[some .st, some (.lst fourModes), some (.dat (.bool dense)), none, none, none, none, none, none], k, [0, 1]⟩ ∧ (∀ p ∈ acc, isPlan 6 p = true) ∧ acc.length + r.length = 3 ∧ n ≤ k ∧ k + 20 * r.length ≤ n + 60) ?_ ?_ ⟨n, rfl, fun p hp => by (cases hp), by decide, Nat.le_refl _, by (show n + 20 * 3 ≤ _; omega)⟩
  · rintro d r acc s A B ⟨k, rfl, hp, hl, k1, k2⟩ hA hB
    rw [List.length_cons] at hl k2
    cases dense
    · wtm_at "go"
      refine k__law_plan (by decide) (by decide) (by omega) fun p k' hpl h1 h2 => ?_
      wtm_at "bk"
      wtm_at "go"
      refine hA _ _ (by omega) ⟨k', rfl, fun q hq => ?_, by rw [List.length_append, List.length_singleton]; omega, by omega, by omega⟩
      rcases List.mem_append.mp hq with hq | hq
      · exact hp q hq
      · rw [List.mem_singleton.mp hq]; exact hpl
    · wtm_at "go"
      refine k__law_plan (by decide) (by decide) (by omega) fun p k' hpl h1 h2 => ?_
      wtm_at "bk"
      wtm_at "go"
      refine hA _ _ (by omega) ⟨k', rfl, fun q hq => ?_, by rw [List.length_append, List.length_singleton]; omega, by omega, by omega⟩
      rcases List.mem_append.mp hq with hq | hq
      · exact hp q hq
      · rw [List.mem_singleton.mp hq]; exact hpl
  rintro plans s ⟨k, rfl, hp, hl, k1, k2⟩
  rw [List.length_nil] at hl k2
  have hl : plans.length = 3 := hl
  obtain ⟨c1, c2, c3⟩ := cut_two hl
  wtm_at "gs"
  with_reducible refine x_mid (fun s => ∃ ws k, s = ⟨[some .st, some (.lst fourModes), some (.dat (.bool dense)), some (.lst plans), none, some (.dat (.tuple ws)), none, none, none], k, [0, 1]⟩ ∧ ws.length = 7 ∧ (∀ p ∈ ws, isPlan 6 p = true) ∧ n ≤ k ∧ k ≤ n + 100) (fun N hN => ?_) ?_
  · cases dense
    · wtm_at "go"
      have hat : atI plans 0 = some (plans.getD 0 .none) := by
        refine atI_nat (j := 0) ?_
        rw [List.getD_eq_getElem?_getD, List.getElem?_eq_getElem (by omega)]
        rfl
      have hpl : isPlan 6 (plans.getD 0 .none) = true := by
        rw [List.getD_eq_getElem?_getD, List.getElem?_eq_getElem (by omega)]
        exact hp _ (List.getElem_mem _)
      generalize plans.getD 0 .none = p0 at hat hpl
      wtm_at "go"
      refine x_fMulT (by simp) (by decide) (by decide) (by simp) ?_
      wtm_at "go"
      refine hN _ ⟨_, k, rfl, rfl, fun p hp => ?_, by omega, by omega⟩
      have e : (List.replicate (7 : Int).toNat [p0]).flatten = [p0, p0, p0, p0, p0, p0, p0] := rfl
      rw [e] at hp
      simp only [List.mem_cons, List.not_mem_nil, or_false, or_self] at hp
      rw [hp]; exact hpl
    · wtm_at "go"
      refine x_lcI (fun r acc s => ∃ k', s = ⟨[some .st, some (.lst fourModes), some (.dat (.bool true)), some (.lst plans), none, none, none, none, none], k', [0, 1]⟩ ∧ (∀ p ∈ acc, isPlan 6 p = true) ∧ acc.length + r.length = 7 ∧ n ≤ k' ∧ k' + r.length ≤ n + 67) ?_ ?_ ⟨k, rfl, fun p hp => by (cases hp), by decide, by omega, by (show k + 7 ≤ _; omega)⟩
      · rintro d r acc s A B ⟨k, rfl, hap, hal, k1, k2⟩ hA hB
        rw [List.length_cons] at hal k2
        wtm_at "go"
        refine k_pick_l c1 c2 (by omega) fun x hx => ?_
        wtm_at "bk"
        wtm_at "go"
        refine hA _ _ (by omega) ⟨k + 1, rfl, fun q hq => ?_, by rw [List.length_append, List.length_singleton]; omega, by omega, by omega⟩
        rcases List.mem_append.mp hq with hq | hq
        · exact hap q hq
        · rw [List.mem_singleton.mp hq]; exact hp _ (c3 _ hx)
      rintro ws s ⟨k, rfl, hwp, hwl, k1, k2⟩
      rw [List.length_nil] at hwl k2
      wtm_at "go"
      exact hN _ ⟨ws, k, rfl, by omega, hwp, by omega, by omega⟩
  · rintro s ⟨ws, k, rfl, hw, hwp, k1, k2⟩
    wtm_at "go"
    refine k_pick_l (by simp) (by simp) (by omega) fun x hx => ?_
    wtm_at "bk"
    obtain ⟨c, rfl, hc0, hc8⟩ : ∃ c : Int, x = .int c ∧ 0 ≤ c ∧ c ≤ 8 := by
      simp only [List.mem_cons, List.not_mem_nil, or_false] at hx
      rcases hx with rfl | rfl | rfl | rfl | rfl <;> exact ⟨_, rfl, by decide, by decide⟩
    wtm_at "go"
    refine x_lcI (fun r acc s => ∃ k', s = ⟨[some .st, some (.lst fourModes), some (.dat (.bool dense)), some (.lst plans), none, some (.dat (.tuple ws)), none, none, none], k', [0, 1]⟩ ∧ (∀ p ∈ acc, isRule p = true) ∧ acc.length + r.length ≤ 8 ∧ n ≤ k' ∧ k' + 100 * r.length ≤ n + 901) ?_ ?_ ⟨k + 1, rfl, fun p hp => by (cases hp), by (simp [Mk.intsFrom]; omega), by omega, by (simp [Mk.intsFrom]; omega)⟩
    · rintro d r acc s A B ⟨k, rfl, hp, hl, k1, k2⟩ hA hB
      rw [List.length_cons] at hl k2
      wtm_at "go"
      refine k__law_day_rule 3 (by omega) fun w k' hw' h1 h2 => ?_
      wtm_at "bk"
      wtm_at "go"
      refine k__law_plan (by decide) (by decide) (by omega) fun p k'' hpl h1 h2 => ?_
      wtm_at "bk"
      wtm_at "go"
      refine hA _ _ (by omega) ⟨k'', rfl, fun q hq => ?_, by rw [List.length_append, List.length_singleton]; omega, by omega, by omega⟩
      rcases List.mem_append.mp hq with hq | hq
      · exact hp q hq
      · rw [List.mem_singleton.mp hq]
        show (whenOf 4 w && isPlan 6 p) = true
        rw [hw', hpl]; rfl
    rintro rs s ⟨k, rfl, hrp, hrl, k1, k2⟩
    rw [List.length_nil] at hrl k2
    wtm_at "go"
    refine k_pick_l (by simp) (by simp) (by omega) fun x hx => ?_
    wtm_at "bk"
    obtain ⟨c, rfl, hc0, hc8⟩ : ∃ c : Int, x = .int c ∧ 0 ≤ c ∧ c ≤ 8 := by
      simp only [List.mem_cons, List.not_mem_nil, or_false] at hx
      rcases hx with rfl | rfl | rfl | rfl <;> exact ⟨_, rfl, by decide, by decide⟩
    wtm_at "go"
    refine x_lcI (fun r acc s => ∃ k', s = ⟨[some .st, some (.lst fourModes), some (.dat (.bool dense)), some (.lst plans), none, some (.dat (.tuple ws)), some (.dat (.tuple rs)), none, none], k', [0, 1]⟩ ∧ (∃ qs : List (Int × Int × Int), acc = (qs.map tri).map tupI ∧ ∀ q ∈ qs, okDate q) ∧ acc.length + r.length ≤ 8 ∧ n ≤ k' ∧ k' + 20 * r.length ≤ n + 1100) ?_ ?_ ⟨k + 1, rfl, ⟨[], rfl, fun p hp => by (cases hp)⟩, by (simp [Mk.intsFrom]; omega), by omega, by (simp [Mk.intsFrom]; omega)⟩
    · rintro d r acc s A B ⟨k, rfl, ⟨qs, rfl, hq⟩, hl, k1, k2⟩ hA hB
      rw [List.length_cons] at hl k2
      wtm_at "go"
      refine k__law_date (by omega) fun y m dd v yl => ?_
      wtm_at "bk"
      wtm_at "go"
      refine hA _ _ (by omega) ⟨k + 9, rfl, ⟨qs ++ [(y, m, dd)], by simp [tupI], fun q hq' => ?_⟩, by rw [List.length_append, List.length_singleton]; omega, by omega, by omega⟩
      rcases List.mem_append.mp hq' with hq' | hq'
      · exact hq q hq'
      · rw [List.mem_singleton.mp hq']
        show ((decide (1 ≤ y) && decide (y ≤ last)) && (decide (1 ≤ m) && decide (m ≤ 12)) && (decide (1 ≤ dd) && decide (dd ≤ monthDays y m))) = true
        rw [decide_eq_true v.y1, decide_eq_true yl, decide_eq_true v.m1, decide_eq_true v.m2, decide_eq_true v.d1, decide_eq_true v.d2]
        rfl
    rintro acc s ⟨k, rfl, ⟨qs, rfl, hq⟩, hl, k1, k2⟩
    rw [List.length_nil] at hl k2
    have hql : qs.length ≤ 8 := by simpa using hl
    wtm_at "go"
    refine x_fSortT (w := 3) (B := topB) (by rw [List.length_map]; omega) (by decide) (fun e he => ?_) fun out hm nd pw => ?_
    · obtain ⟨q, hq', rfl⟩ := List.mem_map.mp he
      exact ⟨rfl, tri_bd (hq q hq')⟩
    obtain ⟨ps, rfl, hps⟩ := tups_of fun e he => (hm e).mp he
    have okp : ∀ p ∈ ps, okDate p := fun p hp => hq p (hps p hp)
    have lp : ps.length ≤ qs.length := by
      have key : ∀ {a b : List (List Int)}, a.Nodup → (∀ k ∈ a, k ∈ b) → a.length ≤ b.length := by
        intro a
        induction a with
        | nil => intro b _ _; exact Nat.zero_le _
        | cons x a ih =>
          intro b nd h
          have hx := h x List.mem_cons_self
          rw [List.nodup_cons] at nd
          have l := ih (b := b.erase x) nd.2 fun k hk => (List.mem_erase_of_ne (fun z => by subst z; exact nd.1 hk)).mpr (h k (List.mem_cons_of_mem _ hk))
          rw [List.length_erase_of_mem hx] at l
          have : 0 < b.length := List.length_pos_of_mem hx
          rw [List.length_cons]
          omega
      have := key nd fun e he => (hm e).mp he
      rw [List.length_map, List.length_map] at this
      exact this
    have hasc := ascD_zero okp nd pw
    clear hm nd pw hps
    wtm_at "go"
    refine x_lcI (fun r acc s => ∃ k', s = ⟨[some .st, some (.lst fourModes), some (.dat (.bool dense)), some (.lst plans), none, some (.dat (.tuple ws)), some (.dat (.tuple rs)), some (.dat (.list ((ps.map tri).map tupI))), none], k', [0, 1]⟩ ∧ (∃ (us : List (Int × Int × Int)) (a : Int × Int × Int), r = (us.map tri).map tupI ∧ (∀ q ∈ us, okDate q) ∧ ascD a us ∧ datesEnd 6 0 0 0 acc = some a) ∧ acc.length + r.length ≤ 8 ∧ n ≤ k' ∧ k' + 20 * r.length ≤ n + 1300) ?_ ?_ ⟨k, rfl, ⟨ps, (0, 0, 0), rfl, okp, hasc, rfl⟩, by simp; omega, by omega, by simp; omega⟩
    · rintro d r acc s A B ⟨k, rfl, ⟨us, a, hr, hok, has, hend⟩, hl, k1, k2⟩ hA hB
      rw [List.length_cons] at hl k2
      obtain ⟨u, us, rfl⟩ : ∃ u us', us = u :: us' := by
        cases us with
        | nil => cases hr
        | cons u us => exact ⟨u, us, rfl⟩
      rw [List.map_cons, List.map_cons] at hr
      obtain ⟨rfl, rfl⟩ := List.cons.inj hr
      wtm_at "go"
      refine k__law_plan (by decide) (by decide) (by omega) fun p k' hpl h1 h2 => ?_
      wtm_at "bk"
      wtm_at "go"
      refine hA _ _ (by omega) ⟨k', rfl, ⟨us, u, rfl, fun q hq => hok q (List.mem_cons_of_mem _ hq), has.2, ?_⟩, by rw [List.length_append, List.length_singleton]; omega, by omega, by omega⟩
      rw [datesEnd_app hend]
      exact dateStep_yes (hok u List.mem_cons_self) hpl has.1
    rintro ds s ⟨k, rfl, ⟨us, a, hr, hok, has, hend⟩, hl, k1, k2⟩
    rw [List.length_nil] at hl k2
    wtm_at "go"
    refine h _ k (isCal_of hw hwp (by omega) hrp (by omega) ?_) (by omega) (by omega)
    rw [datesGo_end, hend]
    rfl
end
end K81

/-! part R8 -/
namespace K81
open PySem PySem.Spec PyProof.Rows L2 Evl Lk LamX Mk
theorem uniq {α : Type} {r : α → α → Prop} (as : ∀ x y, r x y → r y x → False) : ∀ {a b : List α}, a.Pairwise r → b.Pairwise r → (∀ k, k ∈ a ↔ k ∈ b) → a = b
  | [], [], _, _, _ => rfl
  | [], x :: b, _, _, h => by have := (h x).mpr List.mem_cons_self; cases this
  | x :: a, [], _, _, h => by have := (h x).mp List.mem_cons_self; cases this
  | x :: a, y :: b, ha, hb, h => by
    rw [List.pairwise_cons] at ha hb
    have e : x = y := by
      rcases List.mem_cons.mp ((h x).mp List.mem_cons_self) with e | h1
      · exact e
      · rcases List.mem_cons.mp ((h y).mpr List.mem_cons_self) with e | h2
        · exact e.symm
        · exact (as _ _ (ha.1 y h2) (hb.1 x h1)).elim
    subst e
    rw [uniq as ha.2 hb.2 fun k => ?_]
    constructor
    · intro hk
      rcases List.mem_cons.mp ((h k).mp (List.mem_cons_of_mem _ hk)) with e | h1
      · subst e
        have := ha.1 k hk
        exact (as _ _ this this).elim
      · exact h1
    · intro hk
      rcases List.mem_cons.mp ((h k).mpr (List.mem_cons_of_mem _ hk)) with e | h1
      · subst e
        have := hb.1 k hk
        exact (as _ _ this this).elim
      · exact h1
def lt3 (p q : Int × Int × Int) : Prop := le3 q.1 q.2.1 q.2.2 p.1 p.2.1 p.2.2 = false
theorem lt3_iff {p q : Int × Int × Int} : lt3 p q ↔ ¬ (q.1 < p.1 ∨ (q.1 = p.1 ∧ (q.2.1 < p.2.1 ∨ (q.2.1 = p.2.1 ∧ q.2.2 ≤ p.2.2)))) := by
  unfold lt3 le3
  rw [decide_eq_false_iff_not]
theorem lt3_as (x y : Int × Int × Int) (h1 : lt3 x y) (h2 : lt3 y x) : False := by
  rw [lt3_iff] at h1 h2
  omega
theorem lt3_tr {x y z : Int × Int × Int} (h1 : lt3 x y) (h2 : lt3 y z) : lt3 x z := by
  rw [lt3_iff] at h1 h2 ⊢
  omega
theorem ascD_pw : ∀ {ps : List (Int × Int × Int)} {a : Int × Int × Int}, ascD a ps → (∀ p ∈ ps, lt3 a p) ∧ ps.Pairwise lt3
  | [], _, _ => ⟨(fun _ h => by cases h), List.Pairwise.nil⟩
  | q :: r, a, h => by
    obtain ⟨h1, h2⟩ := ascD_pw h.2
    refine ⟨fun p hp => ?_, List.pairwise_cons.mpr ⟨h1, h2⟩⟩
    rcases List.mem_cons.mp hp with rfl | hp
    · exact h.1
    · exact lt3_tr h.1 (h1 p hp)
theorem tri_inj {p q : Int × Int × Int} (h : tri p = tri q) : p = q := by
  obtain ⟨a, b, c⟩ := p
  obtain ⟨x, y, z⟩ := q
  simp only [tri, List.cons.injEq] at h
  obtain ⟨rfl, rfl, rfl, _⟩ := h
  rfl
theorem pw_code : ∀ {ps : List (Int × Int × Int)}, (∀ p ∈ ps, okDate p) → (ps.map tri).Nodup → (ps.map tri).Pairwise (fun x y => TS.code topB x ≤ TS.code topB y) → ps.Pairwise lt3
  | [], _, _, _ => List.Pairwise.nil
  | q :: r, ok, nd, pw => by
    rw [List.map_cons, List.nodup_cons] at nd
    rw [List.map_cons, List.pairwise_cons] at pw
    refine List.pairwise_cons.mpr ⟨fun p hp => ?_, pw_code (fun p hp => ok p (List.mem_cons_of_mem _ hp)) nd.2 pw.2⟩
    have hm : tri p ∈ r.map tri := List.mem_map_of_mem hp
    exact code_le (ok q List.mem_cons_self) (ok p (List.mem_cons_of_mem _ hp)) (pw.1 _ hm) fun z => nd.1 (z ▸ hm)
theorem sorted_iff {qs : List (Int × Int × Int)} {out : List (List Int)} (ok : ∀ q ∈ qs, okDate q) (hm : ∀ k, k ∈ out ↔ k ∈ qs.map tri) (nd : out.Nodup) (pw : out.Pairwise (fun x y => TS.code topB x ≤ TS.code topB y)) : qs.map tri = out ↔ ascD (0, 0, 0) qs := by
  constructor
  · rintro rfl
    exact ascD_zero ok nd pw
  · intro h
    obtain ⟨ps, rfl, hps⟩ := tups_of fun e he => (hm e).mp he
    have hp := pw_code (fun p hp => ok p (hps p hp)) nd pw
    rw [uniq lt3_as (ascD_pw h).2 hp fun k => ⟨fun hk => ?_, hps k⟩]
    obtain ⟨p, hp, e⟩ := List.mem_map.mp ((hm (tri k)).mpr (List.mem_map_of_mem hk))
    rw [← tri_inj e]
    exact hp
theorem eqv_tups : ∀ {a b : List (List Int)}, PyData.eqvAll (a.map tupI) (b.map tupI) = decide (a = b)
  | [], [] => by simp [PyData.eqvAll]
  | [], x :: b => by simp [PyData.eqvAll]
  | x :: a, [] => by simp [PyData.eqvAll]
  | x :: a, y :: b => by
    have e : PyData.eqv (tupI x) (tupI y) = decide (x = y) := by
      unfold tupI
      rw [← eqv_ints]
      simp [PyData.eqv]
    rw [List.map_cons, List.map_cons, PyData.eqvAll, e, eqv_tups]
    by_cases h1 : x = y <;> by_cases h2 : a = b <;> simp [h1, h2]
theorem eqd_tups {a b : List (List Int)} : eqd (.list (a.map tupI)) (.list (b.map tupI)) = decide (a = b) := by
  unfold eqd
  rw [← eqv_tups]
  simp [PyData.eqv]
theorem shaped_tups {a : List (List Int)} (h : ∀ k ∈ a, k.length ≤ 1000) : SeqAt.shaped (.list (a.map tupI)) = true := shaped_list (k := 1) (fun d hd => by
  obtain ⟨x, hx, rfl⟩ := List.mem_map.mp hd
  refine .tup (by rw [List.length_map]; exact h x hx) fun d hd => ?_
  obtain ⟨i, _, rfl⟩ := List.mem_map.mp hd
  exact .int) (by decide)
/-! rows of pairs with a plan -/
def rowOk : PyData → Bool
  | .tuple [_, b] => isPlan 6 b
  | _ => false
def rowsOk : PyData → Bool
  | .tuple ds => decide ((ds.length : Int) ≤ 8) && ds.all rowOk
  | _ => false
theorem rowOk_is {p : PyData} (h : rowOk p = true) : ∃ a b, p = .tuple [a, b] ∧ isPlan 6 b = true := by
  unfold rowOk at h
  split at h
  · exact ⟨_, _, rfl, h⟩
  · cases h
theorem rowOk_len {es : List PyData} (h : es.length ≠ 2) : rowOk (.tuple es) = false := by
  match es, h with
  | [], _ => rfl
  | [_], _ => rfl
  | [_, _], h => exact (h rfl).elim
  | _ :: _ :: _ :: _, _ => rfl
theorem rules_rows {d : PyData} (h : isRules d = true) : rowsOk d = true := by
  unfold isRules at h
  split at h
  · rename_i ds
    rw [Bool.and_eq_true] at h
    show (decide ((ds.length : Int) ≤ 8) && ds.all rowOk) = true
    rw [h.1, Bool.true_and, List.all_eq_true]
    intro p hp
    obtain ⟨w, e, rfl, _, he⟩ := rule_is (List.all_eq_true.mp h.2 p hp)
    exact he
  · cases h
theorem dates_rows {d : PyData} (h : isDates 8 6 d = true) : rowsOk d = true := by
  unfold isDates at h
  split at h
  · rename_i ds
    rw [Bool.and_eq_true] at h
    show (decide ((ds.length : Int) ≤ 8) && ds.all rowOk) = true
    rw [h.1, Bool.true_and, List.all_eq_true]
    intro p hp
    obtain ⟨x, e, rfl, _, he⟩ := datesGo_pt h.2 p hp
    exact he
  · cases h
theorem rules_all {rs : List PyData} (h : rowsOk (.tuple rs) = true) : isRules (.tuple rs) = rs.all fun p => whenOf 4 (itemD 0 p) := by
  have h : (decide ((rs.length : Int) ≤ 8) && rs.all rowOk) = true := h
  rw [Bool.and_eq_true] at h
  have e : isRules (.tuple rs) = (decide (((rs.length : Nat) : Int) ≤ 8) && rs.all isRule) := rfl
  rw [e, h.1, Bool.true_and]
  rw [Bool.eq_iff_iff, List.all_eq_true, List.all_eq_true]
  refine ⟨fun z p hp => ?_, fun z p hp => ?_⟩
  · obtain ⟨w, e, rfl, hw, _⟩ := rule_is (z p hp)
    exact hw
  · obtain ⟨w, e, rfl, he⟩ := rowOk_is (List.all_eq_true.mp h.2 p hp)
    have hw : whenOf 4 w = true := z _ hp
    show (whenOf 4 w && isPlan 6 e) = true
    rw [hw, he]; rfl
abbrev dayRow (u : (Int × Int × Int) × PyData) : PyData := .tuple [tupI (tri u.1), u.2]
theorem dates_of : ∀ {ds : List PyData}, ds.all rowOk = true → (ds.all fun p => isDate (itemD 0 p)) = true → ∃ us : List ((Int × Int × Int) × PyData), ds = us.map dayRow ∧ ∀ u ∈ us, okDate u.1 ∧ isPlan 6 u.2 = true
  | [], _, _ => ⟨[], rfl, fun _ h => by cases h⟩
  | p :: r, h1, h2 => by
    rw [List.all_cons, Bool.and_eq_true] at h1 h2
    obtain ⟨x, e, rfl, he⟩ := rowOk_is h1.1
    have hx : isDate x = true := h2.1
    obtain ⟨y, m, k, rfl⟩ := isDate_ints hx
    obtain ⟨us, rfl, hu⟩ := dates_of h1.2 h2.2
    refine ⟨((y, m, k), e) :: us, rfl, fun u hu' => ?_⟩
    rcases List.mem_cons.mp hu' with rfl | hu'
    · exact ⟨hx, he⟩
    · exact hu u hu'
theorem datesGo_us : ∀ {us : List ((Int × Int × Int) × PyData)} {a : Int × Int × Int}, (∀ u ∈ us, okDate u.1 ∧ isPlan 6 u.2 = true) → (datesGo 6 a.1 a.2.1 a.2.2 (us.map dayRow) = true ↔ ascD a (us.map (·.1)))
  | [], _, _ => ⟨fun _ => trivial, fun _ => rfl⟩
  | u :: us, a, ok => by
    obtain ⟨h1, h2⟩ := ok u List.mem_cons_self
    have h1' : isDate (.tuple [.int u.1.1, .int u.1.2.1, .int u.1.2.2]) = true := h1
    have e : dateStep 6 a.1 a.2.1 a.2.2 (dayRow u) = if isDate (.tuple [.int u.1.1, .int u.1.2.1, .int u.1.2.2]) && isPlan 6 u.2 && !le3 u.1.1 u.1.2.1 u.1.2.2 a.1 a.2.1 a.2.2 then some (u.1.1, u.1.2.1, u.1.2.2) else none := rfl
    rw [List.map_cons, List.map_cons, datesGo, e, h1', h2]
    cases hl : le3 u.1.1 u.1.2.1 u.1.2.2 a.1 a.2.1 a.2.2 with
    | true =>
      simp only [Bool.not_true, Bool.and_false, Bool.false_eq_true, if_false]
      refine ⟨fun z => ?_, fun z => ?_⟩
      · exact absurd z (by simp)
      · have := z.1
        rw [hl] at this
        cases this
    | false =>
      simp only [Bool.not_false, Bool.and_true, Bool.true_and, if_true]
      have := datesGo_us (us := us) (a := u.1) fun u hu => ok u (List.mem_cons_of_mem _ hu)
      rw [this]
      exact ⟨fun z => ⟨hl, z⟩, fun z => z.2⟩
section
variable {K : PySem.W.Frag} {n : Nat} {Q : O → List O → Nat → Prop} {X : Addr → List O → Nat → Prop}
local macro_rules | `(tactic| wtm_at "k") => `(tactic| first
  | ((with_reducible refine' k__law_is_plan ?a ?h); (case a => assumption))
  | (with_reducible refine k__law_is_day ?_))
theorem k__law_is_yearly {d : PyData} (t : Tame d) (h : Q (.dat (.bool (isCalendar d))) [.dat d] n) : d__law_is_yearly K [.dat d] n Q X := by
  unfold d__law_is_yearly b__law_is_yearly
  cases d with
  | tuple ds =>
    rcases four_or ds with ⟨w, week, rules, dates, rfl⟩ | hl
    · have tw := t.item (d := w) (by simp)
      have twk := t.item (d := week) (by simp)
      have tr := t.item (d := rules) (by simp)
      have td := t.item (d := dates) (by simp)
      have hc : isCalendar (.tuple [w, week, rules, dates]) = (strIs "calendar" w && (isWeek week && (isRules rules && isDates 8 6 dates))) := rfl
      rw [hc] at h
      cases w with
      | str z =>
        have zk := tw.ok
        cases hz : decide (z = "calendar") with
        | false =>
          have e : strIs "calendar" (.str z) = false := hz
          rw [e] at h
          wtm_at "in"
          wtm_at "go"
          exact h
        | true =>
          have e : strIs "calendar" (.str z) = true := hz
          rw [e, Bool.true_and] at h
          wtm_at "in"
          wtm_at "go"
          cases week with
          | tuple wk =>
            have hw : isWeek (.tuple wk) = (decide (((wk.length : Nat) : Int) = 7) && wk.all (isPlan 6)) := rfl
            cases h7 : decide ((wk.length : Int) = 7) with
            | false =>
              rw [hw, h7] at h
              wtm_at "go"
              exact h
            | true =>
              have l7 := of_decide_eq_true h7
              rw [hw, h7, Bool.true_and] at h
              wtm_at "go"
              refine x_lcL (fun p => !isPlan 6 p) (fun _ => .int 1) (by simp; omega) (fun p hp A B hA hB => ?_) ?_
              · have tp := twk.item hp
                wtm_at "all"
                · rename_i c
                  exact hA c
                · rename_i c
                  exact hB c
              rw [List.nil_append]
              have hsh := shaped_ints (fun _ : PyData => 1) (fun p => !isPlan 6 p) wk
              have key : eqd (.list ((wk.filter fun p => !isPlan 6 p).map fun _ => PyData.int 1)) (.list []) = wk.all (isPlan 6) := by
                rw [none_kept]; simp
              cases hall : wk.all (isPlan 6) with
              | false =>
                rw [hall] at h key
                wtm_at "go"
                exact h
              | true =>
                rw [hall, Bool.true_and] at h
                rw [hall] at key
                wtm_at "go"
                have no : (rowsOk rules && rowsOk dates) = false → Q (.dat (.bool false)) [.dat (.tuple [.str z, .tuple wk, rules, dates])] n := fun q => by
                  have : (isRules rules && isDates 8 6 dates) = false := by
                    cases r : (isRules rules && isDates 8 6 dates) with
                    | false => rfl
                    | true =>
                      rw [Bool.and_eq_true] at r
                      rw [rules_rows r.1, dates_rows r.2] at q
                      cases q
                  rw [this] at h
                  exact h
                refine x_forI (fun r s => ∃ u5 u6, s = ⟨[some (.dat (.tuple [.str z, .tuple wk, rules, dates])), some (.dat (.tuple wk)), some (.dat rules), some (.dat dates), none, u5, u6, none], n, []⟩ ∧ (∀ p ∈ r, Tame p) ∧ (rowsOk rules && rowsOk dates) = r.all rowsOk) ?_ ?_ ⟨none, none, rfl, fun p hp => ?_, ?_⟩
                · rintro p r s N ⟨u5, u6, rfl, ht, inv⟩ hN
                  have tp := ht p List.mem_cons_self
                  rw [List.all_cons] at inv
                  cases p with
                  | tuple es =>
                    have hr : rowsOk (.tuple es) = (decide ((es.length : Int) ≤ 8) && es.all rowOk) := rfl
                    cases h8 : decide (8 < (es.length : Int)) with
                    | true =>
                      have e8 : decide ((es.length : Int) ≤ 8) = false := decide_eq_false (by have := of_decide_eq_true h8; omega)
                      rw [hr, e8] at inv
                      wtm_at "go"
                      exact no inv
                    | false =>
                      have e8 : decide ((es.length : Int) ≤ 8) = true := decide_eq_true (by have := of_decide_eq_false h8; omega)
                      rw [hr, e8, Bool.true_and] at inv
                      wtm_at "go"
                      refine x_forI (fun q s => ∃ u6, s = ⟨[some (.dat (.tuple [.str z, .tuple wk, rules, dates])), some (.dat (.tuple wk)), some (.dat rules), some (.dat dates), none, some (.dat (.tuple es)), u6, none], n, []⟩ ∧ (∀ p ∈ q, Tame p) ∧ es.all rowOk = q.all rowOk) ?_ ?_ ⟨u6, rfl, fun p hp => tp.item hp, rfl⟩
                      · rintro one q s M ⟨u6, rfl, hq, inv2⟩ hM
                        have tone := hq one List.mem_cons_self
                        rw [List.all_cons] at inv2
                        have no2 : rowOk one = false → Q (.dat (.bool false)) [.dat (.tuple [.str z, .tuple wk, rules, dates])] n := fun z => by
                          rw [inv2, z] at inv
                          exact no inv
                        cases one with
                        | tuple fs =>
                          rcases two_or fs with ⟨x, y, rfl⟩ | hl
                          · have ty := tone.item (d := y) (by simp)
                            have hro : rowOk (.tuple [x, y]) = isPlan 6 y := rfl
                            cases hy : isPlan 6 y
                            · wtm_at "go"
                              exact no2 (by rw [hro, hy])
                            · wtm_at "go"
                              exact hM _ ⟨_, rfl, fun d hd => hq d (List.mem_cons_of_mem _ hd), by rw [inv2, hro, hy, Bool.true_and]⟩
                          · have dl : decide ((fs.length : Int) = 2) = false := decide_eq_false (by omega)
                            wtm_at "go"
                            exact no2 (rowOk_len hl)
                        | _ =>
                          wtm_at "go"
                          exact no2 rfl
                      · rintro s ⟨u6, rfl, _, inv2⟩
                        rw [inv2, List.all_nil, Bool.true_and] at inv
                        exact hN _ ⟨_, _, rfl, fun d hd => ht d (List.mem_cons_of_mem _ hd), inv⟩
                  | _ =>
                    wtm_at "go"
                    exact no inv
                · rintro s ⟨u5, u6, rfl, _, inv⟩
                  rw [List.all_nil, Bool.and_eq_true] at inv
                  obtain ⟨ir, id⟩ := inv
                  clear no
                  cases rules with
                  | tuple rs =>
                    cases dates with
                    | tuple dd =>
                      have br : (decide ((rs.length : Int) ≤ 8) && rs.all rowOk) = true := ir
                      have bd : (decide ((dd.length : Int) ≤ 8) && dd.all rowOk) = true := id
                      rw [Bool.and_eq_true, decide_eq_true_eq] at br bd
                      rw [rules_all ir] at h
                      have hdd : isDates 8 6 (.tuple dd) = datesGo 6 0 0 0 dd := by
                        show (decide (((dd.length : Nat) : Int) ≤ 8) && datesGo 6 0 0 0 dd) = _
                        rw [decide_eq_true bd.1, Bool.true_and]
                      rw [hdd] at h
                      wtm_at "go"
                      refine x_lcL (fun p => !whenOf 4 (itemD 0 p)) (fun _ => .int 1) (by simp; omega) (fun p hp A B hA hB => ?_) ?_
                      · obtain ⟨x, y, rfl, _⟩ := rowOk_is (List.all_eq_true.mp br.2 p hp)
                        have tx := (tr.item hp).item (d := x) (by simp)
                        wtm_at "go"
                        refine k__law_is_rule_day 4 tx ?_
                        wtm_at "all"
                        · rename_i c
                          exact hA c
                        · rename_i c
                          exact hB c
                      rw [List.nil_append]
                      have hsh1 := shaped_ints (fun _ : PyData => 1) (fun p => !whenOf 4 (itemD 0 p)) rs
                      have key1 : eqd (.list ((rs.filter fun p => !whenOf 4 (itemD 0 p)).map fun _ => PyData.int 1)) (.list []) = rs.all fun p => whenOf 4 (itemD 0 p) := by
                        rw [none_kept]; simp
                      cases hr4 : rs.all fun p => whenOf 4 (itemD 0 p) with
                      | false =>
                        rw [hr4] at h key1
                        wtm_at "go"
                        exact h
                      | true =>
                        rw [hr4, Bool.true_and] at h
                        rw [hr4] at key1
                        wtm_at "go"
                        refine x_lcL (fun p => !isDate (itemD 0 p)) (fun _ => .int 1) (by simp; omega) (fun p hp A B hA hB => ?_) ?_
                        · obtain ⟨x, y, rfl, _⟩ := rowOk_is (List.all_eq_true.mp bd.2 p hp)
                          wtm_at "all"
                          · rename_i c
                            exact hA c
                          · rename_i c
                            exact hB c
                        rw [List.nil_append]
                        have hsh2 := shaped_ints (fun _ : PyData => 1) (fun p => !isDate (itemD 0 p)) dd
                        have key2 : eqd (.list ((dd.filter fun p => !isDate (itemD 0 p)).map fun _ => PyData.int 1)) (.list []) = dd.all fun p => isDate (itemD 0 p) := by
                          rw [none_kept]; simp
                        cases hd4 : dd.all fun p => isDate (itemD 0 p) with
                        | false =>
                          have : datesGo 6 0 0 0 dd = false := by
                            cases q : datesGo 6 0 0 0 dd with
                            | false => rfl
                            | true =>
                              have : (dd.all fun p => isDate (itemD 0 p)) = true := List.all_eq_true.mpr fun p hp => by
                                obtain ⟨x, e, rfl, hx, _⟩ := datesGo_pt q p hp
                                exact hx
                              rw [hd4] at this
                              cases this
                          rw [this] at h
                          rw [hd4] at key2
                          wtm_at "go"
                          exact h
                        | true =>
                          rw [hd4] at key2
                          obtain ⟨us, rfl, ok⟩ := dates_of bd.2 hd4
                          wtm_at "go"
                          have ul : us.length ≤ 8 := by have := bd.1; rw [List.length_map] at this; omega
                          have e1 : us.map (fun u => tupI (tri u.1)) = ((us.map (·.1)).map tri).map tupI := by simp
                          refine x_lcA (l := us) dayRow (fun u => tupI (tri u.1)) (by omega) (fun u hu A hA => ?_) ?_
                          · wtm_at "go"
                            exact hA
                          rw [e1]
                          wtm_at "go"
                          refine x_lcA (l := us) dayRow (fun u => tupI (tri u.1)) (by omega) (fun u hu A hA => ?_) ?_
                          · wtm_at "go"
                            exact hA
                          rw [e1]
                          wtm_at "go"
                          have oku : ∀ q ∈ us.map (·.1), okDate q := fun q hq => by
                            obtain ⟨u, hu, rfl⟩ := List.mem_map.mp hq
                            exact (ok u hu).1
                          refine x_fSortT (w := 3) (B := topB) (by simp; omega) (by decide) (fun e he => ?_) fun out hm nd pw => ?_
                          · obtain ⟨q, hq', rfl⟩ := List.mem_map.mp he
                            exact ⟨rfl, tri_bd (oku q hq')⟩
                          have key3 : eqd (.list (((us.map (·.1)).map tri).map tupI)) (.list (out.map tupI)) = datesGo 6 0 0 0 (us.map dayRow) := by
                            rw [eqd_tups, Bool.eq_iff_iff, decide_eq_true_eq, sorted_iff oku hm nd pw]
                            exact (datesGo_us (a := (0, 0, 0)) ok).symm
                          have s1 : SeqAt.shaped (.list (((us.map (·.1)).map tri).map tupI)) = true := shaped_tups fun k hk => by
                            obtain ⟨q, _, rfl⟩ := List.mem_map.mp hk
                            show 3 ≤ 1000
                            decide
                          have s2 : SeqAt.shaped (.list (out.map tupI)) = true := shaped_tups fun k hk => by
                            obtain ⟨q, _, rfl⟩ := List.mem_map.mp ((hm k).mp hk)
                            show 3 ≤ 1000
                            decide
                          wtm_at "go"
                          exact x_fin h (by rw [key3])
                    | _ => cases id
                  | _ => cases ir
                · simp only [List.mem_cons, List.not_mem_nil, or_false] at hp
                  rcases hp with rfl | rfl
                  · exact tr
                  · exact td
                · rw [List.all_cons, List.all_cons, List.all_nil, Bool.and_true]
          | _ =>
            wtm_at "go"
            exact h
      | _ =>
        wtm_at "in"
        wtm_at "go"
        exact h
    · rw [isCal_len hl] at h
      have dl : decide ((ds.length : Int) = 4) = false := decide_eq_false (by omega)
      wtm_at "in"
      wtm_at "go"
      exact h
  | _ =>
    wtm_at "in"
    wtm_at "go"
    exact h
end
end K81

/-! part R11 -/
namespace K81
open PySem PySem.Spec PyProof.Rows L2 Evl Lk LamX Mk
/-! dates of any numbers -/
theorem lp_shift (a q : Int) : lp (a - 400 * q) = lp a := by
  unfold lp
  rw [lp_mod (a - 400 * q), lp_mod a]
  rw [show (a - 400 * q - 1) % 400 = (a - 1) % 400 by omega]
theorem month_shift (a q b : Int) : monthDays (a - 400 * q) b = monthDays a b := by
  rw [monthDays_eq, monthDays_eq, lp_shift]
theorem any_number (i : Int) : ∃ q y m d, numberAt y m d = i + 146097 * q ∧ Valid y m d := by
  obtain ⟨y, m, d, h, v⟩ := date_of_int (i := i + 146097 * (i.natAbs : Int)) (by omega)
  exact ⟨_, y, m, d, h, v⟩
theorem number_last (y : Int) : numberAt y 12 31 = yearBegin (y + 1) - 1 := by
  unfold numberAt
  rw [diy_last, yb_succ]
  omega
theorem eqvAll_self : ∀ {ds : List PyData}, (∀ d ∈ ds, PyData.eqv d d = true) → PyData.eqvAll ds ds = true
  | [], _ => by simp [PyData.eqvAll]
  | a :: ds, h => by
    rw [PyData.eqvAll, h a List.mem_cons_self, Bool.true_and]
    exact eqvAll_self fun d hd => h d (List.mem_cons_of_mem _ hd)
theorem eqd_self {k : Nat} {d : PyData} (h : Pt k d) : eqd d d = true := by
  unfold eqd
  induction h with
  | int => simp [PyData.eqv]
  | str => simp [PyData.eqv]
  | tup _ _ ih => simpa [PyData.eqv] using eqvAll_self ih
section
variable {K : PySem.W.Frag} {n : Nat} {Q : O → List O → Nat → Prop} {X : Addr → List O → Nat → Prop}
theorem k__law_dated_any {i q y m d : Int} (e : numberAt y m d = i + 146097 * q) (v : Valid y m d) (h : Q (.dat (.tuple [.int (y - 400 * q), .int m, .int d])) [.dat (.int i)] n) : d__law_dated K [.dat (.int i)] n Q X := by
  obtain ⟨E, r, u, pa, p, e1, e2, e3, e4, e5, e6, e7, e8⟩ := dated v
  have f1 : (i + 306) / 146097 = E - q := by
    rw [← e1, e]
    omega
  have f2 : i + 306 - (E - q) * 146097 = r := by
    rw [← e2, e]
    omega
  unfold d__law_dated b__law_dated
  wtm_at "in"
  wtm_at "go"
  simp only [f1, f2, e3, e4, e5]
  wtm_at "all"
  all_goals
    rename_i c
    refine x_fin h ?_
    wtm_at "hy"
  · rw [if_pos c] at e7
    rw [e6, e7]
    generalize (if m < 3 then (1 : Int) else 0) = z at e8 ⊢
    rw [show u + (E - q) * 400 + z = y - 400 * q by omega]
  · rw [if_neg c] at e7
    rw [e6, e7]
    generalize (if m < 3 then (1 : Int) else 0) = z at e8 ⊢
    rw [show u + (E - q) * 400 + z = y - 400 * q by omega]
end
end K81

/-! part R12 -/
namespace K81
open PySem PySem.Spec PyProof.Rows L2 Evl Lk LamX Mk
theorem when_tuple {m : Nat} {d : PyData} (h : whenOf m d = true) : ∃ es, d = .tuple es := by
  cases m with
  | zero => cases h
  | succ m =>
    match d, h with
    | .tuple es, _ => exact ⟨es, rfl⟩
theorem three_date {a b c : Int} : Pt 1 (.tuple [.int a, .int b, .int c]) := .tup (by simp) fun d hd => by
  simp only [List.mem_cons, List.not_mem_nil, or_false] at hd
  rcases hd with rfl | rfl | rfl <;> exact .int
theorem e30 : (10 : Int) ^ (30 : Int).toNat = last := by decide
section
variable {K : PySem.W.Frag} {n : Nat} {Q : O → List O → Nat → Prop} {X : Addr → List O → Nat → Prop}
local macro_rules | `(tactic| wtm_at "k") => `(tactic| first
  | ((with_reducible refine' k__law_number ?a ?b ?h); (case a => omega); (case b => omega)))
theorem k__law_told_right {w : PyData} {ws rs ds : List PyData} {y : Int} (x : Xf K) (hc : isCalendar (.tuple [w, .tuple ws, .tuple rs, .tuple ds]) = true) (y1 : 1 ≤ y) (y2 : y ≤ last) (hn : n + 100 < far) (h : ∀ k, n ≤ k → k ≤ n + 100 → Q (.dat (.bool true)) [.st, .dat (.tuple [w, .tuple ws, .tuple rs, .tuple ds]), .dat (.int y)] k) : d__law_told_right K [.st, .dat (.tuple [w, .tuple ws, .tuple rs, .tuple ds]), .dat (.int y)] n Q X := by
  obtain ⟨ws', rs', ds', e, hw, hwp, hrl, hrp, hdl, hdp⟩ := cal_is hc
  cases e
  unfold d__law_told_right b__law_told_right
  wtm_at "in"
  wtm_at "go"
  refine x_forI (fun r s => ∃ u3 u4 u5 u6, s = ⟨[some .st, some (.dat (.tuple [.str "calendar", .tuple ws, .tuple rs, .tuple ds])), some (.dat (.int y)), u3, u4, u5, u6, none, none], n, [0]⟩ ∧ ∀ p ∈ r, isRule p = true) ?_ ?_ ⟨none, none, none, none, rfl, hrp⟩
  · rintro p r s N ⟨u3, u4, u5, u6, rfl, hp⟩ hN
    obtain ⟨wh, e, rfl, hw4, he⟩ := rule_is (hp p List.mem_cons_self)
    have tw := (when_pt hw4).tame
    have hp' : ∀ p ∈ r, isRule p = true := fun p h => hp p (List.mem_cons_of_mem _ h)
    wtm_at "go"
    refine k__law_when_day 4 tw hw4 ?_
    cases hday : dayOf y 4 wh with
    | none =>
      simp only [optD]
      wtm_at "go"
      refine k_told_day_none tw hw4 y1 y2 (fun i z => by rw [hday] at z; cases z) ?_
      dsimp only
      wtm_at "go"
      exact hN _ ⟨_, _, _, _, rfl, hp'⟩
    | some i =>
      simp only [optD]
      wtm_at "go"
      cases c1 : decide (0 ≤ i) with
      | false =>
        wtm_at "go"
        refine k_told_day_none tw hw4 y1 y2 (fun j z => by
          rw [hday] at z
          cases z
          unfold inDays
          rw [c1]; rfl) ?_
        dsimp only
        wtm_at "go"
        exact hN _ ⟨_, _, _, _, rfl, hp'⟩
      | true =>
        wtm_at "go"
        refine x_fPow ⟨by decide, by decide, by decide⟩ ?_
        rw [e30]
        wtm_at "go"
        rw [number_last]
        cases c2 : decide (i ≤ yearBegin (last + 1) - 1) with
        | false =>
          have c2' : decide (i < yearBegin (last + 1)) = false := decide_eq_false (by have := of_decide_eq_false c2; omega)
          wtm_at "go"
          refine k_told_day_none tw hw4 y1 y2 (fun j z => by
            rw [hday] at z
            cases z
            unfold inDays
            rw [c2', Bool.and_false]) ?_
          dsimp only
          wtm_at "go"
          exact hN _ ⟨_, _, _, _, rfl, hp'⟩
        | true =>
          have c2' : decide (i < yearBegin (last + 1)) = true := decide_eq_true (by have := of_decide_eq_true c2; omega)
          obtain ⟨a, b, c, rfl, v⟩ := date_of_int (of_decide_eq_true c1)
          have hin : inDays (numberAt a b c) = true := by
            unfold inDays
            rw [c1, c2']; rfl
          have sd := (three_date (a := a) (b := b) (c := c)).shaped (by decide)
          have ed := eqd_self (three_date (a := a) (b := b) (c := c))
          wtm_at "go"
          refine k__law_dated v ?_
          wtm_at "go"
          refine k_told_day_some tw hw4 y1 y2 hday hin v ?_
          dsimp only
          wtm_at "go"
          exact hN _ ⟨_, _, _, _, rfl, hp'⟩
  · rintro s ⟨u3, u4, u5, u6, rfl, _⟩
    wtm_at "go"
    refine k__law_day_rule 3 (by omega) fun wh k hw4 k1 k2 => ?_
    obtain ⟨es, rfl⟩ := when_tuple hw4
    have pw := when_pt hw4
    have tw := pw.tame
    wtm_at "bk"
    wtm_at "go"
    refine k__law_bent 8 (pw.mono (by decide)) (by omega) fun b kb tb k3 k4 => ?_
    wtm_at "bk"
    wtm_at "go"
    refine k_pick_l (by simp) (by simp) (by omega) fun bad hb => ?_
    wtm_at "bk"
    have tbad : Tame bad := by
      have two : ∀ {a b : PyData}, Tame a → Tame b → Tame (.tuple [a, b]) := fun ha hb => .tup fun d hd => by
        simp only [List.mem_cons, List.not_mem_nil, or_false] at hd
        rcases hd with rfl | rfl
        · exact ha
        · exact hb
      have three : ∀ {a b c : PyData}, Tame a → Tame b → Tame c → Tame (.tuple [a, b, c]) := fun ha hb hc => .tup fun d hd => by
        simp only [List.mem_cons, List.not_mem_nil, or_false] at hd
        rcases hd with rfl | rfl | rfl
        · exact ha
        · exact hb
        · exact hc
      have four : ∀ {a b c e : PyData}, Tame a → Tame b → Tame c → Tame e → Tame (.tuple [a, b, c, e]) := fun ha hb hc he => .tup fun d hd => by
        simp only [List.mem_cons, List.not_mem_nil, or_false] at hd
        rcases hd with rfl | rfl | rfl | rfl
        · exact ha
        · exact hb
        · exact hc
        · exact he
      have sh : Tame (.str "shift") := .str (by decide +kernel) (by decide +kernel)
      simp only [List.mem_cons, List.not_mem_nil, or_false] at hb
      rcases hb with rfl | rfl | rfl | rfl
      · exact three sh (three sh (four (.str (by decide +kernel) (by decide +kernel)) (three sh tw .int) .int .int) .int) .int
      · exact tb
      · exact .tup fun d hd => tw.item (cutD_mem hd)
      · exact .none
    wtm_at "gs"
    with_reducible refine x_mid (fun s => s = ⟨[some .st, some (.dat (.tuple [.str "calendar", .tuple ws, .tuple rs, .tuple ds])), some (.dat (.int y)), some (.dat (.tuple es)), u4, u5, u6, some (.dat bad), none], kb + 1, [0]⟩) (fun N hN => ?_) ?_
    · wtm_at "go"
      refine k__law_is_rule_day 4 tbad ?_
      cases hb4 : whenOf 4 bad with
      | true =>
        wtm_at "go"
        exact hN _ rfl
      | false =>
        wtm_at "go"
        refine k_told_day_no tbad hb4 ?_
        refine ⟨x.k_BadWhen, ?_⟩
        refine x_isEX x.e_BadWhen x.i_BadWhen_BadWhen ?_
        wtm_at "go"
        exact hN _ rfl
    · rintro s rfl
      wtm_at "go"
      refine x_fPow ⟨by decide, by decide, by decide⟩ ?_
      rw [e30]
      wtm_at "go"
      refine k_pick_l (by simp) (by simp) (by omega) fun odd ho => ?_
      wtm_at "bk"
      have hodd : isWhole odd 1 last = false := by
        simp only [List.mem_cons, List.not_mem_nil, or_false] at ho
        have L := last_eq'
        rcases ho with rfl | rfl | rfl | rfl | rfl
        · rfl
        · rfl
        · rfl
        · show (decide (1 ≤ last + 1) && decide (last + 1 ≤ last)) = false
          rw [decide_eq_false (show ¬ last + 1 ≤ last by omega), Bool.and_false]
        · rfl
      wtm_at "go"
      refine k_told_day_year tw hw4 hodd ?_
      refine ⟨x.k_BadYear, ?_⟩
      refine x_isEX x.e_BadYear x.i_BadYear_BadYear ?_
      wtm_at "go"
      exact h _ (by omega) (by omega)
/-- dates, or what lies ahead of year 1 -/
def raw (d : PyData) : Prop := ∃ a b c, d = .tuple [.int a, .int b, .int c] ∧ (1 ≤ a → Valid a b c)
def yearOf : PyData → Int
  | .tuple (.int a :: _) => a
  | _ => 0
theorem raw_date {d : PyData} (h : isDate d = true) : raw d := by
  obtain ⟨a, b, c, rfl⟩ := isDate_ints h
  exact ⟨a, b, c, rfl, fun _ => (date_valid h).1⟩
theorem k__law_days {w : PyData} {ws rs ds : List PyData} (hc : isCalendar (.tuple [w, .tuple ws, .tuple rs, .tuple ds]) = true) (hn : n + 200 < far) (h : ∀ L k, (∀ d ∈ L, isDate d = true) → L.length ≤ 26 → n ≤ k → k ≤ n + 200 → Q (.lst L) [.st, .dat (.tuple [w, .tuple ws, .tuple rs, .tuple ds])] k) : d__law_days K [.st, .dat (.tuple [w, .tuple ws, .tuple rs, .tuple ds])] n Q X := by
  obtain ⟨ws', rs', ds', e, hw, hwp, hrl, hrp, hdl, hdp⟩ := cal_is hc
  cases e
  have hdr := datesGo_pt hdp
  unfold d__law_days b__law_days
  wtm_at "in"
  wtm_at "go"
  refine k__law_date (by omega) fun a b c v yl => ?_
  wtm_at "bk"
  wtm_at "go"
  refine k__law_date (by omega) fun a' b' c' v' yl' => ?_
  wtm_at "bk"
  wtm_at "go"
  refine x_lcL (fun _ => true) (itemD 0) (by simp; omega) (fun p hp A B hA _ => ?_) ?_
  · obtain ⟨x, e, rfl, _⟩ := hdr p hp
    wtm_at "go"
    exact hA rfl
  rw [filter_true, List.nil_append]
  have r0 : ∀ d ∈ [PyData.tuple [.int a, .int b, .int c], .tuple [.int a', .int b', .int c']] ++ ds.map (itemD 0), raw d := by
    intro d hd
    rcases List.mem_append.mp hd with hd | hd
    · simp only [List.mem_cons, List.not_mem_nil, or_false] at hd
      rcases hd with rfl | rfl
      · exact ⟨_, _, _, rfl, fun _ => v⟩
      · exact ⟨_, _, _, rfl, fun _ => v'⟩
    · obtain ⟨p, hp, rfl⟩ := List.mem_map.mp hd
      obtain ⟨x, e, rfl, hx, _⟩ := hdr p hp
      exact raw_date hx
  have l0 : ([PyData.tuple [.int a, .int b, .int c], .tuple [.int a', .int b', .int c']] ++ ds.map (itemD 0)).length ≤ 10 := by
    simp; omega
  wtm_at "go"
  refine x_fAddL (by rw [List.length_append] at l0; omega) ?_
  generalize [PyData.tuple [.int a, .int b, .int c], .tuple [.int a', .int b', .int c']] ++ ds.map (itemD 0) = found0 at r0 l0
  wtm_at "go"
  refine x_forI (fun r s => ∃ found u4 u5 u6 k, s = ⟨[some .st, some (.dat (.tuple [.str "calendar", .tuple ws, .tuple rs, .tuple ds])), some (.lst found), none, u4, u5, u6, none], k, [0]⟩ ∧ (∀ d ∈ found, raw d) ∧ (∀ p ∈ r, isRule p = true) ∧ found.length + 2 * r.length ≤ 26 ∧ n ≤ k ∧ k + 6 * r.length ≤ n + 66) ?_ ?_ ⟨found0, none, none, none, n + 9 + 9, rfl, r0, hrp, by omega, by omega, by omega⟩
  · rintro p r s N ⟨found, u4, u5, u6, k, rfl, hf, hp, hlen, k1, k2⟩ hN
    rw [List.length_cons] at hlen k2
    obtain ⟨wh, e, rfl, hw4, he⟩ := rule_is (hp p List.mem_cons_self)
    have tw := (when_pt hw4).tame
    have hp' : ∀ p ∈ r, isRule p = true := fun p h => hp p (List.mem_cons_of_mem _ h)
    wtm_at "go"
    refine k__law_year (by omega) fun yy yy1 yy2 => ?_
    wtm_at "bk"
    wtm_at "go"
    refine k__law_when_day 4 tw hw4 ?_
    cases hday : dayOf yy 4 wh with
    | none =>
      simp only [optD]
      wtm_at "go"
      refine x_fAddL (by simp; omega) ?_
      wtm_at "go"
      exact hN _ ⟨_, _, _, _, k + 5, rfl, fun d hd => hf d (by simpa using hd), hp', by simp; omega, by omega, by omega⟩
    | some i =>
      simp only [optD]
      wtm_at "go"
      refine k_pick_l (by simp) (by simp) (by omega) fun z hz => ?_
      wtm_at "bk"
      obtain ⟨j, rfl⟩ : ∃ j : Int, z = .int j := by
        simp only [List.mem_cons, List.not_mem_nil, or_false] at hz
        rcases hz with rfl | rfl <;> exact ⟨_, rfl⟩
      wtm_at "go"
      refine x_lcI (fun q acc s => s = ⟨[some .st, some (.dat (.tuple [.str "calendar", .tuple ws, .tuple rs, .tuple ds])), some (.lst found), none, some (.dat e), some (.dat wh), some (.dat (.int i)), none], k + 5 + 1, [0]⟩ ∧ (∀ d ∈ acc, raw d) ∧ (∀ d ∈ q, ∃ j : Int, d = .int j) ∧ acc.length + q.length = 2) ?_ ?_ ⟨rfl, fun d hd => by (cases hd), fun d hd => ?_, rfl⟩
      · rintro d q acc s A B ⟨rfl, ha, hq, hl⟩ hA hB
        rw [List.length_cons] at hl
        obtain ⟨j, rfl⟩ := hq d List.mem_cons_self
        obtain ⟨t, yy, mm, dd, en, vn⟩ := any_number (i + j)
        wtm_at "go"
        refine k__law_dated_any en vn ?_
        wtm_at "go"
        refine hA _ _ (by omega) ⟨rfl, fun x hx => ?_, fun d hd => hq d (List.mem_cons_of_mem _ hd), by rw [List.length_append, List.length_singleton]; omega⟩
        rcases List.mem_append.mp hx with hx | hx
        · exact ha x hx
        · rw [List.mem_singleton.mp hx]
          exact ⟨_, _, _, rfl, fun h1 => ⟨h1, vn.m1, vn.m2, vn.d1, by rw [month_shift]; exact vn.d2⟩⟩
      · rintro acc s ⟨rfl, ha, _, hl⟩
        rw [List.length_nil] at hl
        wtm_at "go"
        refine x_fAddL (by omega) ?_
        wtm_at "go"
        refine hN _ ⟨_, _, _, _, k + 5 + 1, rfl, fun d hd => ?_, hp', by rw [List.length_append]; omega, by omega, by omega⟩
        rcases List.mem_append.mp hd with hd | hd
        · exact hf d hd
        · exact ha d hd
      · simp only [List.mem_cons, List.not_mem_nil, or_false] at hd
        rcases hd with rfl | rfl <;> exact ⟨_, rfl⟩
  · rintro s ⟨found, u4, u5, u6, k, rfl, hf, _, hlen, k1, k2⟩
    rw [List.length_nil] at hlen k2
    wtm_at "go"
    refine x_lcL (fun d => decide (1 ≤ yearOf d) && decide (yearOf d ≤ last)) (fun d => d) (by simp; omega) (fun d hd A B hA hB => ?_) ?_
    · obtain ⟨x, y, z, rfl, _⟩ := hf d hd
      have ey : yearOf (.tuple [.int x, .int y, .int z]) = x := rfl
      rw [ey] at hA hB
      wtm_at "go"
      cases c1 : decide (1 ≤ x) with
      | false =>
        rw [c1] at hB
        wtm_at "go"
        exact hB rfl
      | true =>
        rw [c1, Bool.true_and] at hA hB
        wtm_at "go"
        refine x_fPow ⟨by decide, by decide, by decide⟩ ?_
        rw [e30]
        wtm_at "all"
        · rename_i c2
          exact hA c2
        · rename_i c2
          exact hB c2
    rw [List.nil_append, List.map_id']
    wtm_at "go"
    refine h _ k (fun d hd => ?_) ?_ (by omega) (by omega)
    · obtain ⟨hd, hk⟩ := List.mem_filter.mp hd
      obtain ⟨x, y, z, rfl, hv⟩ := hf d hd
      have ey : yearOf (.tuple [.int x, .int y, .int z]) = x := rfl
      rw [ey, Bool.and_eq_true, decide_eq_true_eq, decide_eq_true_eq] at hk
      exact date_of_valid (hv hk.1) hk.2
    · have := List.length_filter_le (fun d => decide (1 ≤ yearOf d) && decide (yearOf d ≤ last)) found
      omega
theorem mode_pt {hr : Int} {ps : List PyData} (hp : isPlan 6 (.tuple ps) = true) (h0 : 0 ≤ hr) : Pt 0 (modeAt hr ps) := by
  obtain ⟨_, e, l1, l2, pairs, hf⟩ := isPlan_is hp
  cases e
  have hpos := modesAt_pos h0 hf
  have hg : planGo (-1) "" ps = true := by
    unfold isPlan at hp
    simp only [Bool.and_eq_true] at hp
    exact hp.1.2
  unfold modeAt
  have hi : (modesAt hr ps).length - 1 < (modesAt hr ps).length := by omega
  rw [List.getD_eq_getElem?_getD, List.getElem?_eq_getElem hi]
  have hm := List.getElem_mem hi
  show Pt 0 ((modesAt hr ps)[(modesAt hr ps).length - 1])
  generalize (modesAt hr ps)[(modesAt hr ps).length - 1] = d at hm
  unfold modesAt at hm
  obtain ⟨p, hp', rfl⟩ := List.mem_map.mp hm
  have hp' := (List.mem_filter.mp hp').1
  obtain ⟨i, s, rfl⟩ := pairs p hp'
  have := planGo_pt hg _ hp'
  cases this with
  | tup _ z => exact z (.str s) (by simp)
theorem k__law_calendar_right {w : PyData} {ws rs ds : List PyData} (x : Xf K) (hc : isCalendar (.tuple [w, .tuple ws, .tuple rs, .tuple ds]) = true) (hn : n + 300 < far) (h : ∀ k, n ≤ k → k ≤ n + 300 → Q (.dat (.bool true)) [.st, .dat (.tuple [w, .tuple ws, .tuple rs, .tuple ds])] k) : d__law_calendar_right K [.st, .dat (.tuple [w, .tuple ws, .tuple rs, .tuple ds])] n Q X := by
  unfold d__law_calendar_right b__law_calendar_right
  wtm_at "in"
  wtm_at "go"
  refine k__law_days hc (by omega) fun L k hL hlen k1 k2 => ?_
  wtm_at "bk"
  wtm_at "go"
  refine x_forI (fun r s => ∃ u2 u3 u4 k, s = ⟨[some .st, some (.dat (.tuple [w, .tuple ws, .tuple rs, .tuple ds])), u2, u3, u4, none], k, [0]⟩ ∧ (∀ d ∈ r, isDate d = true) ∧ n ≤ k ∧ k + r.length ≤ n + 230) ?_ ?_ ⟨none, none, none, k, rfl, hL, k1, by omega⟩
  · rintro d r s N ⟨u2, u3, u4, k, rfl, hd, k1, k2⟩ hN
    rw [List.length_cons] at k2
    have hdd := hd d List.mem_cons_self
    obtain ⟨a, b, c, rfl⟩ := isDate_ints hdd
    have v := (date_valid hdd).1
    have hp := planOn_is hc v
    obtain ⟨ps, e, _⟩ := isPlan_is hp
    rw [e] at hp
    have pp := plan_pt hp (by decide)
    have sp := pp.shaped (by decide)
    have ep := eqd_self pp
    wtm_at "go"
    refine k__law_plan_of hc v ?_
    rw [e]
    wtm_at "go"
    refine k_draw (by omega) (by decide +kernel) (by omega) fun hr h0 h1 => ?_
    wtm_at "bk"
    have pm := mode_pt hp h0
    have sm := pm.shaped (by decide)
    have em := eqd_self pm
    wtm_at "go"
    refine k_plan_on hc hdd ?_
    dsimp only
    rw [e]
    wtm_at "go"
    refine k_mode_at hc hdd h0 (by omega) fun ps' e' hp' => ?_
    rw [e] at e'
    cases e'
    wtm_at "go"
    refine k__law_mode hp h0 ?_
    wtm_at "go"
    exact hN _ ⟨_, _, _, k + 1, rfl, fun d h => hd d (List.mem_cons_of_mem _ h), by omega, by omega⟩
  · rintro s ⟨u2, u3, u4, k, rfl, _, k1, k2⟩
    rw [List.length_nil] at k2
    wtm_at "go"
    refine k__law_date (by omega) fun a b c v yl => ?_
    wtm_at "bk"
    wtm_at "go"
    refine x_fPow ⟨by decide, by decide, by decide⟩ ?_
    rw [e30]
    wtm_at "go"
    refine k_pick_l (by simp) (by simp) (by omega) fun odd ho => ?_
    wtm_at "bk"
    have hodd : isWhole odd 0 23 = false := by
      simp only [List.mem_cons, List.not_mem_nil, or_false] at ho
      have L := last_eq'
      rcases ho with rfl | rfl | rfl | rfl | rfl | rfl
      · rfl
      · rfl
      · rfl
      · rfl
      · rfl
      · show (decide (0 ≤ last) && decide (last ≤ 23)) = false
        rw [decide_eq_false (show ¬ last ≤ 23 by omega), Bool.and_false]
    wtm_at "go"
    refine k_mode_at_bad hc (date_of_valid v yl) hodd ?_
    refine ⟨x.k_BadHour, ?_⟩
    refine x_isEX x.e_BadHour x.i_BadHour_BadHour ?_
    wtm_at "go"
    exact h _ (by omega) (by omega)
end
end K81

/-! part Pl -/
namespace K81
open PySem PySem.Spec PyProof.Rows L2 Evl Lk LamX Mk
/-! the law itself -/
theorem law_ok {K : PySem.W.Frag} (x : Xf K) (ns : List Int) (hl : ns.length ≤ 63) : d_law K [.dat (.list (ns.map PyData.int))] 0 (fun o _ _ => o = .dat (.bool true)) (fun _ _ _ => False) := by
  have fl : far = 1000000000000 := rfl
  unfold d_law b_law
  wtm_at "in"
  wtm_at "go"
  refine x_begun (by omega) ?_
  wtm_at "go"
  refine x_forI (fun r s => ∃ u2 u3 u4 u5 u6 k, s = ⟨[some (.dat (.list (ns.map PyData.int))), some .st, u2, u3, u4, u5, u6], k, []⟩ ∧ k + 4000 * r.length ≤ 12000) ?_ ?_ ⟨none, none, none, none, none, 0, rfl, ?_⟩
  · rintro d r s N ⟨u2, u3, u4, u5, u6, k, rfl, k1⟩ hN
    rw [List.length_cons] at k1
    wtm_at "go"
    refine k_draw (by omega) (by decide +kernel) (by omega) fun a a0 a1 => ?_
    wtm_at "bk"
    wtm_at "go"
    refine k__law_calendar (by omega) fun cal ka hc ka1 ka2 => ?_
    wtm_at "bk"
    have pc := cal_pt hc
    have tc := pc.tame
    have hc' := hc
    obtain ⟨ws, rs, ds, rfl, _⟩ := cal_is hc'
    wtm_at "go"
    refine k_is_calendar tc ?_
    rw [hc]
    wtm_at "go"
    refine k__law_calendar_right x hc (by omega) fun kb kb1 kb2 => ?_
    wtm_at "bk"
    wtm_at "go"
    refine k__law_year (by omega) fun y y1 y2 => ?_
    wtm_at "bk"
    wtm_at "go"
    refine k__law_told_right x hc y1 y2 (by omega) fun kc kc1 kc2 => ?_
    wtm_at "bk"
    wtm_at "go"
    refine x_forI (fun q s => ∃ u4 u5 u6 k', s = ⟨[some (.dat (.list (ns.map PyData.int))), some .st, some (.dat d), some (.dat (.tuple [.str "calendar", .tuple ws, .tuple rs, .tuple ds])), u4, u5, u6], k', []⟩ ∧ k' + 30 * q.length ≤ k + 3000) ?_ ?_ ⟨u4, u5, u6, kc, rfl, ?_⟩
    · rintro e q s M ⟨u4, u5, u6, k', rfl, k2⟩ hM
      rw [List.length_cons] at k2
      wtm_at "go"
      refine k__law_bent 8 (pc.mono (by decide)) (by omega) fun bad kd tb kd1 kd2 => ?_
      wtm_at "bk"
      wtm_at "go"
      refine k_is_calendar tb ?_
      wtm_at "go"
      refine k__law_is_yearly tb ?_
      wtm_at "go"
      refine k__law_tells (isCalendar bad) rfl ?_
      have dt : decide (isCalendar bad = isCalendar bad) = true := decide_eq_true rfl
      wtm_at "go"
      cases hb : isCalendar bad with
      | false =>
        refine k_plan_on_bad tb hb ?_
        refine ⟨x.k_BadCalendar, ?_⟩
        wtm_at "go"
        refine x_isEX x.e_BadCalendar x.i_BadCalendar_BadCalendar ?_
        wtm_at "go"
        refine k__law_is_yearly tb ?_
        rw [hb]
        wtm_at "go"
        refine x_isEX x.e_BadCalendar x.i_BadCalendar_BadCalendar ?_
        wtm_at "go"
        exact hM _ ⟨_, _, _, kd, rfl, by omega⟩
      | true =>
        have hb' := hb
        obtain ⟨ws', rs', ds', rfl, _⟩ := cal_is hb'
        refine k_plan_on hb (date_of_valid (y := 2001) (m := 1) (k := 1) ⟨by decide, by decide, by decide, by decide, by decide⟩ (by decide)) ?_
        wtm_at "go"
        refine x_isEN x.n_BadCalendar ?_
        wtm_at "go"
        refine k__law_is_yearly tb ?_
        rw [hb]
        wtm_at "go"
        exact hM _ ⟨_, _, _, kd, rfl, by omega⟩
    · rintro s ⟨u4, u5, u6, k', rfl, k2⟩
      rw [List.length_nil] at k2
      exact hN _ ⟨_, _, _, _, _, k', rfl, by omega⟩
    · simp [Mk.intsFrom]
      omega
  · rintro s ⟨u2, u3, u4, u5, u6, k, rfl, k1⟩
    wtm_at "go"
    exact rfl
  · have : (1 + if (2 : Int) < ((ns.map PyData.int).length : Int) then 2 else ((ns.map PyData.int).length : Int)).toNat ≤ 3 := by
      split <;> omega
    simp only [Mk.intsFrom, List.length_map, List.length_range] at this ⊢
    omega
end K81

end

section
/-! the walk's small tactics: Ev, EvT, EvD, EvDA by the reading's head -/
local macro_rules | `(tactic| wtm_at "dp") => `(tactic| first
  | assumption
  | exact Lk.Dq.int _
  | exact Lk.Dq.bl _
  | exact Lk.Dq.str _
  | exact Lk.Dq.non
  | fail "dp stops")
local macro_rules | `(tactic| wtm_at "rvc") => `(tactic| first
  | trivial
  | (show (0 : Int) < _; first | decide | omega)
  | exact ⟨by decide, by decide⟩
  | exact ⟨by decide, by decide, by decide⟩
  | exact Or.inl ⟨by decide, by decide⟩
  | exact Or.inr ⟨by decide, by decide⟩
  | exact Or.inl ⟨by omega, by omega⟩
  | exact Or.inr ⟨by omega, by omega⟩
  | assumption
  | fail "rvc stops")
local macro_rules | `(tactic| wtm_at "rv") => `(tactic| first
  | with_reducible exact Evl.rv_I0
  | ((with_reducible refine' Evl.rv_I ?c); (case c => wtm_at "rvc"))
  | ((with_reducible refine' Evl.rv_eq ?c); (case c => rfl))
  | ((with_reducible refine' Evl.rv_ne ?c); (case c => rfl))
  | fail "rv stops")
local macro_rules | `(tactic| wtm_at "rel") => `(tactic| first
  | exact ⟨_, rfl, rfl⟩
  | exact ⟨_, _, rfl, rfl⟩
  | exact ⟨_, _, _, rfl, rfl⟩
  | exact ⟨_, _, _, _, rfl, rfl⟩
  | exact ⟨_, rfl, by omega, rfl⟩
  | exact ⟨_, _, rfl, by omega, by omega, rfl⟩
  | exact ⟨_, _, _, rfl, by omega, by omega, rfl⟩
  | assumption
  | fail "rel stops")
local macro_rules | `(tactic| wtm_at "eda") => `(tactic| first
  | with_reducible exact Lk.eda_nil
  | ((with_reducible refine' Lk.eda_cons ?a ?b); (case a => wtm_at "ed"); (case b => wtm_at "eda"))
  | ((with_reducible refine' Lk.eda_star ?a ?b ?k); (case a => wtm_at "ed"); (case b => wtm_at "eda"); (case k => rfl))
  | fail "eda stops")
local macro_rules | `(tactic| wtm_at "ed") => `(tactic| first
  | ((with_reducible refine' Lk.ed_var ?a ?b); (case a => exact rfl); (case b => wtm_at "dp"))
  | with_reducible exact Lk.ed_cI
  | with_reducible exact Lk.ed_cS
  | with_reducible exact Lk.ed_cN
  | with_reducible exact Lk.ed_cB
  | ((with_reducible refine' Lk.ed_tup ?a ?b); (case a => wtm_at "eda"); (case b => first | decide | exact Nat.le_of_ble_eq_true rfl))
  | ((with_reducible refine' Lk.ed_lst ?a ?b); (case a => wtm_at "eda"); (case b => first | decide | exact Nat.le_of_ble_eq_true rfl))
  | ((with_reducible refine' Lk.ed_call ?a ?b); (case a => wtm_at "eda"); (case b => wtm_at "rel"))
  | ((with_reducible refine' Lk.ed_callK ?a ?b); (case a => wtm_at "eda"); (case b => wtm_at "rel"))
  | ((with_reducible refine' Lk.ed_ixT ?a ?b ?c ?k); (case a => wtm_at "ed"); (case b => wtm_at "ev"); (case c => rfl); (case k => rfl))
  | ((with_reducible refine' Lk.ed_ixL ?a ?b ?c ?k); (case a => wtm_at "ed"); (case b => wtm_at "ev"); (case c => rfl); (case k => rfl))
  | (refine' Lk.ed_ev (v := L2.V.int _) ?a ?b; (case a => wtm_at "ev"); (case b => exact Lk.Dq.int _))
  | (refine' Lk.ed_ev (v := L2.V.bl _) ?a ?b; (case a => wtm_at "ev"); (case b => exact Lk.Dq.bl _))
  | (refine' Lk.ed_ev (v := L2.V.str _) ?a ?b; (case a => wtm_at "ev"); (case b => exact Lk.Dq.str _))
  | fail "ed stops")
local macro_rules | `(tactic| wtm_at "ev") => `(tactic| first
  | with_reducible exact Evl.ev_c
  | ((with_reducible refine' Evl.ev_var ?a); (case a => exact rfl))
  | ((with_reducible refine' Lk.ev_eqD ?a ?b ?c ?d); (case a => wtm_at "ed"); (case b => wtm_at "ed"); (case c => wtm_at "sh"); (case d => wtm_at "sh"))
  | ((with_reducible refine' Lk.ev_neD ?a ?b ?c ?d); (case a => wtm_at "ed"); (case b => wtm_at "ed"); (case c => wtm_at "sh"); (case d => wtm_at "sh"))
  | ((with_reducible refine' Evl.ev_op ?a ?b ?c); (case a => wtm_at "ev"); (case b => wtm_at "ev"); (case c => wtm_at "rv"))
  | ((with_reducible refine' Evl.ev_un ?a ?c); (case a => wtm_at "ev"); (case c => with_reducible exact Evl.ru_neg))
  | ((with_reducible refine' Evl.ev_andV ?a ?b); (case a => wtm_at "ev"); (case b => (intro hb; first | exact (Bool.false_ne_true hb).elim | exact (Bool.false_ne_true hb.symm).elim | wtm_at "ev")); (all_goals try exact false))
  | ((with_reducible refine' Evl.ev_orV ?a ?b); (case a => wtm_at "ev"); (case b => (intro hb; first | exact (Bool.false_ne_true hb).elim | exact (Bool.false_ne_true hb.symm).elim | wtm_at "ev")); (all_goals try exact false))
  | ((with_reducible refine' Lk.ev_chain ?a ?b ?c ?d ?e); (case a => wtm_at "ev"); (case b => wtm_at "ev"); (case c => wtm_at "rv"); (case d => (intro hb; wtm_at "ev")); (case e => (intro hb; wtm_at "rv")))
  | ((with_reducible refine' Evl.ev_notV ?a); (case a => wtm_at "ev"))
  | ((with_reducible refine' Lk.ev_edI (Lk.ed_call ?a ?b)); (case a => wtm_at "eda"); (case b => wtm_at "rel"))
  | ((with_reducible refine' Lk.ev_edB (Lk.ed_call ?a ?b)); (case a => wtm_at "eda"); (case b => wtm_at "rel"))
  | ((with_reducible refine' Lk.ev_edS (Lk.ed_call ?a ?b)); (case a => wtm_at "eda"); (case b => wtm_at "rel"))
  | ((with_reducible refine' Lk.ev_edI (Lk.ed_callK ?a ?b)); (case a => wtm_at "eda"); (case b => wtm_at "rel"))
  | ((with_reducible refine' Lk.ev_edI (Lk.ed_ixT ?a ?b ?c ?k)); (case a => wtm_at "ed"); (case b => wtm_at "ev"); (case c => rfl); (case k => rfl))
  | ((with_reducible refine' Lk.ev_edI (Lk.ed_ixL ?a ?b ?c ?k)); (case a => wtm_at "ed"); (case b => wtm_at "ev"); (case c => rfl); (case k => rfl))
  | ((with_reducible refine' Lk.ev_intI ?a); (case a => wtm_at "ev"))
  | ((with_reducible refine' Lk.ev_abs ?a); (case a => wtm_at "ev"))
  | ((with_reducible refine' Lk.ev_min ?a ?b); (case a => wtm_at "ev"); (case b => wtm_at "ev"))
  | ((with_reducible refine' Lk.ev_lenT ?a); (case a => wtm_at "ed"))
  | ((with_reducible refine' Lk.ev_lenL ?a); (case a => wtm_at "ed"))
  | ((with_reducible refine' Lk.ev_isiD ?a ?b); (case a => wtm_at "ed"); (case b => first
      | with_reducible exact Lk.kit_int _
      | with_reducible exact Lk.kit_bool _
      | with_reducible exact Lk.kit_tup _
      | with_reducible exact Lk.kit_lst _
      | with_reducible exact Lk.kit_str _
      | with_reducible exact Lk.kit_dct _))
  | fail "ev stops")
local macro_rules | `(tactic| wtm_at "ea") => `(tactic| first
  | with_reducible exact Evl.ea_nil
  | ((with_reducible refine' Evl.ea_cons ?a ?b); (case a => wtm_at "ev"); (case b => wtm_at "ea"))
  | fail "ea stops")
local macro_rules | `(tactic| wtm_at "sh") => `(tactic| first
  | rfl
  | assumption
  | decide
  | fail "sh stops")
local macro_rules | `(tactic| wtm_at "et") => `(tactic| first
  | ((with_reducible refine' Evl.et_test ?a); (case a => wtm_at "ev"))
  | ((with_reducible refine' Evl.et_B ?a); (case a => wtm_at "ev"))
  | ((with_reducible refine' Evl.et_and ?a ?b); (case a => wtm_at "et"); (case b => (intro hb; first | exact (Bool.false_ne_true hb).elim | exact (Bool.false_ne_true hb.symm).elim | wtm_at "et")); (all_goals try exact false))
  | ((with_reducible refine' Evl.et_or ?a ?b); (case a => wtm_at "et"); (case b => (intro hb; first | exact (Bool.false_ne_true hb).elim | exact (Bool.false_ne_true hb.symm).elim | wtm_at "et")); (all_goals try exact false))
  | ((with_reducible refine' Evl.et_not ?a); (case a => wtm_at "et"))
  | fail "et stops")

/-! part Pc -/
namespace K81
open PySem PySem.Spec PyProof.Rows L2 Evl Lk LamX Mk
theorem facts {w : World} {K : PySem.W.Frag} {h : Heap} {mg : Str → Option Value} {f : Addr} (X : K.In h) (G : h.Ns mainGlobals mg) (hfa : mg ("law" : Str) = some (.ref f)) (c : He.SaysX faL fnL [] tfL exL w h K) : LawAtS Lw w K (L2.CX Lw.prog w) 16 63 "script" mg f h := by
  have cd : He.SaysD faL fnL K := c.t.d
  have mo := c.more
  unfold exL at mo
  simp only [Bool.and_eq_true] at mo
  obtain ⟨x0, x1, x2, x3, x4, x5, x6, x7, x8, x9, x10, x11, x12, x13, x14, x15, x16, x17, x18, x19, x20, x21, x22, x23, x24, x25, x26, x27, x28, x29, x30, x31, x32, x33, x34, x35⟩ := mo
  obtain ⟨fd__law_begun, F__law_begun⟩ := cd.def_ 0 (d := dd "_law_begun" s__law_begun) rfl
  have g__law_begun := He.glo_ok X G (cd.fact 0 (f := .glo "_law_begun") rfl)
  obtain ⟨fd__law_mixed, F__law_mixed⟩ := cd.def_ 1 (d := dd "_law_mixed" s__law_mixed) rfl
  have g__law_mixed := He.glo_ok X G (cd.fact 1 (f := .glo "_law_mixed") rfl)
  obtain ⟨fd__law_draw, F__law_draw⟩ := cd.def_ 2 (d := dd "_law_draw" s__law_draw) rfl
  have g__law_draw := He.glo_ok X G (cd.fact 2 (f := .glo "_law_draw") rfl)
  obtain ⟨fd__law_pick, F__law_pick⟩ := cd.def_ 3 (d := dd "_law_pick" s__law_pick) rfl
  have g__law_pick := He.glo_ok X G (cd.fact 3 (f := .glo "_law_pick") rfl)
  obtain ⟨fd__law_plan, F__law_plan⟩ := cd.def_ 4 (d := dd "_law_plan" s__law_plan) rfl
  have g__law_plan := He.glo_ok X G (cd.fact 4 (f := .glo "_law_plan") rfl)
  obtain ⟨fd__law_leap, F__law_leap⟩ := cd.def_ 5 (d := dd "_law_leap" s__law_leap) rfl
  have g__law_leap := He.glo_ok X G (cd.fact 5 (f := .glo "_law_leap") rfl)
  obtain ⟨fd__law_month, F__law_month⟩ := cd.def_ 6 (d := dd "_law_month" s__law_month) rfl
  have g__law_month := He.glo_ok X G (cd.fact 6 (f := .glo "_law_month") rfl)
  obtain ⟨fd__law_day_rule, F__law_day_rule⟩ := cd.def_ 7 (d := dd "_law_day_rule" s__law_day_rule) rfl
  have g__law_day_rule := He.glo_ok X G (cd.fact 7 (f := .glo "_law_day_rule") rfl)
  obtain ⟨fd__law_year, F__law_year⟩ := cd.def_ 8 (d := dd "_law_year" s__law_year) rfl
  have g__law_year := He.glo_ok X G (cd.fact 8 (f := .glo "_law_year") rfl)
  obtain ⟨fd__law_date, F__law_date⟩ := cd.def_ 9 (d := dd "_law_date" s__law_date) rfl
  have g__law_date := He.glo_ok X G (cd.fact 9 (f := .glo "_law_date") rfl)
  obtain ⟨fd__law_calendar, F__law_calendar⟩ := cd.def_ 10 (d := dd "_law_calendar" s__law_calendar) rfl
  have g__law_calendar := He.glo_ok X G (cd.fact 10 (f := .glo "_law_calendar") rfl)
  obtain ⟨fd__law_number, F__law_number⟩ := cd.def_ 11 (d := dd "_law_number" s__law_number) rfl
  have g__law_number := He.glo_ok X G (cd.fact 11 (f := .glo "_law_number") rfl)
  obtain ⟨fd__law_when_day, F__law_when_day⟩ := cd.def_ 12 (d := dd "_law_when_day" s__law_when_day) rfl
  have g__law_when_day := He.glo_ok X G (cd.fact 12 (f := .glo "_law_when_day") rfl)
  obtain ⟨fd__law_caught, F__law_caught⟩ := cd.def_ 13 (d := dd "_law_caught" s__law_caught) rfl
  have g__law_caught := He.glo_ok X G (cd.fact 13 (f := .glo "_law_caught") rfl)
  obtain ⟨fd__law_dated, F__law_dated⟩ := cd.def_ 14 (d := dd "_law_dated" s__law_dated) rfl
  have g__law_dated := He.glo_ok X G (cd.fact 14 (f := .glo "_law_dated") rfl)
  obtain ⟨fd_is_whole, F_is_whole⟩ := cd.def_ 15 (d := dd "is_whole" s_is_whole) rfl
  have g_is_whole := He.glo_ok X G (cd.fact 15 (f := .glo "is_whole") rfl)
  obtain ⟨fd_need_year, F_need_year⟩ := cd.def_ 16 (d := dd "need_year" s_need_year) rfl
  have g_need_year := He.glo_ok X G (cd.fact 16 (f := .glo "need_year") rfl)
  obtain ⟨fd_year_begin, F_year_begin⟩ := cd.def_ 17 (d := dd "year_begin" s_year_begin) rfl
  have g_year_begin := He.glo_ok X G (cd.fact 17 (f := .glo "year_begin") rfl)
  obtain ⟨fd_is_leap, F_is_leap⟩ := cd.def_ 18 (d := dd "is_leap" s_is_leap) rfl
  have g_is_leap := He.glo_ok X G (cd.fact 18 (f := .glo "is_leap") rfl)
  obtain ⟨fd_month_days, F_month_days⟩ := cd.def_ 19 (d := dd "month_days" s_month_days) rfl
  have g_month_days := He.glo_ok X G (cd.fact 19 (f := .glo "month_days") rfl)
  obtain ⟨fd_day_in_year, F_day_in_year⟩ := cd.def_ 20 (d := dd "day_in_year" s_day_in_year) rfl
  have g_day_in_year := He.glo_ok X G (cd.fact 20 (f := .glo "day_in_year") rfl)
  obtain ⟨fd_nth_day, F_nth_day⟩ := cd.def_ 21 (d := dd "nth_day" s_nth_day) rfl
  have g_nth_day := He.glo_ok X G (cd.fact 21 (f := .glo "nth_day") rfl)
  obtain ⟨fd_day_of, F_day_of⟩ := cd.def_ 22 (d := dd "day_of" s_day_of) rfl
  have g_day_of := He.glo_ok X G (cd.fact 22 (f := .glo "day_of") rfl)
  obtain ⟨fd_month_and_day, F_month_and_day⟩ := cd.def_ 23 (d := dd "month_and_day" s_month_and_day) rfl
  have g_month_and_day := He.glo_ok X G (cd.fact 23 (f := .glo "month_and_day") rfl)
  obtain ⟨fd_date_at, F_date_at⟩ := cd.def_ 24 (d := dd "date_at" s_date_at) rfl
  have g_date_at := He.glo_ok X G (cd.fact 24 (f := .glo "date_at") rfl)
  obtain ⟨fd_is_when_of, F_is_when_of⟩ := cd.def_ 25 (d := dd "is_when_of" s_is_when_of) rfl
  have g_is_when_of := He.glo_ok X G (cd.fact 25 (f := .glo "is_when_of") rfl)
  obtain ⟨fd_is_when, F_is_when⟩ := cd.def_ 26 (d := dd "is_when" s_is_when) rfl
  have g_is_when := He.glo_ok X G (cd.fact 26 (f := .glo "is_when") rfl)
  obtain ⟨fd_told_day, F_told_day⟩ := cd.def_ 27 (d := dd "told_day" s_told_day) rfl
  have g_told_day := He.glo_ok X G (cd.fact 27 (f := .glo "told_day") rfl)
  obtain ⟨fd__law_bent, F__law_bent⟩ := cd.def_ 28 (d := dd "_law_bent" s__law_bent) rfl
  have g__law_bent := He.glo_ok X G (cd.fact 28 (f := .glo "_law_bent") rfl)
  obtain ⟨fd__law_is_int, F__law_is_int⟩ := cd.def_ 29 (d := dd "_law_is_int" s__law_is_int) rfl
  have g__law_is_int := He.glo_ok X G (cd.fact 29 (f := .glo "_law_is_int") rfl)
  obtain ⟨fd__law_is_rule_day, F__law_is_rule_day⟩ := cd.def_ 30 (d := dd "_law_is_rule_day" s__law_is_rule_day) rfl
  have g__law_is_rule_day := He.glo_ok X G (cd.fact 30 (f := .glo "_law_is_rule_day") rfl)
  obtain ⟨fd__law_told_right, F__law_told_right⟩ := cd.def_ 31 (d := dd "_law_told_right" s__law_told_right) rfl
  have g__law_told_right := He.glo_ok X G (cd.fact 31 (f := .glo "_law_told_right") rfl)
  obtain ⟨fd_is_date, F_is_date⟩ := cd.def_ 32 (d := dd "is_date" s_is_date) rfl
  have g_is_date := He.glo_ok X G (cd.fact 32 (f := .glo "is_date") rfl)
  obtain ⟨fd_is_name, F_is_name⟩ := cd.def_ 33 (d := dd "is_name" s_is_name) rfl
  have g_is_name := He.glo_ok X G (cd.fact 33 (f := .glo "is_name") rfl)
  obtain ⟨fd_is_plan_of, F_is_plan_of⟩ := cd.def_ 34 (d := dd "is_plan_of" s_is_plan_of) rfl
  have g_is_plan_of := He.glo_ok X G (cd.fact 34 (f := .glo "is_plan_of") rfl)
  obtain ⟨fd_is_dates, F_is_dates⟩ := cd.def_ 35 (d := dd "is_dates" s_is_dates) rfl
  have g_is_dates := He.glo_ok X G (cd.fact 35 (f := .glo "is_dates") rfl)
  obtain ⟨fd_is_calendar, F_is_calendar⟩ := cd.def_ 36 (d := dd "is_calendar" s_is_calendar) rfl
  have g_is_calendar := He.glo_ok X G (cd.fact 36 (f := .glo "is_calendar") rfl)
  obtain ⟨fd__law_days, F__law_days⟩ := cd.def_ 37 (d := dd "_law_days" s__law_days) rfl
  have g__law_days := He.glo_ok X G (cd.fact 37 (f := .glo "_law_days") rfl)
  obtain ⟨fd__law_special, F__law_special⟩ := cd.def_ 38 (d := dd "_law_special" s__law_special) rfl
  have g__law_special := He.glo_ok X G (cd.fact 38 (f := .glo "_law_special") rfl)
  obtain ⟨fd__law_plan_of, F__law_plan_of⟩ := cd.def_ 39 (d := dd "_law_plan_of" s__law_plan_of) rfl
  have g__law_plan_of := He.glo_ok X G (cd.fact 39 (f := .glo "_law_plan_of") rfl)
  obtain ⟨fd_need_calendar, F_need_calendar⟩ := cd.def_ 40 (d := dd "need_calendar" s_need_calendar) rfl
  have g_need_calendar := He.glo_ok X G (cd.fact 40 (f := .glo "need_calendar") rfl)
  obtain ⟨fd_need_date, F_need_date⟩ := cd.def_ 41 (d := dd "need_date" s_need_date) rfl
  have g_need_date := He.glo_ok X G (cd.fact 41 (f := .glo "need_date") rfl)
  obtain ⟨fd_days_of, F_days_of⟩ := cd.def_ 42 (d := dd "days_of" s_days_of) rfl
  have g_days_of := He.glo_ok X G (cd.fact 42 (f := .glo "days_of") rfl)
  obtain ⟨fd_year_table, F_year_table⟩ := cd.def_ 43 (d := dd "year_table" s_year_table) rfl
  have g_year_table := He.glo_ok X G (cd.fact 43 (f := .glo "year_table") rfl)
  obtain ⟨fd_number_at, F_number_at⟩ := cd.def_ 44 (d := dd "number_at" s_number_at) rfl
  have g_number_at := He.glo_ok X G (cd.fact 44 (f := .glo "number_at") rfl)
  obtain ⟨fd_plan_on, F_plan_on⟩ := cd.def_ 45 (d := dd "plan_on" s_plan_on) rfl
  have g_plan_on := He.glo_ok X G (cd.fact 45 (f := .glo "plan_on") rfl)
  obtain ⟨fd_need_hour, F_need_hour⟩ := cd.def_ 46 (d := dd "need_hour" s_need_hour) rfl
  have g_need_hour := He.glo_ok X G (cd.fact 46 (f := .glo "need_hour") rfl)
  obtain ⟨fd_mode_in, F_mode_in⟩ := cd.def_ 47 (d := dd "mode_in" s_mode_in) rfl
  have g_mode_in := He.glo_ok X G (cd.fact 47 (f := .glo "mode_in") rfl)
  obtain ⟨fd_mode_at, F_mode_at⟩ := cd.def_ 48 (d := dd "mode_at" s_mode_at) rfl
  have g_mode_at := He.glo_ok X G (cd.fact 48 (f := .glo "mode_at") rfl)
  obtain ⟨fd__law_mode, F__law_mode⟩ := cd.def_ 49 (d := dd "_law_mode" s__law_mode) rfl
  have g__law_mode := He.glo_ok X G (cd.fact 49 (f := .glo "_law_mode") rfl)
  obtain ⟨fd__law_calendar_right, F__law_calendar_right⟩ := cd.def_ 50 (d := dd "_law_calendar_right" s__law_calendar_right) rfl
  have g__law_calendar_right := He.glo_ok X G (cd.fact 50 (f := .glo "_law_calendar_right") rfl)
  obtain ⟨fd__law_tells, F__law_tells⟩ := cd.def_ 51 (d := dd "_law_tells" s__law_tells) rfl
  have g__law_tells := He.glo_ok X G (cd.fact 51 (f := .glo "_law_tells") rfl)
  obtain ⟨fd__law_is_mode, F__law_is_mode⟩ := cd.def_ 52 (d := dd "_law_is_mode" s__law_is_mode) rfl
  have g__law_is_mode := He.glo_ok X G (cd.fact 52 (f := .glo "_law_is_mode") rfl)
  obtain ⟨fd__law_is_plan, F__law_is_plan⟩ := cd.def_ 53 (d := dd "_law_is_plan" s__law_is_plan) rfl
  have g__law_is_plan := He.glo_ok X G (cd.fact 53 (f := .glo "_law_is_plan") rfl)
  obtain ⟨fd__law_is_day, F__law_is_day⟩ := cd.def_ 54 (d := dd "_law_is_day" s__law_is_day) rfl
  have g__law_is_day := He.glo_ok X G (cd.fact 54 (f := .glo "_law_is_day") rfl)
  obtain ⟨fd__law_is_yearly, F__law_is_yearly⟩ := cd.def_ 55 (d := dd "_law_is_yearly" s__law_is_yearly) rfl
  have g__law_is_yearly := He.glo_ok X G (cd.fact 55 (f := .glo "_law_is_yearly") rfl)
  obtain ⟨fd_law, F_law⟩ := cd.def_ 56 (d := dd "law" s_law) rfl
  have g_law := He.glo_ok X G (cd.fact 56 (f := .glo "law") rfl)
  have g_KeptError := He.glo_ok X G (cd.fact 57 (f := .glo "KeptError") rfl)
  have g_BadCalendar := He.glo_ok X G (cd.fact 58 (f := .glo "BadCalendar") rfl)
  have g_BadDate := He.glo_ok X G (cd.fact 59 (f := .glo "BadDate") rfl)
  have g_BadHour := He.glo_ok X G (cd.fact 60 (f := .glo "BadHour") rfl)
  have g_BadWhen := He.glo_ok X G (cd.fact 61 (f := .glo "BadWhen") rfl)
  have g_BadYear := He.glo_ok X G (cd.fact 62 (f := .glo "BadYear") rfl)
  have T : Txt K mg := {
    n_abs := He.free_ok X G (cd.fact 69 (f := .free "abs") rfl)
    n_all := He.free_ok X G (cd.fact 70 (f := .free "all") rfl)
    n_bool := He.free_ok X G (cd.fact 71 (f := .free "bool") rfl)
    n_int := He.free_ok X G (cd.fact 72 (f := .free "int") rfl)
    n_isinstance := He.free_ok X G (cd.fact 73 (f := .free "isinstance") rfl)
    n_len := He.free_ok X G (cd.fact 74 (f := .free "len") rfl)
    n_min := He.free_ok X G (cd.fact 75 (f := .free "min") rfl)
    n_range := He.free_ok X G (cd.fact 76 (f := .free "range") rfl)
    n_set := He.free_ok X G (cd.fact 77 (f := .free "set") rfl)
    n_sorted := He.free_ok X G (cd.fact 78 (f := .free "sorted") rfl)
    n_str := He.free_ok X G (cd.fact 79 (f := .free "str") rfl)
    n_sum := He.free_ok X G (cd.fact 80 (f := .free "sum") rfl)
    n_tuple := He.free_ok X G (cd.fact 81 (f := .free "tuple") rfl)
    v_DEEPEST := ⟨by
      obtain ⟨t, e⟩ := He.int_ok X G (cd.fact 63 (f := .int "DEEPEST" 4) rfl)
      exact ⟨_, e, t, rfl⟩, fun _ => .int _⟩
    v_LAST_YEAR := ⟨by
      obtain ⟨t, e⟩ := He.int_ok X G (cd.fact 64 (f := .int "LAST_YEAR" 1000000000000000000000000000000) rfl)
      exact ⟨_, e, t, rfl⟩, fun _ => .int _⟩
    v_LENGTHS := ⟨⟨_, He.glo_ok X G (cd.fact 65 (f := .glo "LENGTHS") rfl), rfl⟩, datB_ok 9 x34⟩
    v_LETTERS := ⟨by
      obtain ⟨t, e⟩ := He.str_ok X G (cd.fact 66 (f := .str "LETTERS" "abcdefghijklmnopqrstuvwxyz") rfl)
      exact ⟨_, e, t, rfl⟩, fun _ => .str _⟩
    v_MOST_RULES := ⟨by
      obtain ⟨t, e⟩ := He.int_ok X G (cd.fact 67 (f := .int "MOST_RULES" 8) rfl)
      exact ⟨_, e, t, rfl⟩, fun _ => .int _⟩
    v_ROUND_DAYS := ⟨by
      obtain ⟨t, e⟩ := He.int_ok X G (cd.fact 68 (f := .int "ROUND_DAYS" 146097) rfl)
      exact ⟨_, e, t, rfl⟩, fun _ => .int _⟩
    x_BadCalendar := by
      obtain ⟨y1, y2, y3, y4⟩ := He.exc_ok (cd.fact 82 (f := .exc "BadCalendar") rfl)
      exact ⟨y1, g_BadCalendar, y2, y3, y4⟩
    x_BadDate := by
      obtain ⟨y1, y2, y3, y4⟩ := He.exc_ok (cd.fact 83 (f := .exc "BadDate") rfl)
      exact ⟨y1, g_BadDate, y2, y3, y4⟩
    x_BadHour := by
      obtain ⟨y1, y2, y3, y4⟩ := He.exc_ok (cd.fact 84 (f := .exc "BadHour") rfl)
      exact ⟨y1, g_BadHour, y2, y3, y4⟩
    x_BadWhen := by
      obtain ⟨y1, y2, y3, y4⟩ := He.exc_ok (cd.fact 85 (f := .exc "BadWhen") rfl)
      exact ⟨y1, g_BadWhen, y2, y3, y4⟩
    x_BadYear := by
      obtain ⟨y1, y2, y3, y4⟩ := He.exc_ok (cd.fact 86 (f := .exc "BadYear") rfl)
      exact ⟨y1, g_BadYear, y2, y3, y4⟩ }
  have Xk : Xf K := ⟨excB_ok x0, of_decide_eq_true x1, of_decide_eq_true x2, of_decide_eq_true x3, of_decide_eq_true x4, of_decide_eq_true x5, excB_ok x6, of_decide_eq_true x7, of_decide_eq_true x8, of_decide_eq_true x9, of_decide_eq_true x10, of_decide_eq_true x11, excB_ok x12, of_decide_eq_true x13, of_decide_eq_true x14, of_decide_eq_true x15, of_decide_eq_true x16, of_decide_eq_true x17, excB_ok x18, of_decide_eq_true x19, of_decide_eq_true x20, of_decide_eq_true x21, of_decide_eq_true x22, of_decide_eq_true x23, excB_ok x24, of_decide_eq_true x25, of_decide_eq_true x26, of_decide_eq_true x27, of_decide_eq_true x28, of_decide_eq_true x29, of_decide_eq_true x30, of_decide_eq_true x31, of_decide_eq_true x32, of_decide_eq_true x33⟩
  have Gc : Cg K mg := ⟨⟨_, fd__law_caught, F__law_caught, g__law_caught⟩, g_KeptError⟩
  have e0 := hfa.symm.trans g_law
  cases e0
  refine ⟨fd_law, tfL.map (He.cT K), spM K (tT K) (d_law K), ?_, ?_, ?_, fun s u => FunD.bindsA (ps := ["script"]) F_law (fun _ _ _ _ _ _ us hl => match us, hl with | [_], _ => rfl) s [u] rfl, ?_, ?_⟩
  · intro p hp
    obtain ⟨q, hq, rfl⟩ := List.mem_map.mp hp
    exact c.empty q hq
  · intro p hp
    obtain ⟨q, hq, rfl⟩ := List.mem_map.mp hp
    exact c.out q hq
  · intro p hp
    obtain ⟨q, hq, rfl⟩ := List.mem_map.mp hp
    exact PySem.W.codeHd_of_K X (c.hd q hq)
  · intro H a ns hl hb hT hS
    refine sp_law (fun p hp => ?_) hS (law_ok Xk ns hl)
    unfold tT at hp
    simp only [List.mem_cons, List.not_mem_nil, or_false] at hp
    rcases hp with hp | hp | hp
    · subst hp
      exact TabS.nil (hT _ (List.mem_map.mpr ⟨("_law_told_right", none), by simp [tfL], rfl⟩))
    · subst hp
      exact TabS.nil (hT _ (List.mem_map.mpr ⟨("_law_calendar_right", none), by simp [tfL], rfl⟩))
    · subst hp
      exact TabS.nil (hT _ (List.mem_map.mpr ⟨("law", none), by simp [tfL], rfl⟩))
  intro base KB GB TB
  have L__law_told_right : LamD K mg base (tT K) "_law_told_right" "_law_told_right.<locals>.<lambda>" := ⟨TB _ (List.mem_map.mpr ⟨("_law_told_right", none), by simp [tfL], rfl⟩), by simp [tT], lam_one (of_decide_eq_true x35) (by simp [tT])⟩
  have L__law_calendar_right : LamD K mg base (tT K) "_law_calendar_right" "_law_calendar_right.<locals>.<lambda>" := ⟨TB _ (List.mem_map.mpr ⟨("_law_calendar_right", none), by simp [tfL], rfl⟩), by simp [tT], lam_one (of_decide_eq_true x35) (by simp [tT])⟩
  have L_law : LamD K mg base (tT K) "law" "law.<locals>.<lambda>" := ⟨TB _ (List.mem_map.mpr ⟨("law", none), by simp [tfL], rfl⟩), by simp [tT], lam_one (of_decide_eq_true x35) (by simp [tT])⟩
  have o__law_begun := ok__law_begun (P := Lw.prog) (w := w) (base := base) T F__law_begun
  have c__law_begun : Cd Lw.prog w K mg base (tT K) 1 "_law_begun" dBegun := cd_mk ((fnok_cx o__law_begun).imp fun _ _ _ _ q => sp_begun q) g__law_begun F__law_begun.kp (F__law_begun.bindsN fun _ _ _ _ _ _ us hl => match us, hl with | [_], _ => rfl)
  have o__law_mixed := ok__law_mixed (P := Lw.prog) (w := w) (base := base) T F__law_mixed
  have m__law_mixed : C__law_mixed Lw.prog w K mg base := ⟨_, _, _, o__law_mixed, g__law_mixed, F__law_mixed.kp, (F__law_mixed.bindsN fun _ _ _ _ _ _ us hl => match us, hl with | [_], _ => rfl)⟩
  have o__law_draw := ok__law_draw (P := Lw.prog) (w := w) (base := base) T m__law_mixed F__law_draw
  have c__law_draw : Cd Lw.prog w K mg base (tT K) 2 "_law_draw" dDraw := cd_mk ((fnok_cx o__law_draw).imp fun _ _ _ _ q => sp_draw q) g__law_draw F__law_draw.kp (F__law_draw.bindsN fun _ _ _ _ _ _ us hl => match us, hl with | [_, _], _ => rfl)
  have o__law_pick := ok__law_pick (P := Lw.prog) (w := w) (base := base) (TT := tT K) T c__law_draw F__law_pick
  have c__law_pick : Cd Lw.prog w K mg base (tT K) 3 "_law_pick" (d__law_pick K) := cd_mk o__law_pick g__law_pick F__law_pick.kp (F__law_pick.bindsN fun _ _ _ _ _ _ us hl => match us, hl with | [_, _], _ => rfl)
  have o__law_plan := ok__law_plan (P := Lw.prog) (w := w) (base := base) (TT := tT K) T c__law_draw c__law_pick F__law_plan
  have c__law_plan : Cd Lw.prog w K mg base (tT K) 4 "_law_plan" (d__law_plan K) := cd_mk o__law_plan g__law_plan F__law_plan.kp (F__law_plan.bindsN fun _ _ _ _ _ _ us hl => match us, hl with | [_, _, _], _ => rfl)
  have o__law_leap := ok__law_leap (P := Lw.prog) (w := w) (base := base) (TT := tT K) T F__law_leap
  have c__law_leap : Cd Lw.prog w K mg base (tT K) 1 "_law_leap" (d__law_leap K) := cd_mk o__law_leap g__law_leap F__law_leap.kp (F__law_leap.bindsN fun _ _ _ _ _ _ us hl => match us, hl with | [_], _ => rfl)
  have o__law_month := ok__law_month (P := Lw.prog) (w := w) (base := base) (TT := tT K) T c__law_leap F__law_month
  have c__law_month : Cd Lw.prog w K mg base (tT K) 2 "_law_month" (d__law_month K) := cd_mk o__law_month g__law_month F__law_month.kp (F__law_month.bindsN fun _ _ _ _ _ _ us hl => match us, hl with | [_, _], _ => rfl)
  have c__law_day_rule_0 : Cd Lw.prog w K mg base (tT K) 3 "_law_day_rule" (d__law_day_rule K 0) := cd_mk (ok_never (ps := ["state", "deep"])) g__law_day_rule F__law_day_rule.kp (F__law_day_rule.bindsN fun _ _ _ _ _ _ us hl => match us, hl with | [_, _], _ => rfl)
  have c__law_day_rule_1 : Cd Lw.prog w K mg base (tT K) 4 "_law_day_rule" (d__law_day_rule K 1) := cd_mk (ok__law_day_rule (P := Lw.prog) (w := w) (base := base) (TT := tT K) 0 T c__law_draw c__law_pick c__law_month c__law_day_rule_0 F__law_day_rule) g__law_day_rule F__law_day_rule.kp (F__law_day_rule.bindsN fun _ _ _ _ _ _ us hl => match us, hl with | [_, _], _ => rfl)
  have c__law_day_rule_2 : Cd Lw.prog w K mg base (tT K) 5 "_law_day_rule" (d__law_day_rule K 2) := cd_mk (ok__law_day_rule (P := Lw.prog) (w := w) (base := base) (TT := tT K) 1 T c__law_draw c__law_pick c__law_month c__law_day_rule_1 F__law_day_rule) g__law_day_rule F__law_day_rule.kp (F__law_day_rule.bindsN fun _ _ _ _ _ _ us hl => match us, hl with | [_, _], _ => rfl)
  have c__law_day_rule_3 : Cd Lw.prog w K mg base (tT K) 6 "_law_day_rule" (d__law_day_rule K 3) := cd_mk (ok__law_day_rule (P := Lw.prog) (w := w) (base := base) (TT := tT K) 2 T c__law_draw c__law_pick c__law_month c__law_day_rule_2 F__law_day_rule) g__law_day_rule F__law_day_rule.kp (F__law_day_rule.bindsN fun _ _ _ _ _ _ us hl => match us, hl with | [_, _], _ => rfl)
  have c__law_day_rule_4 : Cd Lw.prog w K mg base (tT K) 7 "_law_day_rule" (d__law_day_rule K 4) := cd_mk (ok__law_day_rule (P := Lw.prog) (w := w) (base := base) (TT := tT K) 3 T c__law_draw c__law_pick c__law_month c__law_day_rule_3 F__law_day_rule) g__law_day_rule F__law_day_rule.kp (F__law_day_rule.bindsN fun _ _ _ _ _ _ us hl => match us, hl with | [_, _], _ => rfl)
  have c__law_day_rule_5 : Cd Lw.prog w K mg base (tT K) 8 "_law_day_rule" (d__law_day_rule K 5) := cd_mk (ok__law_day_rule (P := Lw.prog) (w := w) (base := base) (TT := tT K) 4 T c__law_draw c__law_pick c__law_month c__law_day_rule_4 F__law_day_rule) g__law_day_rule F__law_day_rule.kp (F__law_day_rule.bindsN fun _ _ _ _ _ _ us hl => match us, hl with | [_, _], _ => rfl)
  have c__law_day_rule := c__law_day_rule_5
  have o__law_year := ok__law_year (P := Lw.prog) (w := w) (base := base) (TT := tT K) T c__law_draw c__law_pick F__law_year
  have c__law_year : Cd Lw.prog w K mg base (tT K) 4 "_law_year" (d__law_year K) := cd_mk o__law_year g__law_year F__law_year.kp (F__law_year.bindsN fun _ _ _ _ _ _ us hl => match us, hl with | [_], _ => rfl)
  have o__law_date := ok__law_date (P := Lw.prog) (w := w) (base := base) (TT := tT K) T c__law_year c__law_pick c__law_draw c__law_month F__law_date
  have c__law_date : Cd Lw.prog w K mg base (tT K) 5 "_law_date" (d__law_date K) := cd_mk o__law_date g__law_date F__law_date.kp (F__law_date.bindsN fun _ _ _ _ _ _ us hl => match us, hl with | [_], _ => rfl)
  have o__law_calendar := ok__law_calendar (P := Lw.prog) (w := w) (base := base) (TT := tT K) T c__law_plan c__law_pick c__law_day_rule c__law_date F__law_calendar
  have c__law_calendar : Cd Lw.prog w K mg base (tT K) 9 "_law_calendar" (d__law_calendar K) := cd_mk o__law_calendar g__law_calendar F__law_calendar.kp (F__law_calendar.bindsN fun _ _ _ _ _ _ us hl => match us, hl with | [_, _, _], _ => rfl)
  have o__law_number := ok__law_number (P := Lw.prog) (w := w) (base := base) (TT := tT K) T F__law_number
  have c__law_number : Cd Lw.prog w K mg base (tT K) 1 "_law_number" (d__law_number K) := cd_mk o__law_number g__law_number F__law_number.kp (F__law_number.bindsN fun _ _ _ _ _ _ us hl => match us, hl with | [_], _ => rfl)
  have c__law_when_day_0 : Cd Lw.prog w K mg base (tT K) 2 "_law_when_day" (d__law_when_day K 0) := cd_mk (ok_never (ps := ["when", "year"])) g__law_when_day F__law_when_day.kp (F__law_when_day.bindsN fun _ _ _ _ _ _ us hl => match us, hl with | [_, _], _ => rfl)
  have c__law_when_day_1 : Cd Lw.prog w K mg base (tT K) 3 "_law_when_day" (d__law_when_day K 1) := cd_mk (ok__law_when_day (P := Lw.prog) (w := w) (base := base) (TT := tT K) 0 T c__law_month c__law_number c__law_when_day_0 F__law_when_day) g__law_when_day F__law_when_day.kp (F__law_when_day.bindsN fun _ _ _ _ _ _ us hl => match us, hl with | [_, _], _ => rfl)
  have c__law_when_day_2 : Cd Lw.prog w K mg base (tT K) 4 "_law_when_day" (d__law_when_day K 2) := cd_mk (ok__law_when_day (P := Lw.prog) (w := w) (base := base) (TT := tT K) 1 T c__law_month c__law_number c__law_when_day_1 F__law_when_day) g__law_when_day F__law_when_day.kp (F__law_when_day.bindsN fun _ _ _ _ _ _ us hl => match us, hl with | [_, _], _ => rfl)
  have c__law_when_day_3 : Cd Lw.prog w K mg base (tT K) 5 "_law_when_day" (d__law_when_day K 3) := cd_mk (ok__law_when_day (P := Lw.prog) (w := w) (base := base) (TT := tT K) 2 T c__law_month c__law_number c__law_when_day_2 F__law_when_day) g__law_when_day F__law_when_day.kp (F__law_when_day.bindsN fun _ _ _ _ _ _ us hl => match us, hl with | [_, _], _ => rfl)
  have c__law_when_day_4 : Cd Lw.prog w K mg base (tT K) 6 "_law_when_day" (d__law_when_day K 4) := cd_mk (ok__law_when_day (P := Lw.prog) (w := w) (base := base) (TT := tT K) 3 T c__law_month c__law_number c__law_when_day_3 F__law_when_day) g__law_when_day F__law_when_day.kp (F__law_when_day.bindsN fun _ _ _ _ _ _ us hl => match us, hl with | [_, _], _ => rfl)
  have c__law_when_day := c__law_when_day_4
  have o__law_dated := ok__law_dated (P := Lw.prog) (w := w) (base := base) (TT := tT K) T F__law_dated
  have c__law_dated : Cd Lw.prog w K mg base (tT K) 1 "_law_dated" (d__law_dated K) := cd_mk o__law_dated g__law_dated F__law_dated.kp (F__law_dated.bindsN fun _ _ _ _ _ _ us hl => match us, hl with | [_], _ => rfl)
  have o_is_whole := ok_is_whole (P := Lw.prog) (w := w) (base := base) (TT := tT K) T F_is_whole
  have c_is_whole : Cd Lw.prog w K mg base (tT K) 1 "is_whole" (d_is_whole K) := cd_mk o_is_whole g_is_whole F_is_whole.kp (F_is_whole.bindsN fun _ _ _ _ _ _ us hl => match us, hl with | [_, _, _], _ => rfl)
  have o_need_year := ok_need_year (P := Lw.prog) (w := w) (base := base) (TT := tT K) T c_is_whole F_need_year
  have c_need_year : Cd Lw.prog w K mg base (tT K) 2 "need_year" (d_need_year K) := cd_mk o_need_year g_need_year F_need_year.kp (F_need_year.bindsN fun _ _ _ _ _ _ us hl => match us, hl with | [_], _ => rfl)
  have o_year_begin := ok_year_begin (P := Lw.prog) (w := w) (base := base) (TT := tT K) T F_year_begin
  have c_year_begin : Cd Lw.prog w K mg base (tT K) 1 "year_begin" (d_year_begin K) := cd_mk o_year_begin g_year_begin F_year_begin.kp (F_year_begin.bindsN fun _ _ _ _ _ _ us hl => match us, hl with | [_], _ => rfl)
  have o_is_leap := ok_is_leap (P := Lw.prog) (w := w) (base := base) (TT := tT K) T F_is_leap
  have c_is_leap : Cd Lw.prog w K mg base (tT K) 1 "is_leap" (d_is_leap K) := cd_mk o_is_leap g_is_leap F_is_leap.kp (F_is_leap.bindsN fun _ _ _ _ _ _ us hl => match us, hl with | [_], _ => rfl)
  have o_month_days := ok_month_days (P := Lw.prog) (w := w) (base := base) (TT := tT K) T c_is_leap F_month_days
  have c_month_days : Cd Lw.prog w K mg base (tT K) 2 "month_days" (d_month_days K) := cd_mk o_month_days g_month_days F_month_days.kp (F_month_days.bindsN fun _ _ _ _ _ _ us hl => match us, hl with | [_, _], _ => rfl)
  have o_day_in_year := ok_day_in_year (P := Lw.prog) (w := w) (base := base) (TT := tT K) T c_month_days F_day_in_year
  have c_day_in_year : Cd Lw.prog w K mg base (tT K) 3 "day_in_year" (d_day_in_year K) := cd_mk o_day_in_year g_day_in_year F_day_in_year.kp (F_day_in_year.bindsN fun _ _ _ _ _ _ us hl => match us, hl with | [_, _, _], _ => rfl)
  have o_nth_day := ok_nth_day (P := Lw.prog) (w := w) (base := base) (TT := tT K) T c_year_begin c_day_in_year c_month_days F_nth_day
  have c_nth_day : Cd Lw.prog w K mg base (tT K) 4 "nth_day" (d_nth_day K) := cd_mk o_nth_day g_nth_day F_nth_day.kp (F_nth_day.bindsN fun _ _ _ _ _ _ us hl => match us, hl with | [_, _, _, _], _ => rfl)
  have c_day_of_0 : Cd Lw.prog w K mg base (tT K) 4 "day_of" (d_day_of K 0) := cd_mk (ok_never (ps := ["when", "year"])) g_day_of F_day_of.kp (F_day_of.bindsN fun _ _ _ _ _ _ us hl => match us, hl with | [_, _], _ => rfl)
  have c_day_of_1 : Cd Lw.prog w K mg base (tT K) 5 "day_of" (d_day_of K 1) := cd_mk (ok_day_of (P := Lw.prog) (w := w) (base := base) (TT := tT K) 0 T c_is_leap c_year_begin c_day_in_year c_nth_day c_day_of_0 F_day_of) g_day_of F_day_of.kp (F_day_of.bindsN fun _ _ _ _ _ _ us hl => match us, hl with | [_, _], _ => rfl)
  have c_day_of_2 : Cd Lw.prog w K mg base (tT K) 6 "day_of" (d_day_of K 2) := cd_mk (ok_day_of (P := Lw.prog) (w := w) (base := base) (TT := tT K) 1 T c_is_leap c_year_begin c_day_in_year c_nth_day c_day_of_1 F_day_of) g_day_of F_day_of.kp (F_day_of.bindsN fun _ _ _ _ _ _ us hl => match us, hl with | [_, _], _ => rfl)
  have c_day_of_3 : Cd Lw.prog w K mg base (tT K) 7 "day_of" (d_day_of K 3) := cd_mk (ok_day_of (P := Lw.prog) (w := w) (base := base) (TT := tT K) 2 T c_is_leap c_year_begin c_day_in_year c_nth_day c_day_of_2 F_day_of) g_day_of F_day_of.kp (F_day_of.bindsN fun _ _ _ _ _ _ us hl => match us, hl with | [_, _], _ => rfl)
  have c_day_of_4 : Cd Lw.prog w K mg base (tT K) 8 "day_of" (d_day_of K 4) := cd_mk (ok_day_of (P := Lw.prog) (w := w) (base := base) (TT := tT K) 3 T c_is_leap c_year_begin c_day_in_year c_nth_day c_day_of_3 F_day_of) g_day_of F_day_of.kp (F_day_of.bindsN fun _ _ _ _ _ _ us hl => match us, hl with | [_, _], _ => rfl)
  have c_day_of := c_day_of_4
  have o_month_and_day := ok_month_and_day (P := Lw.prog) (w := w) (base := base) (TT := tT K) T c_month_days F_month_and_day
  have c_month_and_day : Cd Lw.prog w K mg base (tT K) 3 "month_and_day" (d_month_and_day K) := cd_mk o_month_and_day g_month_and_day F_month_and_day.kp (F_month_and_day.bindsN fun _ _ _ _ _ _ us hl => match us, hl with | [_, _], _ => rfl)
  have o_date_at := ok_date_at (P := Lw.prog) (w := w) (base := base) (TT := tT K) T c_year_begin c_month_and_day F_date_at
  have c_date_at : Cd Lw.prog w K mg base (tT K) 4 "date_at" (d_date_at K) := cd_mk o_date_at g_date_at F_date_at.kp (F_date_at.bindsN fun _ _ _ _ _ _ us hl => match us, hl with | [_], _ => rfl)
  have c_is_when_of_0 : Cd Lw.prog w K mg base (tT K) 2 "is_when_of" (d_is_when_of K 0) := cd_mk (ok_never (ps := ["value", "deep"])) g_is_when_of F_is_when_of.kp (F_is_when_of.bindsN fun _ _ _ _ _ _ us hl => match us, hl with | [_, _], _ => rfl)
  have c_is_when_of_1 : Cd Lw.prog w K mg base (tT K) 3 "is_when_of" (d_is_when_of K 1) := cd_mk (ok_is_when_of (P := Lw.prog) (w := w) (base := base) (TT := tT K) 0 T c_is_whole c_month_days c_is_when_of_0 F_is_when_of) g_is_when_of F_is_when_of.kp (F_is_when_of.bindsN fun _ _ _ _ _ _ us hl => match us, hl with | [_, _], _ => rfl)
  have c_is_when_of_2 : Cd Lw.prog w K mg base (tT K) 4 "is_when_of" (d_is_when_of K 2) := cd_mk (ok_is_when_of (P := Lw.prog) (w := w) (base := base) (TT := tT K) 1 T c_is_whole c_month_days c_is_when_of_1 F_is_when_of) g_is_when_of F_is_when_of.kp (F_is_when_of.bindsN fun _ _ _ _ _ _ us hl => match us, hl with | [_, _], _ => rfl)
  have c_is_when_of_3 : Cd Lw.prog w K mg base (tT K) 5 "is_when_of" (d_is_when_of K 3) := cd_mk (ok_is_when_of (P := Lw.prog) (w := w) (base := base) (TT := tT K) 2 T c_is_whole c_month_days c_is_when_of_2 F_is_when_of) g_is_when_of F_is_when_of.kp (F_is_when_of.bindsN fun _ _ _ _ _ _ us hl => match us, hl with | [_, _], _ => rfl)
  have c_is_when_of_4 : Cd Lw.prog w K mg base (tT K) 6 "is_when_of" (d_is_when_of K 4) := cd_mk (ok_is_when_of (P := Lw.prog) (w := w) (base := base) (TT := tT K) 3 T c_is_whole c_month_days c_is_when_of_3 F_is_when_of) g_is_when_of F_is_when_of.kp (F_is_when_of.bindsN fun _ _ _ _ _ _ us hl => match us, hl with | [_, _], _ => rfl)
  have c_is_when_of_5 : Cd Lw.prog w K mg base (tT K) 7 "is_when_of" (d_is_when_of K 5) := cd_mk (ok_is_when_of (P := Lw.prog) (w := w) (base := base) (TT := tT K) 4 T c_is_whole c_month_days c_is_when_of_4 F_is_when_of) g_is_when_of F_is_when_of.kp (F_is_when_of.bindsN fun _ _ _ _ _ _ us hl => match us, hl with | [_, _], _ => rfl)
  have c_is_when_of := c_is_when_of_5
  have o_is_when := ok_is_when (P := Lw.prog) (w := w) (base := base) (TT := tT K) T c_is_when_of F_is_when
  have c_is_when : Cd Lw.prog w K mg base (tT K) 8 "is_when" (d_is_when K) := cd_mk o_is_when g_is_when F_is_when.kp (F_is_when.bindsN fun _ _ _ _ _ _ us hl => match us, hl with | [_], _ => rfl)
  have o_told_day := ok_told_day (P := Lw.prog) (w := w) (base := base) (TT := tT K) T c_is_when c_need_year c_day_of c_year_begin c_date_at F_told_day
  have c_told_day : Cd Lw.prog w K mg base (tT K) 9 "told_day" (d_told_day K) := cd_mk o_told_day g_told_day F_told_day.kp (F_told_day.bindsN fun _ _ _ _ _ _ us hl => match us, hl with | [_, _], _ => rfl)
  have v_told_day := cdv_mk (x := "told_day") o_told_day g_told_day F_told_day.kp (kbinds2v F_told_day (p := "when") (q := "year") (fun _ _ _ _ _ _ _ _ => rfl) (fun _ _ _ _ _ _ _ _ => rfl) fun _ _ _ _ _ _ _ _ => rfl)
  have c__law_bent_0 : Cd Lw.prog w K mg base (tT K) 3 "_law_bent" (d__law_bent K 0) := cd_mk (ok_never (ps := ["state", "value"])) g__law_bent F__law_bent.kp (F__law_bent.bindsN fun _ _ _ _ _ _ us hl => match us, hl with | [_, _], _ => rfl)
  have c__law_bent_1 : Cd Lw.prog w K mg base (tT K) 4 "_law_bent" (d__law_bent K 1) := cd_mk (ok__law_bent (P := Lw.prog) (w := w) (base := base) (TT := tT K) 0 T c__law_draw c__law_pick c__law_bent_0 F__law_bent) g__law_bent F__law_bent.kp (F__law_bent.bindsN fun _ _ _ _ _ _ us hl => match us, hl with | [_, _], _ => rfl)
  have c__law_bent_2 : Cd Lw.prog w K mg base (tT K) 5 "_law_bent" (d__law_bent K 2) := cd_mk (ok__law_bent (P := Lw.prog) (w := w) (base := base) (TT := tT K) 1 T c__law_draw c__law_pick c__law_bent_1 F__law_bent) g__law_bent F__law_bent.kp (F__law_bent.bindsN fun _ _ _ _ _ _ us hl => match us, hl with | [_, _], _ => rfl)
  have c__law_bent_3 : Cd Lw.prog w K mg base (tT K) 6 "_law_bent" (d__law_bent K 3) := cd_mk (ok__law_bent (P := Lw.prog) (w := w) (base := base) (TT := tT K) 2 T c__law_draw c__law_pick c__law_bent_2 F__law_bent) g__law_bent F__law_bent.kp (F__law_bent.bindsN fun _ _ _ _ _ _ us hl => match us, hl with | [_, _], _ => rfl)
  have c__law_bent_4 : Cd Lw.prog w K mg base (tT K) 7 "_law_bent" (d__law_bent K 4) := cd_mk (ok__law_bent (P := Lw.prog) (w := w) (base := base) (TT := tT K) 3 T c__law_draw c__law_pick c__law_bent_3 F__law_bent) g__law_bent F__law_bent.kp (F__law_bent.bindsN fun _ _ _ _ _ _ us hl => match us, hl with | [_, _], _ => rfl)
  have c__law_bent_5 : Cd Lw.prog w K mg base (tT K) 8 "_law_bent" (d__law_bent K 5) := cd_mk (ok__law_bent (P := Lw.prog) (w := w) (base := base) (TT := tT K) 4 T c__law_draw c__law_pick c__law_bent_4 F__law_bent) g__law_bent F__law_bent.kp (F__law_bent.bindsN fun _ _ _ _ _ _ us hl => match us, hl with | [_, _], _ => rfl)
  have c__law_bent_6 : Cd Lw.prog w K mg base (tT K) 9 "_law_bent" (d__law_bent K 6) := cd_mk (ok__law_bent (P := Lw.prog) (w := w) (base := base) (TT := tT K) 5 T c__law_draw c__law_pick c__law_bent_5 F__law_bent) g__law_bent F__law_bent.kp (F__law_bent.bindsN fun _ _ _ _ _ _ us hl => match us, hl with | [_, _], _ => rfl)
  have c__law_bent_7 : Cd Lw.prog w K mg base (tT K) 10 "_law_bent" (d__law_bent K 7) := cd_mk (ok__law_bent (P := Lw.prog) (w := w) (base := base) (TT := tT K) 6 T c__law_draw c__law_pick c__law_bent_6 F__law_bent) g__law_bent F__law_bent.kp (F__law_bent.bindsN fun _ _ _ _ _ _ us hl => match us, hl with | [_, _], _ => rfl)
  have c__law_bent_8 : Cd Lw.prog w K mg base (tT K) 11 "_law_bent" (d__law_bent K 8) := cd_mk (ok__law_bent (P := Lw.prog) (w := w) (base := base) (TT := tT K) 7 T c__law_draw c__law_pick c__law_bent_7 F__law_bent) g__law_bent F__law_bent.kp (F__law_bent.bindsN fun _ _ _ _ _ _ us hl => match us, hl with | [_, _], _ => rfl)
  have c__law_bent_9 : Cd Lw.prog w K mg base (tT K) 12 "_law_bent" (d__law_bent K 9) := cd_mk (ok__law_bent (P := Lw.prog) (w := w) (base := base) (TT := tT K) 8 T c__law_draw c__law_pick c__law_bent_8 F__law_bent) g__law_bent F__law_bent.kp (F__law_bent.bindsN fun _ _ _ _ _ _ us hl => match us, hl with | [_, _], _ => rfl)
  have c__law_bent := c__law_bent_9
  have o__law_is_int := ok__law_is_int (P := Lw.prog) (w := w) (base := base) (TT := tT K) T F__law_is_int
  have c__law_is_int : Cd Lw.prog w K mg base (tT K) 1 "_law_is_int" (d__law_is_int K) := cd_mk o__law_is_int g__law_is_int F__law_is_int.kp (F__law_is_int.bindsN fun _ _ _ _ _ _ us hl => match us, hl with | [_, _, _], _ => rfl)
  have c__law_is_rule_day_0 : Cd Lw.prog w K mg base (tT K) 2 "_law_is_rule_day" (d__law_is_rule_day K 0) := cd_mk (ok_never (ps := ["value", "deep"])) g__law_is_rule_day F__law_is_rule_day.kp (F__law_is_rule_day.bindsN fun _ _ _ _ _ _ us hl => match us, hl with | [_, _], _ => rfl)
  have c__law_is_rule_day_1 : Cd Lw.prog w K mg base (tT K) 3 "_law_is_rule_day" (d__law_is_rule_day K 1) := cd_mk (ok__law_is_rule_day (P := Lw.prog) (w := w) (base := base) (TT := tT K) 0 T c__law_is_int c__law_month c__law_is_rule_day_0 F__law_is_rule_day) g__law_is_rule_day F__law_is_rule_day.kp (F__law_is_rule_day.bindsN fun _ _ _ _ _ _ us hl => match us, hl with | [_, _], _ => rfl)
  have c__law_is_rule_day_2 : Cd Lw.prog w K mg base (tT K) 4 "_law_is_rule_day" (d__law_is_rule_day K 2) := cd_mk (ok__law_is_rule_day (P := Lw.prog) (w := w) (base := base) (TT := tT K) 1 T c__law_is_int c__law_month c__law_is_rule_day_1 F__law_is_rule_day) g__law_is_rule_day F__law_is_rule_day.kp (F__law_is_rule_day.bindsN fun _ _ _ _ _ _ us hl => match us, hl with | [_, _], _ => rfl)
  have c__law_is_rule_day_3 : Cd Lw.prog w K mg base (tT K) 5 "_law_is_rule_day" (d__law_is_rule_day K 3) := cd_mk (ok__law_is_rule_day (P := Lw.prog) (w := w) (base := base) (TT := tT K) 2 T c__law_is_int c__law_month c__law_is_rule_day_2 F__law_is_rule_day) g__law_is_rule_day F__law_is_rule_day.kp (F__law_is_rule_day.bindsN fun _ _ _ _ _ _ us hl => match us, hl with | [_, _], _ => rfl)
  have c__law_is_rule_day_4 : Cd Lw.prog w K mg base (tT K) 6 "_law_is_rule_day" (d__law_is_rule_day K 4) := cd_mk (ok__law_is_rule_day (P := Lw.prog) (w := w) (base := base) (TT := tT K) 3 T c__law_is_int c__law_month c__law_is_rule_day_3 F__law_is_rule_day) g__law_is_rule_day F__law_is_rule_day.kp (F__law_is_rule_day.bindsN fun _ _ _ _ _ _ us hl => match us, hl with | [_, _], _ => rfl)
  have c__law_is_rule_day_5 : Cd Lw.prog w K mg base (tT K) 7 "_law_is_rule_day" (d__law_is_rule_day K 5) := cd_mk (ok__law_is_rule_day (P := Lw.prog) (w := w) (base := base) (TT := tT K) 4 T c__law_is_int c__law_month c__law_is_rule_day_4 F__law_is_rule_day) g__law_is_rule_day F__law_is_rule_day.kp (F__law_is_rule_day.bindsN fun _ _ _ _ _ _ us hl => match us, hl with | [_, _], _ => rfl)
  have c__law_is_rule_day := c__law_is_rule_day_5
  have o__law_told_right := ok__law_told_right (P := Lw.prog) (w := w) (base := base) (TT := tT K) T Gc L__law_told_right c__law_when_day c__law_number c__law_dated c_told_day v_told_day c__law_day_rule c__law_pick c__law_bent c__law_is_rule_day F__law_told_right rfl
  have c__law_told_right : Cd Lw.prog w K mg base (tT K) 13 "_law_told_right" (d__law_told_right K) := cd_mk o__law_told_right g__law_told_right F__law_told_right.kp (F__law_told_right.bindsN fun _ _ _ _ _ _ us hl => match us, hl with | [_, _, _], _ => rfl)
  have o_is_date := ok_is_date (P := Lw.prog) (w := w) (base := base) (TT := tT K) T c_is_whole c_month_days F_is_date
  have c_is_date : Cd Lw.prog w K mg base (tT K) 3 "is_date" (d_is_date K) := cd_mk o_is_date g_is_date F_is_date.kp (F_is_date.bindsN fun _ _ _ _ _ _ us hl => match us, hl with | [_], _ => rfl)
  have o_is_name := ok_is_name (P := Lw.prog) (w := w) (base := base) (TT := tT K) T F_is_name
  have c_is_name : Cd Lw.prog w K mg base (tT K) 1 "is_name" (d_is_name K) := cd_mk o_is_name g_is_name F_is_name.kp (F_is_name.bindsN fun _ _ _ _ _ _ us hl => match us, hl with | [_], _ => rfl)
  have o_is_plan_of := ok_is_plan_of (P := Lw.prog) (w := w) (base := base) (TT := tT K) T c_is_whole c_is_name F_is_plan_of
  have c_is_plan_of : Cd Lw.prog w K mg base (tT K) 2 "is_plan_of" (d_is_plan_of K) := cd_mk o_is_plan_of g_is_plan_of F_is_plan_of.kp (F_is_plan_of.bindsN fun _ _ _ _ _ _ us hl => match us, hl with | [_, _], _ => rfl)
  have o_is_dates := ok_is_dates (P := Lw.prog) (w := w) (base := base) (TT := tT K) T c_is_plan_of c_is_date F_is_dates
  have c_is_dates : Cd Lw.prog w K mg base (tT K) 4 "is_dates" (d_is_dates K) := cd_mk o_is_dates g_is_dates F_is_dates.kp (F_is_dates.bindsN fun _ _ _ _ _ _ us hl => match us, hl with | [_, _, _], _ => rfl)
  have o_is_calendar := ok_is_calendar (P := Lw.prog) (w := w) (base := base) (TT := tT K) T c_is_plan_of c_is_when c_is_dates F_is_calendar
  have c_is_calendar : Cd Lw.prog w K mg base (tT K) 9 "is_calendar" (d_is_calendar K) := cd_mk o_is_calendar g_is_calendar F_is_calendar.kp (F_is_calendar.bindsN fun _ _ _ _ _ _ us hl => match us, hl with | [_], _ => rfl)
  have w_is_calendar := cdk_mk (x := "is_calendar") o_is_calendar g_is_calendar F_is_calendar.kp (kbinds1 F_is_calendar (p := "value") (fun _ _ _ _ _ _ _ => rfl) fun _ _ _ _ _ _ _ => rfl)
  have o__law_days := ok__law_days (P := Lw.prog) (w := w) (base := base) (TT := tT K) T c__law_date c__law_when_day c__law_year c__law_pick c__law_dated F__law_days
  have c__law_days : Cd Lw.prog w K mg base (tT K) 7 "_law_days" (d__law_days K) := cd_mk o__law_days g__law_days F__law_days.kp (F__law_days.bindsN fun _ _ _ _ _ _ us hl => match us, hl with | [_, _], _ => rfl)
  have o__law_special := ok__law_special (P := Lw.prog) (w := w) (base := base) (TT := tT K) T c__law_number c__law_when_day F__law_special
  have c__law_special : Cd Lw.prog w K mg base (tT K) 7 "_law_special" (d__law_special K) := cd_mk o__law_special g__law_special F__law_special.kp (F__law_special.bindsN fun _ _ _ _ _ _ us hl => match us, hl with | [_, _], _ => rfl)
  have o__law_plan_of := ok__law_plan_of (P := Lw.prog) (w := w) (base := base) (TT := tT K) T c__law_number c__law_special F__law_plan_of
  have c__law_plan_of : Cd Lw.prog w K mg base (tT K) 8 "_law_plan_of" (d__law_plan_of K) := cd_mk o__law_plan_of g__law_plan_of F__law_plan_of.kp (F__law_plan_of.bindsN fun _ _ _ _ _ _ us hl => match us, hl with | [_, _], _ => rfl)
  have o_need_calendar := ok_need_calendar (P := Lw.prog) (w := w) (base := base) (TT := tT K) T c_is_calendar F_need_calendar
  have c_need_calendar : Cd Lw.prog w K mg base (tT K) 10 "need_calendar" (d_need_calendar K) := cd_mk o_need_calendar g_need_calendar F_need_calendar.kp (F_need_calendar.bindsN fun _ _ _ _ _ _ us hl => match us, hl with | [_], _ => rfl)
  have o_need_date := ok_need_date (P := Lw.prog) (w := w) (base := base) (TT := tT K) T c_is_date F_need_date
  have c_need_date : Cd Lw.prog w K mg base (tT K) 4 "need_date" (d_need_date K) := cd_mk o_need_date g_need_date F_need_date.kp (F_need_date.bindsN fun _ _ _ _ _ _ us hl => match us, hl with | [_], _ => rfl)
  have o_days_of := ok_days_of (P := Lw.prog) (w := w) (base := base) (TT := tT K) T c_is_leap F_days_of
  have c_days_of : Cd Lw.prog w K mg base (tT K) 2 "days_of" (d_days_of K) := cd_mk o_days_of g_days_of F_days_of.kp (F_days_of.bindsN fun _ _ _ _ _ _ us hl => match us, hl with | [_], _ => rfl)
  have o_year_table := ok_year_table (P := Lw.prog) (w := w) (base := base) (TT := tT K) T c_year_begin c_days_of c_day_of F_year_table
  have c_year_table : Cd Lw.prog w K mg base (tT K) 9 "year_table" (d_year_table K) := cd_mk o_year_table g_year_table F_year_table.kp (F_year_table.bindsN fun _ _ _ _ _ _ us hl => match us, hl with | [_, _], _ => rfl)
  have o_number_at := ok_number_at (P := Lw.prog) (w := w) (base := base) (TT := tT K) T c_year_begin c_day_in_year F_number_at
  have c_number_at : Cd Lw.prog w K mg base (tT K) 4 "number_at" (d_number_at K) := cd_mk o_number_at g_number_at F_number_at.kp (F_number_at.bindsN fun _ _ _ _ _ _ us hl => match us, hl with | [_], _ => rfl)
  have o_plan_on := ok_plan_on (P := Lw.prog) (w := w) (base := base) (TT := tT K) T c_need_calendar c_need_date c_year_table c_number_at c_year_begin F_plan_on
  have c_plan_on : Cd Lw.prog w K mg base (tT K) 11 "plan_on" (d_plan_on K) := cd_mk o_plan_on g_plan_on F_plan_on.kp (F_plan_on.bindsN fun _ _ _ _ _ _ us hl => match us, hl with | [_, _], _ => rfl)
  have v_plan_on := cdv_mk (x := "plan_on") o_plan_on g_plan_on F_plan_on.kp (kbinds2v F_plan_on (p := "calendar") (q := "date") (fun _ _ _ _ _ _ _ _ => rfl) (fun _ _ _ _ _ _ _ _ => rfl) fun _ _ _ _ _ _ _ _ => rfl)
  have o_need_hour := ok_need_hour (P := Lw.prog) (w := w) (base := base) (TT := tT K) T c_is_whole F_need_hour
  have c_need_hour : Cd Lw.prog w K mg base (tT K) 2 "need_hour" (d_need_hour K) := cd_mk o_need_hour g_need_hour F_need_hour.kp (F_need_hour.bindsN fun _ _ _ _ _ _ us hl => match us, hl with | [_], _ => rfl)
  have o_mode_in := ok_mode_in (P := Lw.prog) (w := w) (base := base) (TT := tT K) T F_mode_in
  have c_mode_in : Cd Lw.prog w K mg base (tT K) 1 "mode_in" (d_mode_in K) := cd_mk o_mode_in g_mode_in F_mode_in.kp (F_mode_in.bindsN fun _ _ _ _ _ _ us hl => match us, hl with | [_, _], _ => rfl)
  have o_mode_at := ok_mode_at (P := Lw.prog) (w := w) (base := base) (TT := tT K) T c_plan_on c_need_hour c_mode_in F_mode_at
  have c_mode_at : Cd Lw.prog w K mg base (tT K) 12 "mode_at" (d_mode_at K) := cd_mk o_mode_at g_mode_at F_mode_at.kp (F_mode_at.bindsN fun _ _ _ _ _ _ us hl => match us, hl with | [_, _, _], _ => rfl)
  have o__law_mode := ok__law_mode (P := Lw.prog) (w := w) (base := base) (TT := tT K) T F__law_mode
  have c__law_mode : Cd Lw.prog w K mg base (tT K) 1 "_law_mode" (d__law_mode K) := cd_mk o__law_mode g__law_mode F__law_mode.kp (F__law_mode.bindsN fun _ _ _ _ _ _ us hl => match us, hl with | [_, _], _ => rfl)
  have o__law_calendar_right := ok__law_calendar_right (P := Lw.prog) (w := w) (base := base) (TT := tT K) T Gc L__law_calendar_right c__law_days c__law_draw c__law_plan_of c_mode_at c__law_mode v_plan_on c__law_pick c__law_date F__law_calendar_right rfl
  have c__law_calendar_right : Cd Lw.prog w K mg base (tT K) 15 "_law_calendar_right" (d__law_calendar_right K) := cd_mk o__law_calendar_right g__law_calendar_right F__law_calendar_right.kp (F__law_calendar_right.bindsN fun _ _ _ _ _ _ us hl => match us, hl with | [_, _], _ => rfl)
  have o__law_tells := ok__law_tells (P := Lw.prog) (w := w) (base := base) (TT := tT K) T F__law_tells
  have c__law_tells : Cd Lw.prog w K mg base (tT K) 1 "_law_tells" (d__law_tells K) := cd_mk o__law_tells g__law_tells F__law_tells.kp (F__law_tells.bindsN fun _ _ _ _ _ _ us hl => match us, hl with | [_, _], _ => rfl)
  have o__law_is_mode := ok__law_is_mode (P := Lw.prog) (w := w) (base := base) (TT := tT K) T F__law_is_mode
  have c__law_is_mode : Cd Lw.prog w K mg base (tT K) 1 "_law_is_mode" (d__law_is_mode K) := cd_mk o__law_is_mode g__law_is_mode F__law_is_mode.kp (F__law_is_mode.bindsN fun _ _ _ _ _ _ us hl => match us, hl with | [_], _ => rfl)
  have o__law_is_plan := ok__law_is_plan (P := Lw.prog) (w := w) (base := base) (TT := tT K) T c__law_is_mode c__law_is_int F__law_is_plan
  have c__law_is_plan : Cd Lw.prog w K mg base (tT K) 2 "_law_is_plan" (d__law_is_plan K) := cd_mk o__law_is_plan g__law_is_plan F__law_is_plan.kp (F__law_is_plan.bindsN fun _ _ _ _ _ _ us hl => match us, hl with | [_], _ => rfl)
  have o__law_is_day := ok__law_is_day (P := Lw.prog) (w := w) (base := base) (TT := tT K) T c__law_is_int c__law_month F__law_is_day
  have c__law_is_day : Cd Lw.prog w K mg base (tT K) 3 "_law_is_day" (d__law_is_day K) := cd_mk o__law_is_day g__law_is_day F__law_is_day.kp (F__law_is_day.bindsN fun _ _ _ _ _ _ us hl => match us, hl with | [_], _ => rfl)
  have o__law_is_yearly := ok__law_is_yearly (P := Lw.prog) (w := w) (base := base) (TT := tT K) T c__law_is_plan c__law_is_day c__law_is_rule_day F__law_is_yearly
  have c__law_is_yearly : Cd Lw.prog w K mg base (tT K) 8 "_law_is_yearly" (d__law_is_yearly K) := cd_mk o__law_is_yearly g__law_is_yearly F__law_is_yearly.kp (F__law_is_yearly.bindsN fun _ _ _ _ _ _ us hl => match us, hl with | [_], _ => rfl)
  exact ok_law (P := Lw.prog) (w := w) (base := base) (TT := tT K) T Gc L_law c__law_begun c__law_calendar c__law_draw c__law_calendar_right c_is_calendar w_is_calendar c__law_told_right c__law_year c__law_bent c__law_tells c__law_is_yearly c_plan_on F_law rfl
end K81

/-! part Po -/
namespace K81
open PySem PySem.Spec PyProof.Rows L2
end K81
open PySem PySem.W PySem.Calls PyProof.Rows
theorem PySem.Challenge.cw_housekept_k81_calendars_day_by_day_holds : PySem.Challenge.rw_housekept_k81_calendars_day_by_day.Holds := by
  w_on; o_law
  refine HandSHeadRun.head_any (r := K81.Rw) (q := view K81.Rw.prog [73]) (H := K81.hkL) (ob := K81.obL) (M := 4000) (loose := K81.looseL) (d := HandSHeadRun.topDef K81.Rw.prog 73) (kwd := []) K81.obL_eq
    (by kernel_rfl) (fun s => by kernel_rfl) K81.run (by kernel_rfl) (by kernel_rfl) (by kernel_rfl) (by rfl) (by first | assumption | decide +kernel) (by decide +kernel) ⟨rfl, rfl, rfl, rfl, rfl, by decide +kernel⟩ ?hw ?hc
  case hw => w_witness2
  case hc =>
    refine LamX.walk_ofTsE (l := K81.Lw) (n := 63) (k := 16) (x := "script") (CX := fun w => L2.CX K81.Lw.prog w) rfl (by decide) (by kernel_rfl) ⟨rfl, by decide, by decide⟩ ?F (fun _ _ _ _ _ z => by
      obtain ⟨_, _, _, _, _, _, _, _, _, _, _, _, z⟩ := z
      exact z)
    intro w mg fa h Y G hmg0
    obtain ⟨K, KX, c⟩ := Y
    have hmg : mg ("law" : PySem.Str) = some (.ref fa) := by
      have e : (HandSHeadRun.topDef K81.Rw.prog 73).name = ("law" : PySem.Str) := by kernel_rfl
      rw [← e]
      exact hmg0
    exact ⟨K, KX, K81.facts KX G hmg c⟩

end
